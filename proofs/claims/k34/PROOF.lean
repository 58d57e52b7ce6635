import PyProof.Rows.All
import Wide.All
import OpenK.AllK
import Wide.FinOn
import HandS.ForMost
import HandS.IsInst
import HandS.Wide
import HandS.TupAny
import HandS.WideBits
import HandS.Flow
import PyProof.NeKinds
import HandS.EndBits
import HandS.Style
import HandS.RaiseMore
import PyProof.ReprRoads
import HandS.Conv
import KE.KUnpackStar
import HandS.TupMul
import KE.DataMinMax
import HandS.SortKw
import HandS.Zip
import PyProof.Draws
import HandS.MakeKwOnly
import KE.KRevSl
import KE.GoesMore
import HandS.Deep
import HandS.More
import HandS.NoneIn
import KE.SortData
import HandS.DictComp
import HandS.WordsDict
import HandS.SetKeys
import KE.KDictZip
import HandS.ListItems
import PySem.Challenge.RW_wiretongue_k34_gates_beat_by_beat
set_option Elab.async false
set_option linter.all false
set_option autoImplicit false
set_option maxRecDepth 100000
set_option maxHeartbeats 4000000
/-! DL: readings at the level of data. -/
namespace DL
open PySem PySem.Spec PyProof.Rows L2
abbrev D := PyData
/-- what an object that is written holds -/
inductive SC where
  | lst (xs : List D)
  | ins (C : Addr) (fs : List (Str × D))
  | dic (kvs : List (Key × D))
/-- what is known of a slot: nothing, data (published), the handle, an object that is written (none: one's own, not shared; some j: lent, the j-th); as an argument: the object in slot i -/
inductive EV where
  | un
  | d (x : D)
  | hd
  | mo (w : Option Nat) (c : SC)
  | at (i : Nat)
abbrev EV.own (xs : List D) : EV := .mo none (.lst xs)
abbrev DEnv := List EV
/-- the deck: a dict with its cells (a list at c), seed, at -/
def deckKv (c : Addr) (seed ct : Int) : List (Key × V) := [(Sum.inr "cells", .ref c), (Sum.inr "seed", .int seed), (Sum.inr "at", .int ct)]
def bigM : Int := 170141183460469231731687303715884105727
/-- more draws than any law makes -/
@[irreducible] def ctMax : Nat := 2 ^ 100000
def deckInv (dk c : Addr) (B : Nat) (H : Hp) : Prop := dk ≠ c ∧ ∃ (cells : List Int) (seed ct : Int), H dk = some (.dK (deckKv c seed ct)) ∧ H c = some (.lst (cells.map V.int)) ∧ cells.length ≤ 63 ∧
  (∀ z ∈ cells, Builtin.Int.intBits z ≤ 1048576) ∧ 0 ≤ seed ∧ seed < bigM ∧ 0 ≤ ct ∧ ct + (B : Int) ≤ (ctMax : Int)
/-- the handle: none, or a deck by its two addresses -/
abbrev Wk := Option (Addr × Addr)
def Wk.hv : Wk → V
  | none => .non
  | some (dk, _) => .ref dk
def Wk.mu : Wk → Addr → Prop
  | none, _ => False
  | some (dk, c), a => a = dk ∨ a = c
def Wk.inv : Wk → Nat → Hp → Prop
  | none, _, _ => True
  | some (dk, c), B, H => deckInv dk c B H
/-- the handle, and what is lent -/
structure Wd where
  dk : Wk
  sh : List Addr
abbrev Wd.of (k : Wk) : Wd := ⟨k, []⟩
def Wd.hv (W : Wd) : V := W.dk.hv
def Wd.mu (W : Wd) (a : Addr) : Prop := W.dk.mu a ∨ a ∈ W.sh
def Wd.inv (W : Wd) (B : Nat) (H : Hp) : Prop := W.dk.inv B H ∧ (∀ a ∈ W.sh, ¬ W.dk.mu a) ∧ ∀ a ∈ W.sh, ∃ o, H a = some o
theorem Wk.loc : ∀ (W : Wk) (B : Nat) (H H' : Hp), (∀ a, W.mu a → H' a = H a) → W.inv B H → W.inv B H'
  | none, _, _, _, _, _ => trivial
  | some (dk, c), B, H, H', e, h => by
    obtain ⟨ne, cells, seed, ct, h1, h2, r⟩ := h
    exact ⟨ne, cells, seed, ct, (e dk (.inl rfl)).trans h1, (e c (.inr rfl)).trans h2, r⟩
theorem Wk.trk : ∀ (W : Wk) (B : Nat) (H : Hp) (a : Addr), W.inv B H → W.mu a → ∃ o, H a = some o
  | none, _, _, _, _, m => m.elim
  | some (dk, c), B, H, a, h, m => by
    obtain ⟨ne, cells, seed, ct, h1, h2, r⟩ := h
    rcases m with rfl | rfl
    · exact ⟨_, h1⟩
    · exact ⟨_, h2⟩
theorem Wk.low : ∀ (W : Wk) (B B' : Nat) (H : Hp), B' ≤ B → W.inv B H → W.inv B' H
  | none, _, _, _, _, _ => trivial
  | some (dk, c), B, B', H, l, h => by
    obtain ⟨ne, cells, seed, ct, h1, h2, h3, h4, h5, h6, h7, h8⟩ := h
    exact ⟨ne, cells, seed, ct, h1, h2, h3, h4, h5, h6, h7, by omega⟩
/-- a step that keeps the deck and what is lent, though it may write into the latter -/
theorem Wd.loc' (W : Wd) (B : Nat) (H H' : Hp) (e : ∀ a, W.dk.mu a → H' a = H a) (f : ∀ a ∈ W.sh, ∃ o, H' a = some o) (h : W.inv B H) : W.inv B H' := ⟨W.dk.loc B H H' e h.1, h.2.1, f⟩
theorem Wd.loc (W : Wd) (B : Nat) (H H' : Hp) (e : ∀ a, W.mu a → H' a = H a) (h : W.inv B H) : W.inv B H' :=
  W.loc' B H H' (fun a m => e a (.inl m)) (fun a m => by rw [e a (.inr m)]; exact h.2.2 a m) h
theorem Wd.trk (W : Wd) (B : Nat) (H : Hp) (a : Addr) (h : W.inv B H) (m : W.mu a) : ∃ o, H a = some o := m.elim (fun m => W.dk.trk B H a h.1 m) fun m => h.2.2 a m
theorem Wd.low (W : Wd) (B B' : Nat) (H : Hp) (l : B' ≤ B) (h : W.inv B H) : W.inv B' H := ⟨W.dk.low B B' H l h.1, h.2⟩
theorem of_mu {k : Wk} {a : Addr} : (Wd.of k).mu a ↔ k.mu a := ⟨fun m => m.elim id fun z => (by cases z), .inl⟩
theorem of_inv {k : Wk} {B : Nat} {H : Hp} : (Wd.of k).inv B H ↔ k.inv B H := ⟨fun h => h.1, fun h => ⟨h, (fun a z => by cases z), fun a z => by cases z⟩⟩
/-- a key as data -/
def keyD : Key → D
  | .inl i => .int i
  | .inr z => .str z
mutual
/-- a value is data: lists and dicts are tracked ones, tuples may stand in the written part -/
inductive Dr (K : PySem.W.Frag) (G : Hp) : V → D → Prop
  | non : Dr K G .non .none
  | bl (b : Bool) : Dr K G (.bl b) (.bool b)
  | int (i : Int) : Dr K G (.int i) (.int i)
  | str (x : Str) : Dr K G (.str x) (.str x)
  | lst {a : Addr} {xs : List V} {ds : List D} : G a = some (.lst xs) → DrAll K G xs ds → Dr K G (.ref a) (.list ds)
  | tup {a : Addr} {xs : List V} {ds : List D} : SqT K G a xs → DrAll K G xs ds → Dr K G (.ref a) (.tuple ds)
  | dic {a : Addr} {kvs : List (Key × V)} {ds : List (D × D)} : Rd G a (.dK kvs) → DrKv K G kvs ds → Dr K G (.ref a) (.dict ds)
inductive DrAll (K : PySem.W.Frag) (G : Hp) : List V → List D → Prop
  | nil : DrAll K G [] []
  | cons {v : V} {vs : List V} {d : D} {ds : List D} : Dr K G v d → DrAll K G vs ds → DrAll K G (v :: vs) (d :: ds)
inductive DrKv (K : PySem.W.Frag) (G : Hp) : List (Key × V) → List (D × D) → Prop
  | nil : DrKv K G [] []
  | cons {k : Key} {v : V} {vs : List (Key × V)} {d : D} {ds : List (D × D)} : Dr K G v d → DrKv K G vs ds → DrKv K G ((k, v) :: vs) ((keyD k, d) :: ds)
end
section
variable {K : PySem.W.Frag}
theorem same_sqT {H H' : Hp} {a : Addr} {xs : List V} (e : Same H H') (h : SqT K H a xs) : SqT K H' a xs := by
  rcases h with (h | ⟨o, h⟩) | h
  · exact .inl (.inl (e _ _ h))
  · exact .inl (.inr ⟨o, e _ _ h⟩)
  · exact .inr h
theorem same_rd {G G' : Hp} (e : Same G G') {a : Addr} {u : HO} (h : Rd G a u) : Rd G' a u := by
  rcases h with h | ⟨o, h⟩
  · exact .inl (e _ _ h)
  · exact .inr ⟨o, e _ _ h⟩
mutual
theorem dp_same {G G' : Hp} (e : Same G G') : ∀ {v : V} {x : D}, Dr K G v x → Dr K G' v x
  | _, _, .non => .non
  | _, _, .bl b => .bl b
  | _, _, .int i => .int i
  | _, _, .str z => .str z
  | _, _, .lst h a => .lst (e _ _ h) (dpAll_same e a)
  | _, _, .tup h a => .tup (same_sqT e h) (dpAll_same e a)
  | _, _, .dic h a => .dic (same_rd e h) (dpKv_same e a)
theorem dpAll_same {G G' : Hp} (e : Same G G') : ∀ {vs : List V} {xs : List D}, DrAll K G vs xs → DrAll K G' vs xs
  | _, _, .nil => .nil
  | _, _, .cons h t => .cons (dp_same e h) (dpAll_same e t)
theorem dpKv_same {G G' : Hp} (e : Same G G') : ∀ {vs : List (Key × V)} {xs : List (D × D)}, DrKv K G vs xs → DrKv K G' vs xs
  | _, _, .nil => .nil
  | _, _, .cons h t => .cons (dp_same e h) (dpKv_same e t)
end
theorem dpAll_len {G : Hp} : ∀ {vs : List V} {xs : List D}, DrAll K G vs xs → vs.length = xs.length
  | _, _, .nil => rfl
  | _, _, .cons _ t => congrArg (· + 1) (dpAll_len t)
theorem dpAll_app {G : Hp} : ∀ {vs us : List V} {xs ys : List D}, DrAll K G vs xs → DrAll K G us ys → DrAll K G (vs ++ us) (xs ++ ys)
  | _, _, _, _, .nil, h => h
  | _, _, _, _, .cons a t, h => .cons a (dpAll_app t h)
theorem dpAll_one {G : Hp} {v : V} {x : D} (h : Dr K G v x) : DrAll K G [v] [x] := .cons h .nil
theorem dpAll_get {G : Hp} : ∀ {vs : List V} {xs : List D} {i : Nat} {x : D}, DrAll K G vs xs → xs[i]? = some x → ∃ v, vs[i]? = some v ∧ Dr K G v x
  | _, _, 0, _, .cons a _, h => by
    cases h
    exact ⟨_, rfl, a⟩
  | _, _, i + 1, _, .cons _ t, h => by
    obtain ⟨v, e, q⟩ := dpAll_get (i := i) t h
    exact ⟨v, e, q⟩
theorem dpAll_getV {G : Hp} : ∀ {vs : List V} {xs : List D} {i : Nat} {v : V}, DrAll K G vs xs → vs[i]? = some v → ∃ x, xs[i]? = some x ∧ Dr K G v x
  | _, _, 0, _, .cons a _, h => by
    cases h
    exact ⟨_, rfl, a⟩
  | _, _, i + 1, _, .cons _ t, h => by
    obtain ⟨v, e, q⟩ := dpAll_getV (i := i) t h
    exact ⟨v, e, q⟩
theorem dpAll_take {G : Hp} : ∀ {vs : List V} {xs : List D} (n : Nat), DrAll K G vs xs → DrAll K G (vs.take n) (xs.take n)
  | _, _, 0, _ => .nil
  | _, _, _ + 1, .nil => .nil
  | _, _, n + 1, .cons a t => .cons a (dpAll_take n t)
theorem dpAll_drop {G : Hp} : ∀ {vs : List V} {xs : List D} (n : Nat), DrAll K G vs xs → DrAll K G (vs.drop n) (xs.drop n)
  | _, _, 0, h => h
  | _, _, _ + 1, .nil => .nil
  | _, _, n + 1, .cons _ t => dpAll_drop n t
theorem dpAll_set {G : Hp} {v : V} {x : D} (a : Dr K G v x) : ∀ {vs : List V} {xs : List D} (n : Nat), DrAll K G vs xs → DrAll K G (vs.set n v) (xs.set n x)
  | _, _, _, .nil => .nil
  | _, _, 0, .cons _ t => .cons a t
  | _, _, n + 1, .cons b t => .cons b (dpAll_set a n t)
theorem dpAll_rev {G : Hp} : ∀ {vs : List V} {xs : List D}, DrAll K G vs xs → DrAll K G vs.reverse xs.reverse
  | _, _, .nil => .nil
  | _, _, .cons a t => by
    rw [List.reverse_cons, List.reverse_cons]
    exact dpAll_app (dpAll_rev t) (dpAll_one a)
theorem dp_int {G : Hp} {v : V} {i : Int} (h : Dr K G v (.int i)) : v = .int i := by cases h; rfl
theorem dp_str {G : Hp} {v : V} {z : Str} (h : Dr K G v (.str z)) : v = .str z := by cases h; rfl
theorem dp_bl {G : Hp} {v : V} {b : Bool} (h : Dr K G v (.bool b)) : v = .bl b := by cases h; rfl
theorem dp_non {G : Hp} {v : V} (h : Dr K G v .none) : v = .non := by cases h; rfl
theorem dp_lst {G : Hp} {v : V} {xs : List D} (h : Dr K G v (.list xs)) : ∃ a vs, v = .ref a ∧ G a = some (.lst vs) ∧ DrAll K G vs xs := by
  cases h
  exact ⟨_, _, rfl, by assumption, by assumption⟩
theorem dp_tup {G : Hp} {v : V} {xs : List D} (h : Dr K G v (.tuple xs)) : ∃ a vs, v = .ref a ∧ SqT K G a vs ∧ DrAll K G vs xs := by
  cases h
  exact ⟨_, _, rfl, by assumption, by assumption⟩
theorem dp_dic {G : Hp} {v : V} {xs : List (D × D)} (h : Dr K G v (.dict xs)) : ∃ a vs, v = .ref a ∧ Rd G a (.dK vs) ∧ DrKv K G vs xs := by
  cases h
  exact ⟨_, _, rfl, by assumption, by assumption⟩
mutual
def noDict : D → Bool
  | .dict _ => false
  | .list xs => noDicts xs
  | .tuple xs => noDicts xs
  | _ => true
def noDicts : List D → Bool
  | [] => true
  | x :: r => noDict x && noDicts r
end
mutual
theorem dr_dp {G : Hp} : ∀ {v : V} {x : D}, Dr K G v x → noDict x = true → Dp K G v x
  | _, _, .non, _ => .non
  | _, _, .bl b, _ => .bl b
  | _, _, .int i, _ => .int i
  | _, _, .str z, _ => .str z
  | _, _, .lst h a, n => .lst (SqL.of h) (drAll_dp a (by simpa [noDict] using n))
  | _, _, .tup h a, n => .tup h (drAll_dp a (by simpa [noDict] using n))
  | _, _, .dic h a, n => by simp [noDict] at n
theorem drAll_dp {G : Hp} : ∀ {vs : List V} {xs : List D}, DrAll K G vs xs → noDicts xs = true → DpAll K G vs xs
  | _, _, .nil, _ => .nil
  | _, _, .cons h t, n => by
    simp only [noDicts, Bool.and_eq_true] at n
    exact .cons (dr_dp h n.1) (drAll_dp t n.2)
end
/-- ints, texts, truths, None as values -/
def atomV : D → Option V
  | .none => some .non
  | .bool b => some (.bl b)
  | .int i => some (.int i)
  | .str z => some (.str z)
  | _ => none
theorem dp_atom {G : Hp} {x : D} {v : V} (h : atomV x = some v) : Dr K G v x := by
  cases x <;> simp [atomV] at h <;> subst h <;> constructor
theorem atom_dp {G : Hp} {x : D} {v u : V} (h : atomV x = some v) (q : Dr K G u x) : u = v := by
  cases x <;> simp [atomV] at h <;> subst h <;> cases q <;> rfl

/-! ### states -/
/-- what is published is there -/
def Pub (G H : Hp) : Prop := ∀ a o, G a = some o → H a = some o
theorem Pub.of {G H : Hp} (s : Same G H) : Pub G H := s
theorem Pub.free {G H : Hp} (s : Pub G H) {a : Addr} (h : H a = none) : G a = none := Same.free s h
theorem Pub.lst {G H : Hp} (s : Pub G H) {a : Addr} {us : List V} (h : G a = some (.lst us)) : H a = some (.lst us) := s _ _ h
theorem Pub.tup {G H : Hp} (s : Pub G H) {a : Addr} {us : List V} (h : G a = some (.tup us)) : H a = some (.tup us) := s _ _ h
theorem Pub.frz {G H : Hp} (s : Pub G H) {a : Addr} {ob : Obj} {u : HO} (h : G a = some (.frz ob u)) : H a = some (.frz ob u) := s _ _ h
theorem Pub.dk {G H : Hp} (s : Pub G H) {a : Addr} {kvs : List (Key × V)} (h : Rd G a (.dK kvs)) : Rd H a (.dK kvs) := h.imp (s _ _) fun ⟨o, h⟩ => ⟨o, s _ _ h⟩
theorem Pub.before {G G' H : Hp} (e : Same G G') (s : Pub G' H) : Pub G H := fun a o h => s a o (e a o h)
theorem Pub.after {G H H' : Hp} (s : Pub G H) (e : Same H H') : Pub G H' := fun a o h => e _ _ (s a o h)
mutual
theorem dp_pub {K : PySem.W.Frag} {G H : Hp} (s : Pub G H) : ∀ {v : V} {x : D}, Dr K G v x → noDict x = true → Dr K H v x
  | _, _, .non, _ => .non
  | _, _, .bl b, _ => .bl b
  | _, _, .int i, _ => .int i
  | _, _, .str z, _ => .str z
  | _, _, .lst h a, n => .lst (s.lst h) (dpAll_pub s a (by simpa [noDict] using n))
  | _, _, .tup h a, n => .tup (by
      rcases h with (h | ⟨o, h⟩) | h
      · exact .inl (.inl (s.tup h))
      · exact .inl (.inr ⟨o, s.frz h⟩)
      · exact .inr h) (dpAll_pub s a (by simpa [noDict] using n))
  | _, _, .dic h a, n => by simp [noDict] at n
theorem dpAll_pub {K : PySem.W.Frag} {G H : Hp} (s : Pub G H) : ∀ {vs : List V} {xs : List D}, DrAll K G vs xs → noDicts xs = true → DrAll K H vs xs
  | _, _, .nil, _ => .nil
  | _, _, .cons h t, n => by
    simp only [noDicts, Bool.and_eq_true] at n
    exact .cons (dp_pub s h n.1) (dpAll_pub s t n.2)
end
theorem pub_sqT {K : PySem.W.Frag} {G H : Hp} {a : Addr} {xs : List V} (s : Pub G H) (h : SqT K G a xs) : SqT K H a xs := by
  rcases h with (h | ⟨o, h⟩) | h
  · exact .inl (.inl (s.tup h))
  · exact .inl (.inr ⟨o, s.frz h⟩)
  · exact .inr h
structure RW (W : Wd) (B : Nat) (G0 H0 G H : Hp) : Prop where
  g0 : Same G0 G
  pub : Pub G H
  gm : ∀ a, W.mu a → G a = none
  inv : W.inv B H
  fr : ∀ a o, H0 a = some o → ¬ W.mu a → H a = some o
  pn : ∀ a o, G a = some o → G0 a = none → H0 a = none
/-- fields, entries by data -/
inductive DrFs {α : Type} (K : PySem.W.Frag) (G : Hp) : List (α × V) → List (α × D) → Prop
  | nil : DrFs K G [] []
  | cons {k : α} {v : V} {vs : List (α × V)} {d : D} {ds : List (α × D)} : Dr K G v d → DrFs K G vs ds → DrFs K G ((k, v) :: vs) ((k, d) :: ds)
theorem drFs_same {α : Type} {G G' : Hp} (e : Same G G') : ∀ {vs : List (α × V)} {xs : List (α × D)}, DrFs K G vs xs → DrFs K G' vs xs
  | _, _, .nil => .nil
  | _, _, .cons h t => .cons (dp_same e h) (drFs_same e t)
def ScOk (K : PySem.W.Frag) (G H : Hp) (l : Addr) : SC → Prop
  | .lst xs => ∃ vs, H l = some (.lst vs) ∧ DrAll K G vs xs
  | .ins C fs => ∃ dx us, H l = some (.ins C dx us) ∧ DrFs K G us fs
  | .dic kvs => ∃ us, H l = some (.dK us) ∧ DrFs K G us kvs
theorem scok_some {G H : Hp} {l : Addr} : ∀ {c : SC}, ScOk K G H l c → ∃ o, H l = some o
  | .lst _, ⟨_, h, _⟩ => ⟨_, h⟩
  | .ins _ _, ⟨_, _, h, _⟩ => ⟨_, h⟩
  | .dic _, ⟨_, h, _⟩ => ⟨_, h⟩
theorem scok_later {G G' H H' : Hp} {l : Addr} (s : Same G G') (e : ∀ o, H l = some o → H' l = some o) : ∀ {c : SC}, ScOk K G H l c → ScOk K G' H' l c
  | .lst _, ⟨vs, h, q⟩ => ⟨vs, e _ h, dpAll_same s q⟩
  | .ins _ _, ⟨dx, us, h, q⟩ => ⟨dx, us, e _ h, drFs_same s q⟩
  | .dic _, ⟨us, h, q⟩ => ⟨us, e _ h, drFs_same s q⟩
/-- whose it is -/
def Owns (W : Wd) (H0 : Hp) (l : Addr) : Option Nat → Prop
  | none => H0 l = none ∧ ¬ W.mu l
  | some j => W.sh[j]? = some l
def SlotOk (K : PySem.W.Frag) (W : Wd) (H0 G H : Hp) : EV → Option V → Prop
  | .un, _ => True
  | .d x, s => ∃ v, s = some v ∧ Dr K G v x
  | .hd, s => s = some W.hv ∧ W.dk ≠ none
  | .mo w c, s => ∃ l, s = some (.ref l) ∧ G l = none ∧ Owns W H0 l w ∧ ScOk K G H l c
  | .at _, _ => True
structure Rel (K : PySem.W.Frag) (W : Wd) (B : Nat) (G0 H0 G : Hp) (env : DEnv) (σ : L2.St) (H : Hp) : Prop extends RW W B G0 H0 G H where
  len : env.length = σ.length
  slot : ∀ (i : Nat) e s, env[i]? = some e → σ[i]? = some s → SlotOk K W H0 G H e s
  dis : ∀ (i j : Nat) wi ci wj cj l, i ≠ j → env[i]? = some (.mo wi ci) → env[j]? = some (.mo wj cj) → σ[i]? = some (some (.ref l)) → σ[j]? ≠ some (some (.ref l))
/-- a step that makes new objects alone, some of them published -/
structure Grow (G H G' H' : Hp) : Prop where
  eg : Same G G'
  eh : Same H H'
  pub : Pub G' H'
  new : ∀ a o, G' a = some o → G a = none → H a = none
theorem Grow.refl {G H : Hp} (p : Pub G H) : Grow G H G H := ⟨Same.refl _, Same.refl _, p, fun _ _ h h' => by rw [h] at h'; cases h'⟩
theorem Grow.trans {G H G1 H1 G2 H2 : Hp} (a : Grow G H G1 H1) (b : Grow G1 H1 G2 H2) : Grow G H G2 H2 :=
  ⟨a.eg.trans b.eg, a.eh.trans b.eh, b.pub, fun x o h h' => by
    cases e : G1 x with
    | none => exact a.eh.free (b.new x o h e)
    | some u => exact a.new x u e h'⟩
theorem same_upd {H : Hp} {p : Addr} {o : HO} (h : H p = none) : Same H (upd H p o) := fun b x e => by
  rw [upd_ne (ne_of_none e h)]
  exact e
/-- a new object, published -/
theorem Grow.new1 {G H : Hp} {p : Addr} {o : HO} (s : Pub G H) (h : H p = none) : Grow G H (upd G p o) (upd H p o) :=
  ⟨same_upd (s.free h), same_upd h, fun a u e => by
    by_cases z : a = p
    · subst z
      rw [upd_same] at e ⊢
      exact e
    · rw [upd_ne z] at e ⊢
      exact s a u e, fun a u e e' => by
    by_cases z : a = p
    · subst z
      exact h
    · rw [upd_ne z, e'] at e
      cases e⟩
/-- a new object, not published -/
theorem Grow.hid {G H : Hp} {p : Addr} {o : HO} (s : Pub G H) (h : H p = none) : Grow G H G (upd H p o) :=
  ⟨Same.refl _, same_upd h, s.after (same_upd h), fun a u e e' => by rw [e'] at e; cases e⟩
theorem slot_grow {W : Wd} {H0 G H G' H' : Hp} (g : Grow G H G' H') : ∀ {e : EV} {s : Option V}, SlotOk K W H0 G H e s → SlotOk K W H0 G' H' e s
  | .un, _, _ => trivial
  | .d _, _, ⟨v, e, q⟩ => ⟨v, e, dp_same g.eg q⟩
  | .mo w c, _, ⟨l, e, n, o, q⟩ => ⟨l, e, (by
      cases z : G' l with
      | none => rfl
      | some u =>
        have := g.new l u z n
        obtain ⟨u2, h⟩ := scok_some q
        rw [h] at this
        cases this), o, scok_later g.eg (g.eh l) q⟩
  | .hd, _, h => h
  | .at _, _, _ => trivial
theorem RW.grow {W : Wd} {B : Nat} {G0 H0 G H G' H' : Hp} (r : RW W B G0 H0 G H) (g : Grow G H G' H') : RW W B G0 H0 G' H' where
  g0 := r.g0.trans g.eg
  pub := g.pub
  gm := fun a m => by
    cases z : G' a with
    | none => rfl
    | some o =>
      obtain ⟨u, e⟩ := W.trk B H a r.inv m
      have := g.new a o z (r.gm a m)
      rw [e] at this
      cases this
  inv := W.loc B H H' (fun a m => by
    obtain ⟨u, e⟩ := W.trk B H a r.inv m
    rw [e]
    exact g.eh _ _ e) r.inv
  fr := fun a o h m => g.eh _ _ (r.fr a o h m)
  pn := fun a o h h0 => by
    cases z : G a with
    | some u => exact r.pn a u z h0
    | none =>
      have hn := g.new a o h z
      cases y : H0 a with
      | none => rfl
      | some u =>
        by_cases m : W.mu a
        · obtain ⟨u2, e⟩ := W.trk B H a r.inv m
          rw [e] at hn
          cases hn
        · rw [r.fr a u y m] at hn
          cases hn
theorem Rel.grow {W : Wd} {B : Nat} {G0 H0 G H G' H' : Hp} {env : DEnv} {σ : L2.St} (r : Rel K W B G0 H0 G env σ H) (g : Grow G H G' H') : Rel K W B G0 H0 G' env σ H' :=
  { r.toRW.grow g with len := r.len, slot := fun i e s h1 h2 => slot_grow g (r.slot i e s h1 h2), dis := r.dis }
/-- behind a call that may write at the deck, and at what was lent to it -/
theorem RW.trans {W W' : Wd} {B B' : Nat} {G0 H0 G H G' H' : Hp} (r : RW W B G0 H0 G H) (hk : W'.dk = W.dk) (hs : ∀ a ∈ W'.sh, W.mu a ∨ H0 a = none) (q : RW W' B' G H G' H') : RW W B' G0 H0 G' H' := by
  have gm : ∀ a, W.mu a → G' a = none := fun a m => by
    cases z : G' a with
    | none => rfl
    | some u =>
      obtain ⟨o, e⟩ := W.trk B H a r.inv m
      have := q.pn a u z (r.gm a m)
      rw [e] at this
      cases this
  have nm : ∀ a o, H0 a = some o → ¬ W.mu a → ¬ W'.mu a := fun a o h m m' => by
    rcases m' with m' | m'
    · rw [hk] at m'
      exact m (.inl m')
    · rcases hs a m' with h1 | h1
      · exact m h1
      · rw [h] at h1
        cases h1
  exact {
    g0 := r.g0.trans q.g0
    pub := q.pub
    gm := gm
    inv := ⟨by rw [← hk]; exact q.inv.1, r.inv.2.1, fun a m => by
      obtain ⟨o, e⟩ := r.inv.2.2 a m
      by_cases z : W'.mu a
      · exact W'.trk B' H' a q.inv z
      · exact ⟨o, q.fr a o e z⟩⟩
    fr := fun a o h m => q.fr a o (r.fr a o h m) (nm a o h m)
    pn := fun a o h h0 => by
      cases z : G a with
      | some u => exact r.pn a u z h0
      | none =>
        have hn := q.pn a o h z
        cases y : H0 a with
        | none => rfl
        | some u =>
          by_cases m : W.mu a
          · rw [gm a m] at h
            cases h
          · rw [r.fr a u y m] at hn
            cases hn }
theorem Rel.mo_ndk {W : Wd} {B : Nat} {G0 H0 G H : Hp} {env : DEnv} {σ : L2.St} {i : Nat} {w : Option Nat} {c : SC} {l : Addr} (r : Rel K W B G0 H0 G env σ H) (h : env[i]? = some (.mo w c)) (hs : σ[i]? = some (some (.ref l))) : ¬ W.dk.mu l := by
  obtain ⟨l2, e2, n, o, q⟩ := r.slot i _ _ h hs
  cases e2
  cases w with
  | none => exact fun m => o.2 (.inl m)
  | some j => exact r.inv.2.1 l (List.mem_of_getElem? o)
/-- slots behind such a call: as they were, or the new contents of what was lent to it -/
theorem Rel.after' {W W' : Wd} {B B' : Nat} {G0 H0 G H G' H' : Hp} {env env' : DEnv} {σ : L2.St} (r : Rel K W B G0 H0 G env σ H) (hk : W'.dk = W.dk) (hs : ∀ a ∈ W'.sh, W.mu a ∨ H0 a = none) (q : RW W' B' G H G' H') (hl : env'.length = env.length)
    (he : ∀ (i : Nat) e, env'[i]? = some e → (env[i]? = some e ∧ ∀ w c l, e = .mo w c → σ[i]? = some (some (.ref l)) → l ∉ W'.sh) ∨ ∃ w c c' l, env[i]? = some (.mo w c) ∧ e = .mo w c' ∧ σ[i]? = some (some (.ref l)) ∧ ScOk K G' H' l c') : Rel K W B' G0 H0 G' env' σ H' := by
  have rw' := r.toRW.trans hk hs q
  have gn : ∀ l, G l = none → (∃ o, H l = some o) → G' l = none := fun l n ⟨o, h⟩ => by
    cases z : G' l with
    | none => rfl
    | some u =>
      have := q.pn l u z n
      rw [h] at this
      cases this
  exact { rw' with
    len := hl.trans r.len
    slot := fun i x s h1 h2 => by
      rcases he i x h1 with ⟨e0, hn⟩ | ⟨w, c, c', l, e0, rfl, hs2, hc⟩
      · have h := r.slot i x s e0 h2
        cases x with
        | un => trivial
        | d x =>
          obtain ⟨v, e1, q1⟩ := h
          exact ⟨v, e1, dp_same q.g0 q1⟩
        | hd => exact h
        | «at» _ => trivial
        | mo w c =>
          obtain ⟨l, e1, n, o, q1⟩ := h
          subst e1
          have nm : ¬ W'.mu l := fun m => by
            rcases m with m | m
            · rw [hk] at m
              exact r.mo_ndk e0 h2 m
            · exact hn w c l rfl h2 m
          exact ⟨l, rfl, gn l n (scok_some q1), o, scok_later q.g0 (fun u hu => q.fr l u hu nm) q1⟩
      · obtain ⟨l2, e1, n, o, q1⟩ := r.slot i _ s e0 h2
        subst e1
        rw [hs2] at h2
        cases h2
        exact ⟨l, rfl, gn l n (scok_some q1), o, hc⟩
    dis := fun i j wi ci wj cj l ne h1 h2 h3 => by
      have f : ∀ {n : Nat} {w c}, env'[n]? = some (.mo w c) → ∃ w' c', env[n]? = some (.mo w' c') := fun {n w c} hh => by
        rcases he n _ hh with ⟨e0, _⟩ | ⟨w, c, c', l, e0, _⟩
        · exact ⟨_, _, e0⟩
        · exact ⟨_, _, e0⟩
      obtain ⟨w1, c1, g1⟩ := f h1
      obtain ⟨w2, c2, g2⟩ := f h2
      exact r.dis i j w1 c1 w2 c2 l ne g1 g2 h3 }
/-- behind a call to which nothing was lent -/
theorem Rel.after {W : Wd} {B B' : Nat} {G0 H0 G H G' H' : Hp} {env : DEnv} {σ : L2.St} (r : Rel K W B G0 H0 G env σ H) (q : RW (.of W.dk) B' G H G' H') : Rel K W B' G0 H0 G' env σ H' :=
  r.after' (W' := .of W.dk) rfl (fun a m => by cases m) q rfl fun i e h => .inl ⟨h, fun w c l _ _ m => by cases m⟩
theorem RW.self0 {W : Wd} {B : Nat} {G0 H0 G H : Hp} (r : RW W B G0 H0 G H) : RW (.of W.dk) B G H G H :=
  ⟨Same.refl _, r.pub, fun a m => r.gm a (.inl (of_mu.mp m)), of_inv.mpr r.inv.1, fun _ _ h _ => h, fun a o h h' => by rw [h] at h'; cases h'⟩
theorem RW.le {W : Wd} {B B' : Nat} {G0 H0 G H : Hp} (r : RW W B G0 H0 G H) (h : B' ≤ B) : RW W B' G0 H0 G H := { r with inv := W.low B B' H h r.inv }
theorem Rel.le {W : Wd} {B B' : Nat} {G0 H0 G H : Hp} {env : DEnv} {σ : L2.St} (r : Rel K W B G0 H0 G env σ H) (h : B' ≤ B) : Rel K W B' G0 H0 G env σ H :=
  { r.toRW.le h with len := r.len, slot := r.slot, dis := r.dis }
theorem RW.self {W : Wd} {B : Nat} {G0 H0 G H : Hp} (r : RW W B G0 H0 G H) : RW W B G H G H :=
  ⟨Same.refl _, r.pub, r.gm, r.inv, fun _ _ h _ => h, fun a o h h' => by rw [h] at h'; cases h'⟩
/-- a slot gets data -/
theorem Rel.set_d {W : Wd} {B : Nat} {G0 H0 G H : Hp} {env : DEnv} {σ : L2.St} {i : Nat} {v : V} {x : D} (r : Rel K W B G0 H0 G env σ H) (h : Dr K G v x) : Rel K W B G0 H0 G (env.set i (.d x)) (σ.set i (some v)) H :=
  { r.toRW with
    len := by rw [List.length_set, List.length_set]; exact r.len
    slot := fun j e s h1 h2 => by
      by_cases z : i = j
      · subst z
        by_cases hl : i < env.length
        · rw [List.getElem?_set_self hl] at h1
          rw [List.getElem?_set_self (r.len ▸ hl)] at h2
          cases h1
          cases h2
          exact ⟨v, rfl, h⟩
        · rw [List.getElem?_eq_none (by rw [List.length_set]; omega)] at h1
          cases h1
      · rw [List.getElem?_set_ne z] at h1 h2
        exact r.slot j e s h1 h2
    dis := fun j k wi ci wj cj l ne h1 h2 h3 => by
      have z1 : i ≠ j := fun z => by
        subst z
        by_cases hl : i < env.length
        · rw [List.getElem?_set_self hl] at h1
          cases h1
        · rw [List.getElem?_eq_none (by rw [List.length_set]; omega)] at h1
          cases h1
      have z2 : i ≠ k := fun z => by
        subst z
        by_cases hl : i < env.length
        · rw [List.getElem?_set_self hl] at h2
          cases h2
        · rw [List.getElem?_eq_none (by rw [List.length_set]; omega)] at h2
          cases h2
      rw [List.getElem?_set_ne z1] at h1 h3
      rw [List.getElem?_set_ne z2] at h2 ⊢
      exact r.dis j k wi ci wj cj l ne h1 h2 h3 }
theorem Rel.get_d {W : Wd} {B : Nat} {G0 H0 G H : Hp} {env : DEnv} {σ : L2.St} {i : Nat} {x : D} (r : Rel K W B G0 H0 G env σ H) (h : env[i]? = some (.d x)) : ∃ v, σ[i]? = some (some v) ∧ Dr K G v x := by
  have hl : i < σ.length := by
    rw [← r.len]
    exact (List.getElem?_eq_some_iff.mp h).1
  obtain ⟨v, e, q⟩ := r.slot i _ _ h (List.getElem?_eq_getElem hl)
  exact ⟨v, by rw [List.getElem?_eq_getElem hl, e], q⟩
theorem Rel.get_hd {W : Wd} {B : Nat} {G0 H0 G H : Hp} {env : DEnv} {σ : L2.St} {i : Nat} (r : Rel K W B G0 H0 G env σ H) (h : env[i]? = some .hd) : σ[i]? = some (some W.hv) ∧ W.dk ≠ none := by
  have hl : i < σ.length := by
    rw [← r.len]
    exact (List.getElem?_eq_some_iff.mp h).1
  have e : σ[i] = some W.hv ∧ W.dk ≠ none := r.slot i _ _ h (List.getElem?_eq_getElem hl)
  exact ⟨by rw [List.getElem?_eq_getElem hl, e.1], e.2⟩
theorem Rel.get_own {W : Wd} {B : Nat} {G0 H0 G H : Hp} {env : DEnv} {σ : L2.St} {i : Nat} {xs : List D} (r : Rel K W B G0 H0 G env σ H) (h : env[i]? = some (.own xs)) :
    ∃ l vs, σ[i]? = some (some (.ref l)) ∧ H l = some (.lst vs) ∧ G l = none ∧ H0 l = none ∧ ¬ W.mu l ∧ DrAll K G vs xs := by
  have hl : i < σ.length := by
    rw [← r.len]
    exact (List.getElem?_eq_some_iff.mp h).1
  obtain ⟨l, e, n, o, vs, hv, q⟩ := r.slot i _ _ h (List.getElem?_eq_getElem hl)
  exact ⟨l, vs, by rw [List.getElem?_eq_getElem hl, e], hv, n, o.1, o.2, q⟩
/-- an object that is written, of whomever -/
theorem Rel.get_mo {W : Wd} {B : Nat} {G0 H0 G H : Hp} {env : DEnv} {σ : L2.St} {i : Nat} {w : Option Nat} {c : SC} (r : Rel K W B G0 H0 G env σ H) (h : env[i]? = some (.mo w c)) :
    ∃ l, σ[i]? = some (some (.ref l)) ∧ G l = none ∧ Owns W H0 l w ∧ ScOk K G H l c := by
  have hl : i < σ.length := by
    rw [← r.len]
    exact (List.getElem?_eq_some_iff.mp h).1
  obtain ⟨l, e, q⟩ := r.slot i _ _ h (List.getElem?_eq_getElem hl)
  exact ⟨l, by rw [List.getElem?_eq_getElem hl, e], q⟩
theorem drFs_kv {G : Hp} : ∀ {vs : List (Key × V)} {xs : List (Key × D)}, DrFs K G vs xs → DrKv K G vs (xs.map fun p => (keyD p.1, p.2))
  | _, _, .nil => .nil
  | _, _, .cons h t => .cons h (drFs_kv t)
/-- an object of one's own is published -/
theorem Rel.publishO {W : Wd} {B : Nat} {G0 H0 G H : Hp} {env : DEnv} {σ : L2.St} {i : Nat} {c : SC} {l : Addr} {o : HO} {y : D} (r : Rel K W B G0 H0 G env σ H) (h : env[i]? = some (.mo none c)) (hs : σ[i]? = some (some (.ref l))) (hl : H l = some o) (hg : G l = none) (h0 : H0 l = none) (hm : ¬ W.mu l) (dq : Dr K (upd G l o) (.ref l) y) :
    Rel K W B G0 H0 (upd G l o) (env.set i (.d y)) σ H ∧ Same G (upd G l o) := by
  have eg : Same G (upd G l o) := same_upd hg
  have hil : i < env.length := (List.getElem?_eq_some_iff.mp h).1
  refine ⟨{ g0 := r.g0.trans eg, pub := fun a u e => ?_, gm := fun a m => ?_, inv := r.inv, fr := r.fr, pn := fun a o e e0 => ?_, len := by rw [List.length_set]; exact r.len, slot := fun j e s h1 h2 => ?_, dis := fun j k wi ci wj cj l' ne h1 h2 h3 => ?_ }, eg⟩
  · by_cases z : a = l
    · subst z
      rw [upd_same] at e
      cases e
      exact hl
    · rw [upd_ne z] at e
      exact r.pub a u e
  · by_cases z : a = l
    · subst z
      exact absurd m hm
    · rw [upd_ne z]
      exact r.gm a m
  · by_cases z : a = l
    · subst z
      exact h0
    · rw [upd_ne z] at e
      exact r.pn a o e e0
  · by_cases z : i = j
    · subst z
      rw [List.getElem?_set_self hil] at h1
      cases h1
      rw [hs] at h2
      cases h2
      exact ⟨_, rfl, dq⟩
    · rw [List.getElem?_set_ne z] at h1
      have q := r.slot j e s h1 h2
      cases e with
      | un => trivial
      | d x =>
        obtain ⟨v, e1, q1⟩ := q
        exact ⟨v, e1, dp_same eg q1⟩
      | «at» _ => trivial
      | mo w c =>
        obtain ⟨l2, e1, n2, o2, q1⟩ := q
        refine ⟨l2, e1, ?_, o2, scok_later eg (fun _ h => h) q1⟩
        have ne : l2 ≠ l := fun w => by
          subst w
          subst e1
          exact r.dis i j _ _ _ _ l2 z h h1 hs h2
        rw [upd_ne ne]
        exact n2
      | hd => exact q
  · have z1 : i ≠ j := fun z => by
      subst z
      rw [List.getElem?_set_self hil] at h1
      cases h1
    have z2 : i ≠ k := fun z => by
      subst z
      rw [List.getElem?_set_self hil] at h2
      cases h2
    rw [List.getElem?_set_ne z1] at h1
    rw [List.getElem?_set_ne z2] at h2
    exact r.dis j k wi ci wj cj l' ne h1 h2 h3
/-- an own list is published -/
theorem Rel.publish {W : Wd} {B : Nat} {G0 H0 G H : Hp} {env : DEnv} {σ : L2.St} {i : Nat} {xs : List D} {l : Addr} {vs : List V} (r : Rel K W B G0 H0 G env σ H) (h : env[i]? = some (.own xs)) (hs : σ[i]? = some (some (.ref l))) (hl : H l = some (.lst vs)) (hg : G l = none) (h0 : H0 l = none) (hm : ¬ W.mu l) (hq : DrAll K G vs xs) :
    Rel K W B G0 H0 (upd G l (.lst vs)) (env.set i (.d (.list xs))) σ H ∧ Dr K (upd G l (.lst vs)) (.ref l) (.list xs) ∧ Same G (upd G l (.lst vs)) := by
  have eg : Same G (upd G l (.lst vs)) := same_upd hg
  have dq : Dr K (upd G l (.lst vs)) (.ref l) (.list xs) := .lst upd_same (dpAll_same eg hq)
  exact ⟨(r.publishO h hs hl hg h0 hm dq).1, dq, eg⟩
end
end DL
namespace DL
open PySem PySem.Spec PyProof.Rows L2
/-! ### readings of data -/
abbrev ME := DEnv → (D → DEnv → Prop) → Prop
abbrev MT := DEnv → (Bool → DEnv → Prop) → Prop
abbrev MA := DEnv → (List EV → DEnv → Prop) → Prop
abbrev MF := DEnv → (List D → DEnv → Prop) → Prop
def ArgOk (K : PySem.W.Frag) (k : Wk) (G : Hp) : EV → V → Prop
  | .d x, v => Dr K G v x
  | .hd, v => v = k.hv ∧ k ≠ none
  | _, _ => False
inductive ArgsOk (K : PySem.W.Frag) (k : Wk) (G : Hp) : List V → List EV → Prop
  | nil : ArgsOk K k G [] []
  | cons {v : V} {vs : List V} {a : EV} {as : List EV} : ArgOk K k G a v → ArgsOk K k G vs as → ArgsOk K k G (v :: vs) (a :: as)
def tD (K : PySem.W.Frag) (n : Nat) (m : ME) : TE := fun σ H Q => ∃ (W : Wd) (B : Nat) (G0 H0 G : Hp) (env : DEnv) (P : D → DEnv → Prop), Rel K W (B + n) G0 H0 G env σ H ∧ m env P ∧
  ∀ x env' v G' H', P x env' → Same G G' → Rel K W B G0 H0 G' env' σ H' → Dr K G' v x → Q v H'
def tDT (K : PySem.W.Frag) (n : Nat) (m : MT) : TT := fun σ H Q => ∃ (W : Wd) (B : Nat) (G0 H0 G : Hp) (env : DEnv) (P : Bool → DEnv → Prop), Rel K W (B + n) G0 H0 G env σ H ∧ m env P ∧
  ∀ b env' G' H', P b env' → Same G G' → Rel K W B G0 H0 G' env' σ H' → Q b H'
/-- an argument list: the handle's letter W is handed on -/
def tA (K : PySem.W.Frag) (n : Nat) (m : MA) : TA := fun σ H Q => ∃ (W : Wd) (B : Nat) (G0 H0 G : Hp) (env : DEnv) (P : List EV → DEnv → Prop), Rel K W (B + n) G0 H0 G env σ H ∧ m env P ∧
  ∀ as env' vs G' H', P as env' → Same G G' → Rel K W B G0 H0 G' env' σ H' → ArgsOk K W.dk G' vs as → Q vs H'
def FreshAt (K : PySem.W.Frag) (W : Wd) (H0 G : Hp) (env : DEnv) (σ : L2.St) (H : Hp) (p : Addr) (xs : List D) : Prop :=
  ∃ vs, H p = some (.lst vs) ∧ G p = none ∧ H0 p = none ∧ ¬ W.mu p ∧ (∀ (i : Nat) l w c, env[i]? = some (.mo w c) → σ[i]? = some (some (.ref l)) → l ≠ p) ∧ DrAll K G vs xs
def tF (K : PySem.W.Frag) (n : Nat) (m : MF) : TE := fun σ H Q => ∃ (W : Wd) (B : Nat) (G0 H0 G : Hp) (env : DEnv) (P : List D → DEnv → Prop), Rel K W (B + n) G0 H0 G env σ H ∧ m env P ∧
  ∀ xs env' p G' H', P xs env' → Same G G' → Rel K W B G0 H0 G' env' σ H' → FreshAt K W H0 G' env' σ H' p xs → Q (.ref p) H'
abbrev GE (X : Cx) (e : Expr) (n : Nat) (m : ME) : Prop := PE X e (tD X.K n m)
abbrev GT (X : Cx) (e : Expr) (n : Nat) (m : MT) : Prop := PT X e (tDT X.K n m)
abbrev GW (X : Cx) (e : Expr) (n : Nat) (m : MT) : Prop := PW X e (tDT X.K n m)
abbrev GA (X : Cx) (es : List Expr) (n : Nat) (m : MA) : Prop := PA X es (tA X.K n m)
abbrev GF (X : Cx) (e : Expr) (n : Nat) (m : MF) : Prop := PE X e (tF X.K n m)
theorem pe_imp {X : Cx} {e : Expr} {t t' : TE} (h : PE X e t) (q : ∀ σ H Q, t' σ H Q → t σ H Q) : PE X e t' := ⟨fun pins s σ H Q I z => h.run pins s σ H Q I (q σ H Q z)⟩
theorem pt_imp {X : Cx} {e : Expr} {t t' : TT} (h : PT X e t) (q : ∀ σ H Q, t' σ H Q → t σ H Q) : PT X e t' := ⟨fun pins s σ H Q I z => h.run pins s σ H Q I (q σ H Q z)⟩
theorem pw_imp {X : Cx} {e : Expr} {t t' : TT} (h : PW X e t) (q : ∀ σ H Q, t' σ H Q → t σ H Q) : PW X e t' := ⟨fun w pins s σ H Q I z => h.run w pins s σ H Q I (q σ H Q z)⟩
theorem pa_imp {X : Cx} {es : List Expr} {t t' : TA} (h : PA X es t) (q : ∀ σ H Q, t' σ H Q → t σ H Q) : PA X es t' := ⟨fun p pins s σ H Q I z => h.run p pins s σ H Q I (q σ H Q z)⟩
theorem ps_imp {X : Cx} {st : Stmt} {t t' : TS} (h : PS X st t) (q : ∀ D σ H, t' D σ H → t D σ H) : PS X st t' := ⟨fun pins s σ H D I z => h.run pins s σ H D I (q D σ H z)⟩
theorem pss_imp {X : Cx} {st : List Stmt} {t t' : TS} (h : PSs X st t) (q : ∀ D σ H, t' D σ H → t D σ H) : PSs X st t' := ⟨fun pins s σ H D I z => h.run pins s σ H D I (q D σ H z)⟩
/-! ### the data-level words -/
def mVar (i : Nat) : ME := fun env P => match env[i]? with
  | some (.d x) => P x env
  | some (.mo none (.lst xs)) => P (.list xs) (env.set i (.d (.list xs)))
  | some (.mo none (.dic kvs)) => P (.dict (kvs.map fun p => (keyD p.1, p.2))) (env.set i (.d (.dict (kvs.map fun p => (keyD p.1, p.2)))))
  | _ => False
def mC (x : D) : ME := fun env P => P x env
def mOp (f : D → D → (D → Prop) → Prop) (ma mb : ME) : ME := fun env P => ma env fun x e1 => mb e1 fun y e2 => f x y fun z => P z e2
def mUn (f : D → (D → Prop) → Prop) (ma : ME) : ME := fun env P => ma env fun x e1 => f x fun z => P z e1
def mCmp (f : D → D → (Bool → Prop) → Prop) (ma mb : ME) : ME := fun env P => ma env fun x e1 => mb e1 fun y e2 => f x y fun b => P (.bool b) e2
def mCmpT (f : D → D → (Bool → Prop) → Prop) (ma mb : ME) : MT := fun env P => ma env fun x e1 => mb e1 fun y e2 => f x y fun b => P b e2
def mChain (f g : D → D → (Bool → Prop) → Prop) (ma mb mc : ME) : ME := fun env P => ma env fun x e1 => mb e1 fun y e2 => f x y fun b => match b with
  | true => mc e2 fun z e3 => g y z fun c => P (.bool c) e3
  | false => P (.bool false) e2
def mChainT (f g : D → D → (Bool → Prop) → Prop) (ma mb mc : ME) : MT := fun env P => ma env fun x e1 => mb e1 fun y e2 => f x y fun b => match b with
  | true => mc e2 fun z e3 => g y z fun c => P c e3
  | false => P false e2
/-- a value that is a truth, as a test -/
def mTest (ma : ME) : MT := fun env P => ma env fun x e1 => match x with
  | .bool b => P b e1
  | _ => False
def truD : D → (Bool → Prop) → Prop
  | .none, P => P false
  | .bool b, P => P b
  | .int i, P => P (i != 0)
  | .str z, P => z.length ≤ sizeLine ∧ P ((z.length : Int) != 0)
  | .list xs, P => P (!xs.isEmpty)
  | .tuple xs, P => P (!xs.isEmpty)
  | .dict _, _ => False
def mTru (ma : ME) : MT := fun env P => ma env fun x e1 => truD x fun b => P b e1
def mAndT (a b : MT) : MT := fun env P => a env fun k e1 => match k with
  | true => b e1 P
  | false => P false e1
def mOrT (a b : MT) : MT := fun env P => a env fun k e1 => match k with
  | true => P true e1
  | false => b e1 P
def mNotT (a : MT) : MT := fun env P => a env fun k e1 => P (!k) e1
def mAndV (a b : ME) : ME := fun env P => a env fun x e1 => match x with
  | .bool true => b e1 P
  | .bool false => P (.bool false) e1
  | _ => False
def mOrV (a b : ME) : ME := fun env P => a env fun x e1 => match x with
  | .bool true => P (.bool true) e1
  | .bool false => b e1 P
  | _ => False
def mNotV (a : ME) : ME := fun env P => a env fun x e1 => match x with
  | .bool k => P (.bool (!k)) e1
  | _ => False
def mIf (t : MT) (a b : ME) : ME := fun env P => t env fun k e1 => match k with
  | true => a e1 P
  | false => b e1 P
def mNil : MA := fun env P => P [] env
def mCons (a : ME) (r : MA) : MA := fun env P => a env fun x e1 => r e1 fun as e2 => P (.d x :: as) e2
def mConsH (i : Nat) (r : MA) : MA := fun env P => match env[i]? with
  | some .hd => r env fun as e2 => P (.hd :: as) e2
  | _ => False
/-- an object that is written, handed on -/
def mConsM (i : Nat) (r : MA) : MA := fun env P => match env[i]? with
  | some (.mo _ _) => r env fun as e2 => P (.at i :: as) e2
  | _ => False
def dats : List EV → Option (List D)
  | [] => some []
  | .d x :: r => (dats r).map (x :: ·)
  | _ :: _ => none
def mDats (as : List EV) (f : List D → Prop) : Prop := match dats as with
  | some ds => f ds
  | none => False
def mTup (a : MA) : ME := fun env P => a env fun as e1 => mDats as fun ds => ds.length ≤ sizeLine ∧ P (.tuple ds) e1
def mLst (a : MA) : MF := fun env P => a env fun as e1 => mDats as fun ds => ds.length ≤ sizeLine ∧ P ds e1
def mPubF (f : MF) : ME := fun env P => f env fun ds e1 => P (.list ds) e1
/-- a built-in's call on data -/
def mCB (f : List D → (D → Prop) → Prop) (a : MA) : ME := fun env P => a env fun as e1 => mDats as fun ds => f ds fun z => P z e1
/-- a def's call -/
def mCall (sp : List EV → (D → Prop) → Prop) (a : MA) : ME := fun env P => a env fun as e1 => sp as fun z => P z e1
/-- a method of a built-in type -/
def mBM (f : D → List D → (D → Prop) → Prop) (o : ME) (a : MA) : ME := fun env P => o env fun x e1 => a e1 fun as e2 => mDats as fun ds => f x ds fun z => P z e2
theorem dats_ok {K : PySem.W.Frag} {k : Wk} {G : Hp} : ∀ {vs : List V} {as : List EV} {ds : List D}, ArgsOk K k G vs as → dats as = some ds → DrAll K G vs ds
  | _, _, _, .nil, h => by
    cases h
    exact .nil
  | _, _, _, .cons (a := .d x) a t, h => by
    simp only [dats, Option.map_eq_some_iff] at h
    obtain ⟨r, h1, rfl⟩ := h
    exact .cons a (dats_ok t h1)
  | _, _, _, .cons (a := .hd) a t, h => by cases h
  | _, _, _, .cons (a := .un) a t, h => by cases h
  | _, _, _, .cons (a := .mo _ _) a t, h => by cases h
  | _, _, _, .cons (a := .at _) a t, h => by cases h
theorem mDats_ok {as : List EV} {f : List D → Prop} (h : mDats as f) : ∃ ds, dats as = some ds ∧ f ds := by
  unfold mDats at h
  split at h
  · exact ⟨_, by assumption, h⟩
  · exact h.elim
theorem args_same {K : PySem.W.Frag} {k : Wk} {G G' : Hp} (e : Same G G') : ∀ {vs : List V} {as : List EV}, ArgsOk K k G vs as → ArgsOk K k G' vs as
  | _, _, .nil => .nil
  | _, _, .cons (a := .d x) a t => .cons (dp_same (v := _) e a) (args_same e t)
  | _, _, .cons (a := .hd) a t => .cons (a := .hd) a (args_same e t)
  | _, _, .cons (a := .un) a t => a.elim
  | _, _, .cons (a := .mo _ _) a t => a.elim
  | _, _, .cons (a := .at _) a t => a.elim
/-! ### rules by values -/
def rD2 (K : PySem.W.Frag) (f : D → D → (D → Prop) → Prop) : R2 := fun x y H Q => ∃ (G : Hp) (dx dy : D) (P : D → Prop), Pub G H ∧ Dr K G x dx ∧ Dr K G y dy ∧ f dx dy P ∧
  ∀ z v G' H', P z → Grow G H G' H' → Dr K G' v z → Q v H'
def rDC2 (K : PySem.W.Frag) (f : D → D → (Bool → Prop) → Prop) : R2 := fun x y H Q => ∃ (G : Hp) (dx dy : D) (P : Bool → Prop), Pub G H ∧ Dr K G x dx ∧ Dr K G y dy ∧ f dx dy P ∧
  ∀ b, P b → Q (.bl b) H
def rD1 (K : PySem.W.Frag) (f : D → (D → Prop) → Prop) : V → Hp → VK → Prop := fun x H Q => ∃ (G : Hp) (dx : D) (P : D → Prop), Pub G H ∧ Dr K G x dx ∧ f dx P ∧
  ∀ z v G' H', P z → Grow G H G' H' → Dr K G' v z → Q v H'
def rDC (K : PySem.W.Frag) (f : List D → (D → Prop) → Prop) : List V → Hp → VK → Prop := fun xs H Q => ∃ (G : Hp) (ds : List D) (P : D → Prop), Pub G H ∧ DrAll K G xs ds ∧ f ds P ∧
  ∀ z v G' H', P z → Grow G H G' H' → Dr K G' v z → Q v H'
def rDM (K : PySem.W.Frag) (f : D → List D → (D → Prop) → Prop) : V → List V → Hp → VK → Prop := fun o xs H Q => ∃ (G : Hp) (x : D) (ds : List D) (P : D → Prop), Pub G H ∧ Dr K G o x ∧ DrAll K G xs ds ∧ f x ds P ∧
  ∀ z v G' H', P z → Grow G H G' H' → Dr K G' v z → Q v H'
section
variable {X : Cx} {a b c e o : Expr} {es : List Expr} {pos p : Pos} {ma mb mc me : ME} {mt mu : MT} {na nb nc ne n1 n2 : Nat}
theorem ge_var (i : Nat) {x : Str} (hN : X.N[i]? = some x := by rfl) (hv : Vis X.env.scope x := by first | exact Or.inl rfl | exact Or.inr (Or.inl rfl) | exact Or.inr (Or.inr rfl)) (hd : (x == ("__debug__" : Str)) = false := by decide)
    (hcd : (x == ("__classdict__" : Str)) = false := by decide) : GE X (.Name x pos) 0 (mVar i) := pe_imp (pe_var hN hv hd hcd) fun σ H Q h => by
  obtain ⟨W, B, G0, H0, G, env, P, R, hm, q⟩ := h
  unfold mVar at hm
  split at hm
  · obtain ⟨v, e1, q1⟩ := R.get_d (by assumption)
    exact ⟨v, e1, q _ _ _ _ _ hm (Same.refl _) R q1⟩
  · obtain ⟨l, vs, e1, hl, hg, h0, hmu, hq⟩ := R.get_own (by assumption)
    obtain ⟨R2, d2, s2⟩ := R.publish (by assumption) e1 hl hg h0 hmu hq
    exact ⟨_, e1, q _ _ _ _ _ hm s2 R2 d2⟩
  · obtain ⟨l, e1, hg, ho, us, hl, hq⟩ := R.get_mo (by assumption)
    have eg := same_upd (o := .dK us) hg
    obtain ⟨R2, s2⟩ := R.publishO (o := .dK us) (by assumption) e1 hl hg ho.1 ho.2 (Dr.dic (.inl upd_same) (drFs_kv (drFs_same eg hq)))
    exact ⟨_, e1, q _ _ _ _ _ hm s2 R2 (Dr.dic (.inl upd_same) (drFs_kv (drFs_same eg hq)))⟩
  · exact hm.elim
theorem ge_c {x : D} {v : V} (h : PE X e (tC v)) (hd : ∀ G, Dr X.K G v x) : GE X e 0 (mC x) := pe_imp h fun σ H Q h => by
  obtain ⟨W, B, G0, H0, G, env, P, R, hm, q⟩ := h
  exact q _ _ _ _ _ hm (Same.refl _) R (hd G)
theorem ge_int {i : Int} {j : Nat} : GE X (.Constant (.int i) j pos) 0 (mC (.int i)) := ge_c pe_int fun _ => .int _
theorem ge_bl {b : Bool} {j : Nat} : GE X (.Constant (.bool b) j pos) 0 (mC (.bool b)) := ge_c pe_bl fun _ => .bl _
theorem ge_str {z : Str} {j : Nat} : GE X (.Constant (.str z) j pos) 0 (mC (.str z)) := ge_c pe_str fun _ => .str _
theorem ge_non {j : Nat} : GE X (.Constant .none j pos) 0 (mC .none) := ge_c pe_non fun _ => .non
theorem ge_glob {x : Str} {v : V} {u : Value} {y : D} (hg : Gl X x) (hm : X.mg x = some u) (r : RelV v u) (hd : ∀ G, Dr X.K G v y) (hdb : (x == ("__debug__" : Str)) = false := by decide) : GE X (.Name x pos) 0 (mC y) := ge_c (pe_glob hg hm r hdb) hd
/-- a two-place operation -/
theorem two_ok {f : D → D → (D → Prop) → Prop} {σ : L2.St} {H : Hp} {Q : VK} {r : R2} (hr : ∀ x y H Q, rD2 X.K f x y H Q → r x y H Q) (h : tD X.K (na + nb) (mOp f ma mb) σ H Q) : tOp r (tD X.K na ma) (tD X.K nb mb) σ H Q := by
  obtain ⟨W, B, G0, H0, G, env, P, R, hm, q⟩ := h
  refine ⟨W, B + nb, G0, H0, G, env, _, R.le (by omega), hm, fun x e1 v G1 H1 p1 s1 R1 d1 => ⟨W, _, G0, H0, G1, e1, _, R1, p1, fun y e2 u G2 H2 p2 s2 R2 d2 => hr _ _ _ _ ⟨G2, x, y, _, R2.pub, dp_same s2 d1, d2, p2, fun z w G3 H3 p3 g3 d3 => ?_⟩⟩⟩
  exact q z e2 w G3 H3 p3 ((s1.trans s2).trans g3.eg) (R2.grow g3) d3
theorem ge_op {op : Operator} {f : D → D → (D → Prop) → Prop} (ho : OpR X (binaryOp op) (rD2 X.K f)) (ha : GE X a na ma) (hb : GE X b nb mb) : GE X (.BinOp a op b pos) (na + nb) (mOp f ma mb) :=
  pe_imp (pe_op ho ha hb) fun σ H Q h => two_ok (fun _ _ _ _ z => z) h
theorem ge_ix {f : D → D → (D → Prop) → Prop} (ho : IxR X (rD2 X.K f)) (ha : GE X a na ma) (hb : GE X b nb mb) (hs : PlainIx b) : GE X (.Subscript a b pos) (na + nb) (mOp f ma mb) :=
  pe_imp (pe_ix ho ha hb hs) fun σ H Q h => two_ok (fun _ _ _ _ z => z) h
theorem cmp_ok {f : D → D → (Bool → Prop) → Prop} {σ : L2.St} {H : Hp} {Q : VK} (h : tD X.K (na + nb) (mCmp f ma mb) σ H Q) : tOp (rDC2 X.K f) (tD X.K na ma) (tD X.K nb mb) σ H Q := by
  obtain ⟨W, B, G0, H0, G, env, P, R, hm, q⟩ := h
  refine ⟨W, B + nb, G0, H0, G, env, _, R.le (by omega), hm, fun x e1 v G1 H1 p1 s1 R1 d1 => ⟨W, _, G0, H0, G1, e1, _, R1, p1, fun y e2 u G2 H2 p2 s2 R2 d2 => ⟨G2, x, y, _, R2.pub, dp_same s2 d1, d2, p2, fun b p3 => ?_⟩⟩⟩
  exact q _ e2 _ G2 H2 p3 (s1.trans s2) R2 (.bl b)
theorem cmpT_ok {f : D → D → (Bool → Prop) → Prop} {σ : L2.St} {H : Hp} {Q : Bool → Hp → Prop} (h : tDT X.K (na + nb) (mCmpT f ma mb) σ H Q) : tTest (tOp (rDC2 X.K f) (tD X.K na ma) (tD X.K nb mb)) σ H Q := by
  obtain ⟨W, B, G0, H0, G, env, P, R, hm, q⟩ := h
  refine ⟨W, B + nb, G0, H0, G, env, _, R.le (by omega), hm, fun x e1 v G1 H1 p1 s1 R1 d1 => ⟨W, _, G0, H0, G1, e1, _, R1, p1, fun y e2 u G2 H2 p2 s2 R2 d2 => ⟨G2, x, y, _, R2.pub, dp_same s2 d1, d2, p2, fun b p3 => ⟨b, rfl, ?_⟩⟩⟩⟩
  exact q _ e2 G2 H2 p3 (s1.trans s2) R2
theorem ge_cmp {op : CmpOp} {f : D → D → (Bool → Prop) → Prop} (ho : OpR X (compareOp op) (rDC2 X.K f)) (ha : GE X a na ma) (hb : GE X b nb mb) (hm : behindInMarks op b = false) : GE X (.Compare a [op] [b] pos) (na + nb) (mCmp f ma mb) :=
  pe_imp (pe_cmpR ho ha hb hm) fun σ H Q h => cmp_ok h
theorem gt_cmp {op : CmpOp} {f : D → D → (Bool → Prop) → Prop} (ho : OpR X (compareOp op) (rDC2 X.K f)) (ha : GE X a na ma) (hb : GE X b nb mb) (hm : behindInMarks op b = false) : GT X (.Compare a [op] [b] pos) (na + nb) (mCmpT f ma mb) :=
  pt_imp (pt_cmpR ho ha hb hm) fun σ H Q h => cmpT_ok h
theorem ge_un {op : UnaryOp} {f : D → (D → Prop) → Prop} (ho : UnR X (unaryOp op) (rD1 X.K f)) (ha : GE X a na ma) : GE X (.UnaryOp op a pos) na (mUn f ma) :=
  pe_imp (pe_un ho ha) fun σ H Q h => by
    obtain ⟨W, B, G0, H0, G, env, P, R, hm, q⟩ := h
    refine ⟨W, B, G0, H0, G, env, _, R, hm, fun x e1 v G1 H1 p1 s1 R1 d1 => ⟨G1, x, _, R1.pub, d1, p1, fun z w G3 H3 p3 g3 d3 => ?_⟩⟩
    exact q z e1 w G3 H3 p3 (s1.trans g3.eg) (R1.grow g3) d3
theorem gt_test (ha : GE X a na ma) (hp : PT X a (tTest (tD X.K na ma))) : GT X a na (mTest ma) := pt_imp hp fun σ H Q h => by
  obtain ⟨W, B, G0, H0, G, env, P, R, hm, q⟩ := h
  refine ⟨W, B, G0, H0, G, env, _, R, hm, fun x e1 v G1 H1 p1 s1 R1 d1 => ?_⟩
  cases x with
  | bool b =>
    cases dp_bl d1
    exact ⟨b, rfl, q b e1 G1 H1 p1 s1 R1⟩
  | _ => exact False.elim p1
theorem gt_and (ha : GT X a na mt) (hb : GW X (.BoolOp .And (b :: es) pos) nb mu) : GW X (.BoolOp .And (a :: b :: es) pos) (na + nb) (mAndT mt mu) := pw_imp (pw_and ha hb) fun σ H Q h => by
  obtain ⟨W, B, G0, H0, G, env, P, R, hm, q⟩ := h
  refine ⟨W, B + nb, G0, H0, G, env, _, R.le (by omega), hm, fun k e1 G1 H1 p1 s1 R1 => ?_⟩
  cases k with
  | true =>
    refine iteT ⟨W, _, G0, H0, G1, e1, _, R1, p1, fun b e2 G2 H2 p2 s2 R2 => q b e2 G2 H2 p2 (s1.trans s2) R2⟩
  | false => exact iteF (q false e1 G1 H1 p1 s1 (R1.le (by omega)))
theorem gt_or (ha : GT X a na mt) (hb : GW X (.BoolOp .Or (b :: es) pos) nb mu) : GW X (.BoolOp .Or (a :: b :: es) pos) (na + nb) (mOrT mt mu) := pw_imp (pw_or ha hb) fun σ H Q h => by
  obtain ⟨W, B, G0, H0, G, env, P, R, hm, q⟩ := h
  refine ⟨W, B + nb, G0, H0, G, env, _, R.le (by omega), hm, fun k e1 G1 H1 p1 s1 R1 => ?_⟩
  cases k with
  | true => exact iteT (q true e1 G1 H1 p1 s1 (R1.le (by omega)))
  | false => exact iteF ⟨W, _, G0, H0, G1, e1, _, R1, p1, fun b e2 G2 H2 p2 s2 R2 => q b e2 G2 H2 p2 (s1.trans s2) R2⟩
theorem gt_not (ha : GT X a na mt) : GT X (.UnaryOp .Not a pos) na (mNotT mt) := pt_imp (pt_not ha) fun σ H Q h => by
  obtain ⟨W, B, G0, H0, G, env, P, R, hm, q⟩ := h
  exact ⟨W, B, G0, H0, G, env, _, R, hm, fun k e1 G1 H1 p1 s1 R1 => q _ e1 G1 H1 p1 s1 R1⟩
end
end DL
namespace DL
open PySem PySem.Spec PyProof.Rows L2
section
variable {X : Cx} {a b c e o : Expr} {es : List Expr} {pos p : Pos} {ma mb mc me : ME} {mt mu : MT} {m1 m2 : MA} {na nb nc ne nt n1 n2 no : Nat}
theorem gt_val (ha : GE X a na ma) (he : ∀ whole, isTrue a X.env whole = (do let v ← whole; standAt a.pos; holding [v] (truthy v)) := by intro _; rfl) : GT X a na (mTest ma) := pt_imp (pt_val ha he) fun σ H Q h => by
  obtain ⟨W, B, G0, H0, G, env, P, R, hm, q⟩ := h
  refine ⟨W, B, G0, H0, G, env, _, R, hm, fun x e1 v G1 H1 p1 s1 R1 d1 => ?_⟩
  cases x with
  | bool b =>
    cases dp_bl d1
    exact ⟨b, rfl, q b e1 G1 H1 p1 s1 R1⟩
  | _ => exact False.elim p1
theorem tru_v {K : PySem.W.Frag} {G H : Hp} {v : V} {x : D} {P : Bool → Prop} (s : Pub G H) (d : Dr K G v x) (h : truD x P) : ∃ k, TruV K v H k ∧ P k := by
  cases x with
  | none => cases dp_non d; exact ⟨_, rfl, h⟩
  | bool b => cases dp_bl d; exact ⟨_, rfl, h⟩
  | int i => cases dp_int d; exact ⟨_, rfl, h⟩
  | str z => cases dp_str d; exact ⟨_, ⟨h.1, rfl⟩, h.2⟩
  | list xs =>
    obtain ⟨a, vs, rfl, h1, h2⟩ := dp_lst d
    refine ⟨_, .inl ⟨vs, SqL.of (s.lst h1), rfl⟩, ?_⟩
    have e : (!vs.isEmpty) = !xs.isEmpty := by
      cases h2 <;> rfl
    rw [e]
    exact h
  | tuple xs =>
    obtain ⟨a, vs, rfl, h1, h2⟩ := dp_tup d
    refine ⟨_, .inr (.inl ⟨vs, pub_sqT s h1, rfl⟩), ?_⟩
    have e : (!vs.isEmpty) = !xs.isEmpty := by
      cases h2 <;> rfl
    rw [e]
    exact h
  | dict _ => exact h.elim
theorem gt_tru (ha : GE X a na ma) (he : ∀ whole, isTrue a X.env whole = (do let v ← whole; standAt a.pos; holding [v] (truthy v)) := by intro _; rfl) : GT X a na (mTru ma) := pt_imp (pt_truth ha he) fun σ H Q h => by
  obtain ⟨W, B, G0, H0, G, env, P, R, hm, q⟩ := h
  refine ⟨W, B, G0, H0, G, env, _, R, hm, fun x e1 v G1 H1 p1 s1 R1 d1 => ?_⟩
  obtain ⟨k, h1, h2⟩ := tru_v R1.pub d1 p1
  exact ⟨k, h1, q k e1 G1 H1 h2 s1 R1⟩
theorem ge_andV (ha : GE X a na ma) (hb : GE X (.BoolOp .And (b :: es) pos) nb mb) : GE X (.BoolOp .And (a :: b :: es) pos) (na + nb) (mAndV ma mb) := pe_imp (pe_and ha hb) fun σ H Q h => by
  obtain ⟨W, B, G0, H0, G, env, P, R, hm, q⟩ := h
  refine ⟨W, B + nb, G0, H0, G, env, _, R.le (by omega), hm, fun x e1 v G1 H1 p1 s1 R1 d1 => ?_⟩
  cases x with
  | bool k =>
    cases dp_bl d1
    refine ⟨k, rfl, ?_⟩
    cases k with
    | true => exact iteT ⟨W, _, G0, H0, G1, e1, _, R1, p1, fun y e2 u G2 H2 p2 s2 R2 d2 => q y e2 u G2 H2 p2 (s1.trans s2) R2 d2⟩
    | false => exact iteF (q _ e1 _ G1 H1 p1 s1 (R1.le (by omega)) (.bl false))
  | _ => exact False.elim p1
theorem ge_orV (ha : GE X a na ma) (hb : GE X (.BoolOp .Or (b :: es) pos) nb mb) : GE X (.BoolOp .Or (a :: b :: es) pos) (na + nb) (mOrV ma mb) := pe_imp (pe_or ha hb) fun σ H Q h => by
  obtain ⟨W, B, G0, H0, G, env, P, R, hm, q⟩ := h
  refine ⟨W, B + nb, G0, H0, G, env, _, R.le (by omega), hm, fun x e1 v G1 H1 p1 s1 R1 d1 => ?_⟩
  cases x with
  | bool k =>
    cases dp_bl d1
    refine ⟨k, rfl, ?_⟩
    cases k with
    | true => exact iteT (q _ e1 _ G1 H1 p1 s1 (R1.le (by omega)) (.bl true))
    | false => exact iteF ⟨W, _, G0, H0, G1, e1, _, R1, p1, fun y e2 u G2 H2 p2 s2 R2 d2 => q y e2 u G2 H2 p2 (s1.trans s2) R2 d2⟩
  | _ => exact False.elim p1
theorem ge_notV (ha : GE X a na ma) : GE X (.UnaryOp .Not a pos) na (mNotV ma) := pe_imp (pe_not ha) fun σ H Q h => by
  obtain ⟨W, B, G0, H0, G, env, P, R, hm, q⟩ := h
  refine ⟨W, B, G0, H0, G, env, _, R, hm, fun x e1 v G1 H1 p1 s1 R1 d1 => ?_⟩
  cases x with
  | bool k =>
    cases dp_bl d1
    exact ⟨k, rfl, q _ e1 _ G1 H1 p1 s1 R1 (.bl _)⟩
  | _ => exact False.elim p1
theorem ge_if (ht : GT X c nt mt) (ha : GE X a na ma) (hb : GE X b nb mb) : GE X (.IfExp c a b pos) (nt + (na + nb)) (mIf mt ma mb) := pe_imp (pe_ifExp ht ha hb) fun σ H Q h => by
  obtain ⟨W, B, G0, H0, G, env, P, R, hm, q⟩ := h
  refine ⟨W, B + (na + nb), G0, H0, G, env, _, R.le (by omega), hm, fun k e1 G1 H1 p1 s1 R1 => ?_⟩
  cases k with
  | true => exact iteT ⟨W, B + nb, G0, H0, G1, e1, _, R1.le (by omega), p1, fun y e2 u G2 H2 p2 s2 R2 d2 => q y e2 u G2 H2 p2 (s1.trans s2) (R2.le (by omega)) d2⟩
  | false => exact iteF ⟨W, B + na, G0, H0, G1, e1, _, R1.le (by omega), p1, fun y e2 u G2 H2 p2 s2 R2 d2 => q y e2 u G2 H2 p2 (s1.trans s2) (R2.le (by omega)) d2⟩
theorem ge_chain {op op' : CmpOp} {f g : D → D → (Bool → Prop) → Prop} (ho : OpR X (compareOp op) (rDC2 X.K f)) (ho' : OpR X (compareOp op') (rDC2 X.K g)) (ha : GE X a na ma) (hb : GE X b nb mb) (hc : GE X c nc mc)
    (hm : lastMarks [op, op'] [b, c] = false := by with_unfolding_all rfl) : GE X (.Compare a [op, op'] [b, c] pos) (na + (nb + nc)) (mChain f g ma mb mc) := pe_imp (pe_chain ho ho' ha hb hc hm) fun σ H Q h => by
  obtain ⟨W, B, G0, H0, G, env, P, R, hm, q⟩ := h
  refine ⟨W, B + (nb + nc), G0, H0, G, env, _, R.le (by omega), hm, fun x e1 v G1 H1 p1 s1 R1 d1 => ⟨W, B + nc, G0, H0, G1, e1, _, R1.le (by omega), p1, fun y e2 u G2 H2 p2 s2 R2 d2 => ⟨G2, x, y, _, R2.pub, dp_same s2 d1, d2, p2, fun k p3 => ⟨k, rfl, ?_⟩⟩⟩⟩
  cases k with
  | true => exact iteT ⟨W, _, G0, H0, G2, e2, _, R2, p3, fun z e3 w G3 H3 p4 s3 R3 d3 => ⟨G3, y, z, _, R3.pub, dp_same s3 d2, d3, p4, fun k p5 => q _ e3 _ G3 H3 p5 ((s1.trans s2).trans s3) R3 (.bl k)⟩⟩
  | false => exact iteF (q _ e2 _ G2 H2 p3 (s1.trans s2) (R2.le (by omega)) (.bl false))
theorem gt_chain {op op' : CmpOp} {f g : D → D → (Bool → Prop) → Prop} (ho : OpR X (compareOp op) (rDC2 X.K f)) (ho' : OpR X (compareOp op') (rDC2 X.K g)) (ha : GE X a na ma) (hb : GE X b nb mb) (hc : GE X c nc mc)
    (hm : lastMarks [op, op'] [b, c] = false := by with_unfolding_all rfl) : GT X (.Compare a [op, op'] [b, c] pos) (na + (nb + nc)) (mChainT f g ma mb mc) := pt_imp (pt_chain ho ho' ha hb hc hm) fun σ H Q h => by
  obtain ⟨W, B, G0, H0, G, env, P, R, hm, q⟩ := h
  refine ⟨W, B + (nb + nc), G0, H0, G, env, _, R.le (by omega), hm, fun x e1 v G1 H1 p1 s1 R1 d1 => ⟨W, B + nc, G0, H0, G1, e1, _, R1.le (by omega), p1, fun y e2 u G2 H2 p2 s2 R2 d2 => ⟨G2, x, y, _, R2.pub, dp_same s2 d1, d2, p2, fun k p3 => ⟨k, rfl, ?_⟩⟩⟩⟩
  cases k with
  | true => exact iteT ⟨W, _, G0, H0, G2, e2, _, R2, p3, fun z e3 w G3 H3 p4 s3 R3 d3 => ⟨G3, y, z, _, R3.pub, dp_same s3 d2, d3, p4, fun k p5 => ⟨k, rfl, q _ e3 G3 H3 p5 ((s1.trans s2).trans s3) R3⟩⟩⟩
  | false => exact iteF ⟨false, rfl, q _ e2 G2 H2 p3 (s1.trans s2) (R2.le (by omega))⟩
/-! ### arguments, displays, calls -/
theorem ga_nil : GA X [] 0 mNil := pa_imp pa_nil fun σ H Q h => by
  obtain ⟨W, B, G0, H0, G, env, P, R, hm, q⟩ := h
  exact q _ _ _ _ _ hm (Same.refl _) R .nil
theorem ga_cons (ha : GE X e ne me) (hr : GA X es n1 m1) (hs : starEach (e :: es) X.env = (false, eval e X.env) :: starEach es X.env := by rfl) : GA X (e :: es) (ne + n1) (mCons me m1) := pa_imp (pa_cons ha hr hs) fun σ H Q h => by
  obtain ⟨W, B, G0, H0, G, env, P, R, hm, q⟩ := h
  refine ⟨W, B + n1, G0, H0, G, env, _, R.le (by omega), hm, fun x e1 v G1 H1 p1 s1 R1 d1 => ⟨W, _, G0, H0, G1, e1, _, R1, p1, fun as e2 vs G2 H2 p2 s2 R2 d2 => ?_⟩⟩
  exact q _ e2 _ G2 H2 p2 (s1.trans s2) R2 (.cons (a := .d x) (dp_same s2 d1) d2)
theorem ga_hd (i : Nat) {x : Str} (hr : GA X es n1 m1) (hN : X.N[i]? = some x := by rfl) (hv : Vis X.env.scope x := by first | exact Or.inl rfl | exact Or.inr (Or.inl rfl) | exact Or.inr (Or.inr rfl)) (hd : (x == ("__debug__" : Str)) = false := by decide)
    (hcd : (x == ("__classdict__" : Str)) = false := by decide) (hs : starEach (.Name x pos :: es) X.env = (false, eval (.Name x pos) X.env) :: starEach es X.env := by rfl) : GA X (.Name x pos :: es) n1 (mConsH i m1) := pa_imp (pa_cons (pe_var hN hv hd hcd) hr hs) fun σ H Q h => by
  obtain ⟨W, B, G0, H0, G, env, P, R, hm, q⟩ := h
  unfold mConsH at hm
  split at hm
  · obtain ⟨e1, nn⟩ := R.get_hd (by assumption)
    refine ⟨_, e1, W, B, G0, H0, G, env, _, R, hm, fun as e2 vs G2 H2 p2 s2 R2 d2 => ?_⟩
    exact q _ e2 _ G2 H2 p2 s2 R2 (.cons (a := .hd) ⟨rfl, nn⟩ d2)
  · exact hm.elim
theorem Rel.fresh {K : PySem.W.Frag} {W : Wd} {B : Nat} {G0 H0 G H : Hp} {env : DEnv} {σ : L2.St} {p : Addr} {o : HO} (R : Rel K W B G0 H0 G env σ H) (hp : H p = none) :
    Rel K W B G0 H0 G env σ (upd H p o) ∧ G p = none ∧ H0 p = none ∧ ¬ W.mu p ∧ ∀ (i : Nat) l w c, env[i]? = some (.mo w c) → σ[i]? = some (some (.ref l)) → l ≠ p := by
  have hm : ¬ W.mu p := fun m => by
    obtain ⟨u, e⟩ := W.trk _ H p R.inv m
    rw [e] at hp
    cases hp
  refine ⟨R.grow (Grow.hid R.pub hp), R.pub.free hp, ?_, hm, fun i l w c h1 h2 e => ?_⟩
  · cases z : H0 p with
    | none => rfl
    | some u =>
      rw [R.fr p u z hm] at hp
      cases hp
  · obtain ⟨l2, e2, _, _, hl⟩ := R.get_mo h1
    rw [h2] at e2
    cases e2
    obtain ⟨o, ho⟩ := scok_some hl
    rw [e, hp] at ho
    cases ho
theorem ge_tup {x1 : Nat} (h : GA X es n1 m1) : GE X (.Tuple es x1 pos) n1 (mTup m1) := pe_imp (pe_tup h) fun σ H Q h => by
  obtain ⟨W, B, G0, H0, G, env, P, R, hm, q⟩ := h
  refine ⟨W, B, G0, H0, G, env, _, R, hm, fun as e1 vs G1 H1 p1 s1 R1 a1 => ?_⟩
  obtain ⟨ds, hd, hl, hP⟩ := mDats_ok p1
  have da := dats_ok a1 hd
  refine ⟨by rw [dpAll_len da]; exact hl, fun t ht => ?_⟩
  have g : Grow G1 H1 (upd G1 t (.tup vs)) (upd H1 t (.tup vs)) := Grow.new1 R1.pub ht
  exact q _ e1 _ _ _ hP (s1.trans g.eg) (R1.grow g) (.tup (SqT.of upd_same) (dpAll_same g.eg da))
theorem gf_lst (h : GA X es n1 m1) : GF X (.List es pos) n1 (mLst m1) := pe_imp (pe_lst h) fun σ H Q h => by
  obtain ⟨W, B, G0, H0, G, env, P, R, hm, q⟩ := h
  refine ⟨W, B, G0, H0, G, env, _, R, hm, fun as e1 vs G1 H1 p1 s1 R1 a1 => ?_⟩
  obtain ⟨ds, hd, hl, hP⟩ := mDats_ok p1
  have da := dats_ok a1 hd
  refine ⟨by rw [dpAll_len da]; exact hl, fun t ht => ?_⟩
  obtain ⟨R2, f1, f2, f3, f4⟩ := R1.fresh (o := .lst vs) ht
  exact q _ e1 _ _ _ hP s1 R2 ⟨vs, upd_same, f1, f2, f3, f4, da⟩
/-- a fresh list is published -/
theorem Rel.pubF {K : PySem.W.Frag} {W : Wd} {B : Nat} {G0 H0 G H : Hp} {env : DEnv} {σ : L2.St} {p : Addr} {xs : List D} (R : Rel K W B G0 H0 G env σ H) (h : FreshAt K W H0 G env σ H p xs) :
    ∃ G', Same G G' ∧ Rel K W B G0 H0 G' env σ H ∧ Dr K G' (.ref p) (.list xs) := by
  obtain ⟨vs, hp, hg, h0, hm, hd, hq⟩ := h
  have eg : Same G (upd G p (.lst vs)) := same_upd hg
  refine ⟨upd G p (.lst vs), eg, { g0 := R.g0.trans eg, pub := fun a u e => ?_, gm := fun a m => ?_, inv := R.inv, fr := R.fr, pn := fun a o e e0 => ?_, len := R.len, slot := fun j e s h1 h2 => ?_, dis := R.dis }, .lst upd_same (dpAll_same eg hq)⟩
  · by_cases z : a = p
    · subst z
      rw [upd_same] at e
      cases e
      exact hp
    · rw [upd_ne z] at e
      exact R.pub a u e
  · by_cases z : a = p
    · subst z
      exact absurd m hm
    · rw [upd_ne z]
      exact R.gm a m
  · by_cases z : a = p
    · subst z
      exact h0
    · rw [upd_ne z] at e
      exact R.pn a o e e0
  · have q := R.slot j e s h1 h2
    cases e with
    | un => trivial
    | d x =>
      obtain ⟨v, e1, q1⟩ := q
      exact ⟨v, e1, dp_same eg q1⟩
    | «at» _ => trivial
    | mo w c =>
      obtain ⟨l2, e1, n2, o2, q1⟩ := q
      refine ⟨l2, e1, ?_, o2, scok_later eg (fun _ h => h) q1⟩
      subst e1
      rw [upd_ne (hd j l2 w c h1 h2)]
      exact n2
    | hd => exact q
theorem ge_pub {mf : MF} (h : GF X e ne mf) : GE X e ne (mPubF mf) := pe_imp h fun σ H Q h => by
  obtain ⟨W, B, G0, H0, G, env, P, R, hm, q⟩ := h
  refine ⟨W, B, G0, H0, G, env, _, R, hm, fun xs e1 p G1 H1 p1 s1 R1 f1 => ?_⟩
  obtain ⟨G2, s2, R2, d2⟩ := R1.pubF f1
  exact q _ e1 _ G2 H1 p1 (s1.trans s2) R2 d2
theorem ge_lst (h : GA X es n1 m1) : GE X (.List es pos) n1 (mPubF (mLst m1)) := ge_pub (gf_lst h)
theorem cb_ok {f : List D → (D → Prop) → Prop} {σ : L2.St} {H : Hp} {Q : VK} (h : tD X.K n1 (mCB f m1) σ H Q) : tCB (rDC X.K f) (tA X.K n1 m1) σ H Q := by
  obtain ⟨W, B, G0, H0, G, env, P, R, hm, q⟩ := h
  refine ⟨W, B, G0, H0, G, env, _, R, hm, fun as e1 vs G1 H1 p1 s1 R1 a1 => ?_⟩
  obtain ⟨ds, hd, hP⟩ := mDats_ok p1
  exact ⟨G1, ds, _, R1.pub, dats_ok a1 hd, hP, fun z v G2 H2 p2 g2 d2 => q z e1 v G2 H2 p2 (s1.trans g2.eg) (R1.grow g2) d2⟩
theorem ge_callB {id : String} {x : Str} {f : List D → (D → Prop) → Prop} (hc : CallR X (.builtin id) (rDC X.K f)) (hg : Gl X x) (hm : X.mg x = none) (hv : bootBuiltins x = some (.builtin id)) (ha : GA X (e :: es) n1 m1) (hn : x ≠ "__name__" := by decide) (hdb : (x == ("__debug__" : Str)) = false := by decide)
    (he : starEach (e :: es) X.env = (false, eval e X.env) :: starEach es X.env := by rfl) (hpl : (backTo pos (starEach es X.env)).any (·.1) = false := by rfl) : GE X (.Call (.Name x p) (e :: es) [] pos) n1 (mCB f m1) :=
  pe_imp (pe_callB hc hg hm hv ha hn hdb he hpl) fun σ H Q h => cb_ok h
theorem ge_callTy {T : String} {x : Str} {f : List D → (D → Prop) → Prop} (hc : CallR X (.type T) (rDC X.K f)) (hg : Gl X x) (hm : X.mg x = none) (hv : bootBuiltins x = some (.type T)) (ha : GA X (e :: es) n1 m1) (hn : x ≠ "__name__" := by decide) (hdb : (x == ("__debug__" : Str)) = false := by decide)
    (he : starEach (e :: es) X.env = (false, eval e X.env) :: starEach es X.env := by rfl) (hpl : (backTo pos (starEach es X.env)).any (·.1) = false := by rfl) : GE X (.Call (.Name x p) (e :: es) [] pos) n1 (mCB f m1) :=
  pe_imp (pe_callTy hc hg hm hv ha hn hdb he hpl) fun σ H Q h => cb_ok h
/-! ### a def's promise on data -/
def spD (K : PySem.W.Frag) (c : Nat) (sp : List EV → (D → Prop) → Prop) : Sp := fun vs H Q _ => ∃ (k : Wk) (B : Nat) (G : Hp) (as : List EV) (P : D → Prop), RW (.of k) (B + c) G H G H ∧ ArgsOk K k G vs as ∧ sp as P ∧
  ∀ x v G' H', P x → RW (.of k) B G H G' H' → Dr K G' v x → Q v H'
theorem call_ok {cc : Nat} {sp : List EV → (D → Prop) → Prop} {E : XK} {σ : L2.St} {H : Hp} {Q : VK} (h : tD X.K (n1 + cc) (mCall sp m1) σ H Q) : tCall (spD X.K cc sp) [] E (tA X.K n1 m1) σ H Q := by
  obtain ⟨W, B, G0, H0, G, env, P, R, hm, q⟩ := h
  refine ⟨W, B + cc, G0, H0, G, env, _, R.le (by omega), hm, fun as e1 vs G1 H1 p1 s1 R1 a1 => ?_⟩
  show spD X.K cc sp (vs ++ []) H1 Q E
  rw [List.append_nil]
  exact ⟨W.dk, B, G1, as, _, R1.toRW.self0, a1, p1, fun x v G2 H2 p2 r2 d2 => q x e1 v G2 H2 p2 (s1.trans r2.g0) (R1.after r2) d2⟩
theorem ge_call {CX : CXT} {k cc : Nat} {f : Addr} {fd : FuncData} {ps : List Str} {sp : List EV → (D → Prop) → Prop} {E : XK} {x : Str} (F : FnOk X.prog X.w X.K X.mg X.base CX k f fd ps (spD X.K cc sp)) (hr : Room k X.A) (hg : Gl X x) (hm : X.mg x = some (.ref f)) (hk : PySem.W.keepIn X.K (.ref f) = true) (hb : Binds X.K fd ps []) (hx : Passes CX X E)
    (ha : GA X (e :: es) n1 m1) (hdb : (x == ("__debug__" : Str)) = false := by decide) (he : starEach (e :: es) X.env = (false, eval e X.env) :: starEach es X.env := by rfl) (hpl : (backTo pos (starEach es X.env)).any (·.1) = false := by rfl) :
    GE X (.Call (.Name x p) (e :: es) [] pos) (n1 + cc) (mCall sp m1) := pe_imp (pe_call F hr hg hm hk hb .nil hx ha hdb he hpl) fun σ H Q h => call_ok h
theorem ge_call0 {CX : CXT} {k cc : Nat} {f : Addr} {fd : FuncData} {ps : List Str} {sp : List EV → (D → Prop) → Prop} {E : XK} {x : Str} (F : FnOk X.prog X.w X.K X.mg X.base CX k f fd ps (spD X.K cc sp)) (hr : Room k X.A) (hg : Gl X x) (hm : X.mg x = some (.ref f)) (hk : PySem.W.keepIn X.K (.ref f) = true) (hb : Binds X.K fd ps []) (hx : Passes CX X E)
    (hdb : (x == ("__debug__" : Str)) = false := by decide) : GE X (.Call (.Name x p) [] [] pos) cc (mCall sp mNil) := pe_imp (pe_call0 F hr hg hm hk hb .nil hx hdb) fun σ H Q h => by
  obtain ⟨W, B, G0, H0, G, env, P, R, hm, q⟩ := h
  exact ⟨W.dk, B, G, [], _, R.toRW.self0, .nil, hm, fun x v G2 H2 p2 r2 d2 => q x env v G2 H2 p2 r2.g0 (R.after r2) d2⟩
/-! ### a built-in's method -/
/-- the receiver's type by data -/
def tyD : D → String
  | .str _ => "str"
  | .int _ => "int"
  | .list _ => "list"
  | _ => ""
theorem ty_ok {K : PySem.W.Frag} {G H : Hp} {v : V} {x : D} {T : String} (s : Pub G H) (d : Dr K G v x) (h : tyD x = T) (hT : T ≠ "") : tyV K T v H := by
  cases x with
  | str z => cases dp_str d; exact h.symm
  | int i => cases dp_int d; exact h.symm
  | list xs =>
    obtain ⟨a, vs, rfl, h1, h2⟩ := dp_lst d
    exact .inl ⟨h.symm, vs, SqL.of (s.lst h1)⟩
  | _ => exact absurd h.symm hT
def mBMt (T : String) (f : D → List D → (D → Prop) → Prop) (o : ME) (a : MA) : ME := fun env P => o env fun x e1 => tyD x = T ∧ a e1 fun as e2 => mDats as fun ds => f x ds fun z => P z e2
theorem ge_bm {T id : String} {name : Str} {apos cpos : Pos} {f : D → List D → (D → Prop) → Prop} {mo : ME} (pa : PlainAttrs T) (slot : Slot T name id) (hty : typeOf (.builtin id) = pure (.type "method_descriptor")) (hm : MtR X id (rDM X.K f)) (ho : GE X o no mo) (ha : GA X (e :: es) n1 m1) (hT : T ≠ "" := by decide)
    (hbase : attributeBase o name X.env (eval o X.env) = eval o X.env := by rfl)
    (hfew : ((backTo cpos (starEach (e :: es) X.env)).all (fun x => !x.1) && (backToKw cpos (keywordEach [] X.env)).all (fun x => x.1.isSome)
      && decide ((e :: es).length + ([] : List Keyword).length + (if ([] : List Keyword).isEmpty then 0 else 1) < 30)) = true := by rfl)
    (hline : (apos.endLine == cpos.line) = true := by rfl) (hs : starEach (e :: es) X.env = (false, eval e X.env) :: starEach es X.env := by rfl) (hplain : (backTo cpos (starEach es X.env)).any (·.1) = false := by rfl) :
    GE X (.Call (.Attribute o name apos) (e :: es) [] cpos) (no + n1) (mBMt T f mo m1) := pe_imp (pe_bm pa slot hty hm ho ha hbase hfew hline hs hplain) fun σ H Q h => by
  obtain ⟨W, B, G0, H0, G, env, P, R, hm, q⟩ := h
  refine ⟨W, B + n1, G0, H0, G, env, _, R.le (by omega), hm, fun x e1 v G1 H1 p1 s1 R1 d1 => ⟨ty_ok R1.pub d1 p1.1 hT, W, _, G0, H0, G1, e1, _, R1, p1.2, fun as e2 vs G2 H2 p2 s2 R2 a2 => ?_⟩⟩
  obtain ⟨ds, hd, hP⟩ := mDats_ok p2
  exact ⟨G2, x, ds, _, R2.pub, dp_same s2 d1, dats_ok a2 hd, hP, fun z w G3 H3 p3 g3 d3 => q z e2 w G3 H3 p3 ((s1.trans s2).trans g3.eg) (R2.grow g3) d3⟩
theorem ge_bm0 {T id : String} {name : Str} {apos cpos : Pos} {f : D → List D → (D → Prop) → Prop} {mo : ME} (pa : PlainAttrs T) (slot : Slot T name id) (hty : typeOf (.builtin id) = pure (.type "method_descriptor")) (hm : MtR X id (rDM X.K f)) (ho : GE X o no mo) (hT : T ≠ "" := by decide)
    (hbase : attributeBase o name X.env (eval o X.env) = eval o X.env := by rfl) (hline : (apos.endLine == cpos.line) = true := by rfl) : GE X (.Call (.Attribute o name apos) [] [] cpos) no (mBMt T f mo mNil) := pe_imp (pe_bm0 pa slot hty hm ho hbase hline) fun σ H Q h => by
  obtain ⟨W, B, G0, H0, G, env, P, R, hm, q⟩ := h
  refine ⟨W, B, G0, H0, G, env, _, R, hm, fun x e1 v G1 H1 p1 s1 R1 d1 => ⟨ty_ok R1.pub d1 p1.1 hT, ?_⟩⟩
  exact ⟨G1, x, [], _, R1.pub, d1, .nil, p1.2, fun z w G3 H3 p3 g3 d3 => q z e1 w G3 H3 p3 (s1.trans g3.eg) (R1.grow g3) d3⟩
end
end DL
namespace DL
open PySem PySem.Spec PyProof.Rows L2
/-! ### statements -/
structure DEnds where
  nx : DEnv → Prop
  rt : D → DEnv → Prop
  bk : DEnv → Prop := fun _ => False
  ct : DEnv → Prop := fun _ => False
abbrev MS := DEnds → DEnv → Prop
structure EndsOk (K : PySem.W.Frag) (W : Wd) (B : Nat) (G0 H0 G : Hp) (E : DEnds) (D : Ends) : Prop where
  nx : ∀ env' σ' G' H', E.nx env' → Same G G' → Rel K W B G0 H0 G' env' σ' H' → D.nx σ' H'
  rt : ∀ x env' σ' v G' H', E.rt x env' → Same G G' → Rel K W B G0 H0 G' env' σ' H' → Dr K G' v x → D.rt v H'
  bk : ∀ env' σ' G' H', E.bk env' → Same G G' → Rel K W B G0 H0 G' env' σ' H' → D.bk σ' H'
  ct : ∀ env' σ' G' H', E.ct env' → Same G G' → Rel K W B G0 H0 G' env' σ' H' → D.ct σ' H'
theorem EndsOk.later {K : PySem.W.Frag} {W : Wd} {B : Nat} {G0 H0 G G' : Hp} {E : DEnds} {D : Ends} (h : EndsOk K W B G0 H0 G E D) (s : Same G G') : EndsOk K W B G0 H0 G' E D :=
  ⟨fun e σ g H p z => h.nx e σ g H p (s.trans z), fun x e σ v g H p z => h.rt x e σ v g H p (s.trans z), fun e σ g H p z => h.bk e σ g H p (s.trans z), fun e σ g H p z => h.ct e σ g H p (s.trans z)⟩
theorem EndsOk.more {K : PySem.W.Frag} {W : Wd} {B B' : Nat} {G0 H0 G : Hp} {E : DEnds} {D : Ends} (h : EndsOk K W B G0 H0 G E D) (l : B ≤ B') : EndsOk K W B' G0 H0 G E D :=
  ⟨fun e σ g H p z R => h.nx e σ g H p z (R.le l), fun x e σ v g H p z R d => h.rt x e σ v g H p z (R.le l) d, fun e σ g H p z R => h.bk e σ g H p z (R.le l), fun e σ g H p z R => h.ct e σ g H p z (R.le l)⟩
def tS (K : PySem.W.Frag) (n : Nat) (m : MS) : TS := fun D σ H => ∃ (W : Wd) (B : Nat) (G0 H0 G : Hp) (env : DEnv) (E : DEnds), Rel K W (B + n) G0 H0 G env σ H ∧ m E env ∧ EndsOk K W B G0 H0 G E D
abbrev GS (X : Cx) (st : Stmt) (n : Nat) (m : MS) : Prop := PS X st (tS X.K n m)
abbrev GSs (X : Cx) (st : List Stmt) (n : Nat) (m : MS) : Prop := PSs X st (tS X.K n m)
def sNext : MS := fun E env => E.nx env
def sSeq (a b : MS) : MS := fun E env => a { E with nx := b E } env
def sSet (i : Nat) (m : ME) : MS := fun E env => m env fun x e1 => E.nx (e1.set i (.d x))
def sSetF (i : Nat) (m : MF) : MS := fun E env => m env fun xs e1 => E.nx (e1.set i (.own xs))
def sRet (m : ME) : MS := fun E env => m env fun x e1 => E.rt x e1
def sRetN : MS := fun E env => E.rt .none env
def sDrop (m : ME) : MS := fun E env => m env fun _ e1 => E.nx e1
def sIf (t : MT) (a b : MS) : MS := fun E env => t env fun k e1 => match k with
  | true => a E e1
  | false => b E e1
def sBreak : MS := fun E env => E.bk env
def sCont : MS := fun E env => E.ct env
/-- x.append(e), x an own list -/
def sApp (i : Nat) (m : ME) : MS := fun E env => (∃ xs, env[i]? = some (.own xs)) ∧ m env fun x e1 => match e1[i]? with
  | some (.mo none (.lst xs)) => xs.length < sizeLine ∧ E.nx (e1.set i (.own (xs ++ [x])))
  | _ => False
section
variable {X : Cx} {a b c e o : Expr} {es : List Expr} {st : Stmt} {sts sts' : List Stmt} {pos p : Pos} {ma mb mc me : ME} {mt mu : MT} {m1 m2 : MA} {ms ms' : MS} {mf : MF} {na nb nc ne nt n1 n2 : Nat}
theorem gss_nil : GSs X [] 0 sNext := pss_imp pss_nil fun D σ H h => by
  obtain ⟨W, B, G0, H0, G, env, E, R, hm, q⟩ := h
  exact q.nx _ _ _ _ hm (Same.refl _) R
theorem gss_cons (h1 : GS X st n1 ms) (h2 : GSs X sts n2 ms') : GSs X (st :: sts) (n1 + n2) (sSeq ms ms') := pss_imp (pss_cons h1 h2) fun D σ H h => by
  obtain ⟨W, B, G0, H0, G, env, E, R, hm, q⟩ := h
  have q2 := q.more (Nat.le_add_right B n2)
  refine ⟨W, B + n2, G0, H0, G, env, _, R.le (by omega), hm, ⟨fun e σ g H p z R2 => ⟨W, B, G0, H0, g, e, E, R2, p, q.later z⟩, q2.rt, q2.bk, q2.ct⟩⟩
theorem gss_one (h1 : GS X st n1 ms) : GSs X [st] n1 ms := pss_one h1
theorem gs_never : GS X st 0 (fun _ _ => False) := pss_never_of where
  pss_never_of := ps_imp ps_never fun D σ H h => by
    obtain ⟨W, B, G0, H0, G, env, E, R, hm, q⟩ := h
    exact hm
theorem gs_pass : GS X (.Pass pos) 0 sNext := ps_imp ps_pass fun D σ H h => by
  obtain ⟨W, B, G0, H0, G, env, E, R, hm, q⟩ := h
  exact q.nx _ _ _ _ hm (Same.refl _) R
theorem gs_break : GS X (.Break pos) 0 sBreak := ps_imp ps_break fun D σ H h => by
  obtain ⟨W, B, G0, H0, G, env, E, R, hm, q⟩ := h
  exact q.bk _ _ _ _ hm (Same.refl _) R
theorem gs_cont : GS X (.Continue pos) 0 sCont := ps_imp ps_continue fun D σ H h => by
  obtain ⟨W, B, G0, H0, G, env, E, R, hm, q⟩ := h
  exact q.ct _ _ _ _ hm (Same.refl _) R
theorem gs_set {i : Nat} {x : Str} {pos' : Pos} (hN : X.N.Nodup) (hi : X.N[i]? = some x) (hx : Loc X.env.scope x) (he : GE X e ne me) (hs : swapsWith e (some (.Name x pos')) pos.line X.env = pure false := by rfl) (hf : X.fn x = true ∨ X.env.scope.names.lookup x = some .local := by first | exact .inl rfl | exact .inr rfl) :
    GS X (.Assign [.Name x pos'] e pos) ne (sSet i me) := ps_imp (ps_set hN hi hx he hs hf) fun D σ H h => by
  obtain ⟨W, B, G0, H0, G, env, E, R, hm, q⟩ := h
  refine ⟨W, B, G0, H0, G, env, _, R, hm, fun x e1 v G1 H1 p1 s1 R1 d1 => ?_⟩
  exact q.nx _ _ _ _ p1 s1 (R1.set_d d1)
theorem Rel.set_own {K : PySem.W.Frag} {W : Wd} {B : Nat} {G0 H0 G H : Hp} {env : DEnv} {σ : L2.St} {i : Nat} {p : Addr} {xs : List D} (r : Rel K W B G0 H0 G env σ H) (h : FreshAt K W H0 G env σ H p xs) : Rel K W B G0 H0 G (env.set i (.own xs)) (σ.set i (some (.ref p))) H := by
  obtain ⟨vs, hp, hg, h0, hm, hd, hq⟩ := h
  exact { r.toRW with
    len := by rw [List.length_set, List.length_set]; exact r.len
    slot := fun j e s h1 h2 => by
      by_cases z : i = j
      · subst z
        by_cases hl : i < env.length
        · rw [List.getElem?_set_self hl] at h1
          rw [List.getElem?_set_self (r.len ▸ hl)] at h2
          cases h1
          cases h2
          exact ⟨p, rfl, hg, ⟨h0, hm⟩, vs, hp, hq⟩
        · rw [List.getElem?_eq_none (by rw [List.length_set]; omega)] at h1
          cases h1
      · rw [List.getElem?_set_ne z] at h1 h2
        exact r.slot j e s h1 h2
    dis := fun j k wi ci wj cj l ne h1 h2 h3 h4 => by
      have bd : ∀ {n : Nat} {y}, (env.set i (.own xs))[n]? = some y → n < env.length := fun {n y} h => by
        have := (List.getElem?_eq_some_iff.mp h).1
        rw [List.length_set] at this
        exact this
      have b1 := bd h1
      have b2 := bd h2
      by_cases z1 : i = j
      · subst z1
        rw [List.getElem?_set_self (r.len ▸ b1)] at h3
        cases h3
        rw [List.getElem?_set_ne ne] at h2 h4
        exact hd k _ _ _ h2 h4 rfl
      · rw [List.getElem?_set_ne z1] at h1 h3
        by_cases z2 : i = k
        · subst z2
          rw [List.getElem?_set_self (r.len ▸ b2)] at h4
          cases h4
          exact hd j _ _ _ h1 h3 rfl
        · rw [List.getElem?_set_ne z2] at h2 h4
          exact r.dis j k wi ci wj cj l ne h1 h2 h3 h4 }
theorem gs_setF {i : Nat} {x : Str} {pos' : Pos} (hN : X.N.Nodup) (hi : X.N[i]? = some x) (hx : Loc X.env.scope x) (he : GF X e ne mf) (hs : swapsWith e (some (.Name x pos')) pos.line X.env = pure false := by rfl) (hf : X.fn x = true ∨ X.env.scope.names.lookup x = some .local := by first | exact .inl rfl | exact .inr rfl) :
    GS X (.Assign [.Name x pos'] e pos) ne (sSetF i mf) := ps_imp (ps_set hN hi hx he hs hf) fun D σ H h => by
  obtain ⟨W, B, G0, H0, G, env, E, R, hm, q⟩ := h
  refine ⟨W, B, G0, H0, G, env, _, R, hm, fun xs e1 p G1 H1 p1 s1 R1 d1 => ?_⟩
  exact q.nx _ _ _ _ p1 s1 (R1.set_own d1)
theorem gs_ret (he : GE X e ne me) : GS X (.Return (some e) pos) ne (sRet me) := ps_imp (ps_ret he) fun D σ H h => by
  obtain ⟨W, B, G0, H0, G, env, E, R, hm, q⟩ := h
  exact ⟨W, B, G0, H0, G, env, _, R, hm, fun x e1 v G1 H1 p1 s1 R1 d1 => q.rt _ _ _ _ _ _ p1 s1 R1 d1⟩
theorem gs_retN : GS X (.Return none pos) 0 sRetN := ps_imp ps_retN fun D σ H h => by
  obtain ⟨W, B, G0, H0, G, env, E, R, hm, q⟩ := h
  exact q.rt _ _ _ _ _ _ hm (Same.refl _) R .non
theorem gs_expr (he : GE X e ne me) (hs : swapsWith e none pos.line X.env = pure false := by rfl) : GS X (.Expr e pos) ne (sDrop me) := ps_imp (ps_expr he hs) fun D σ H h => by
  obtain ⟨W, B, G0, H0, G, env, E, R, hm, q⟩ := h
  exact ⟨W, B, G0, H0, G, env, _, R, hm, fun x e1 v G1 H1 p1 s1 R1 d1 => q.nx _ _ _ _ p1 s1 R1⟩
theorem gs_if (hc : GT X c nt mt) (ha : GSs X sts n1 ms) (hb : GSs X sts' n2 ms') : GS X (.If c sts sts' pos) (nt + (n1 + n2)) (sIf mt ms ms') := ps_imp (ps_if hc ha hb) fun D σ H h => by
  obtain ⟨W, B, G0, H0, G, env, E, R, hm, q⟩ := h
  refine ⟨W, B + (n1 + n2), G0, H0, G, env, _, R.le (by omega), hm, fun k e1 G1 H1 p1 s1 R1 => ?_⟩
  cases k with
  | true => exact iteT ⟨W, B + n2, G0, H0, G1, e1, E, R1.le (by omega), p1, (q.more (by omega)).later s1⟩
  | false => exact iteF ⟨W, B + n1, G0, H0, G1, e1, E, R1.le (by omega), p1, (q.more (by omega)).later s1⟩
/-- an object is written -/
theorem Rel.put {K : PySem.W.Frag} {W : Wd} {B : Nat} {G0 H0 G H : Hp} {env : DEnv} {σ : L2.St} {i : Nat} {l : Addr} {o : HO} {w : Option Nat} {c c' : SC} (r : Rel K W B G0 H0 G env σ H) (h : env[i]? = some (.mo w c)) (hs : σ[i]? = some (some (.ref l))) (hc : ScOk K G (upd H l o) l c') :
    Rel K W B G0 H0 G (env.set i (.mo w c')) σ (upd H l o) := by
  have hil : i < env.length := (List.getElem?_eq_some_iff.mp h).1
  obtain ⟨l0, e0, hg, hw, hq⟩ := r.get_mo h
  rw [hs] at e0
  cases e0
  have hdk := r.mo_ndk h hs
  refine { g0 := r.g0, pub := fun a o e => ?_, gm := r.gm, inv := W.loc' _ H _ (fun a m => ?_) (fun a m => ?_) r.inv, fr := fun a o e m => ?_, pn := r.pn, len := by rw [List.length_set]; exact r.len, slot := fun j e s h1 h2 => ?_, dis := fun j k wi ci wj cj l' ne h1 h2 h3 => ?_ }
  · have ne : a ≠ l := fun z => by
      subst z
      rw [hg] at e
      cases e
    rw [upd_ne ne]
    exact r.pub a o e
  · have ne : a ≠ l := fun z => by
      subst z
      exact hdk m
    rw [upd_ne ne]
  · by_cases z : a = l
    · subst z
      exact ⟨_, upd_same⟩
    · rw [upd_ne z]
      exact r.inv.2.2 a m
  · have ne : a ≠ l := fun z => by
      subst z
      cases w with
      | none =>
        have := hw.1
        rw [this] at e
        cases e
      | some j => exact m (.inr (List.mem_of_getElem? hw))
    rw [upd_ne ne]
    exact r.fr a o e m
  · by_cases z : i = j
    · subst z
      rw [List.getElem?_set_self hil] at h1
      cases h1
      rw [hs] at h2
      cases h2
      exact ⟨l, rfl, hg, hw, hc⟩
    · rw [List.getElem?_set_ne z] at h1
      have q := r.slot j e s h1 h2
      cases e with
      | un => trivial
      | d x => exact q
      | «at» _ => trivial
      | mo w2 c2 =>
        obtain ⟨l2, e1, n2, o2, q1⟩ := q
        have ne : l2 ≠ l := fun w => by
          subst w
          subst e1
          exact r.dis i j _ _ _ _ l2 z h h1 hs h2
        refine ⟨l2, e1, n2, o2, scok_later (Same.refl _) (fun u hu => ?_) q1⟩
        rw [upd_ne ne]
        exact hu
      | hd => exact q
  · have f : ∀ {n : Nat} {w' c''}, (env.set i (.mo w c'))[n]? = some (.mo w' c'') → ∃ w' c'', env[n]? = some (.mo w' c'') := fun {n w' c''} hh => by
      by_cases z : i = n
      · subst z
        exact ⟨_, _, h⟩
      · rw [List.getElem?_set_ne z] at hh
        exact ⟨_, _, hh⟩
    obtain ⟨w1, c1, g1⟩ := f h1
    obtain ⟨w2, c2, g2⟩ := f h2
    exact r.dis j k w1 c1 w2 c2 l' ne g1 g2 h3
/-- an own list is written -/
theorem Rel.write {K : PySem.W.Frag} {W : Wd} {B : Nat} {G0 H0 G H : Hp} {env : DEnv} {σ : L2.St} {i : Nat} {l : Addr} {vs us : List V} {xs ys : List D} (r : Rel K W B G0 H0 G env σ H) (h : env[i]? = some (.own xs)) (hs : σ[i]? = some (some (.ref l))) (hl : H l = some (.lst vs)) (hg : G l = none) (h0 : H0 l = none) (hm : ¬ W.mu l) (hq : DrAll K G us ys) :
    Rel K W B G0 H0 G (env.set i (.own ys)) σ (upd H l (.lst us)) := r.put h hs ⟨us, upd_same, hq⟩
theorem gs_append {i : Nat} {x : Str} {px apos cpos : Pos} (hN : X.N[i]? = some x) (hv : Vis X.env.scope x) (he : GE X e ne me) (hd : (x == ("__debug__" : Str)) = false := by decide)
    (hcd : (x == ("__classdict__" : Str)) = false := by decide) (hbase : attributeBase (.Name x px) "append" X.env (eval (.Name x px) X.env) = eval (.Name x px) X.env := by rfl)
    (hfew : ((backTo cpos (starEach [e] X.env)).all (fun x => !x.1) && (backToKw cpos (keywordEach [] X.env)).all (fun x => x.1.isSome)
      && decide ([e].length + ([] : List Keyword).length + (if ([] : List Keyword).isEmpty then 0 else 1) < 30)) = true := by rfl)
    (hline : (apos.endLine == cpos.line) = true := by rfl) (hs : starEach [e] X.env = (false, eval e X.env) :: starEach [] X.env := by rfl) (hplain : (backTo cpos (starEach ([] : List Expr) X.env)).any (·.1) = false := by rfl)
    (hsw : swapsWith (.Call (.Attribute (.Name x px) "append" apos) [e] [] cpos) none pos.line X.env = pure false := by rfl) :
    GS X (.Expr (.Call (.Attribute (.Name x px) "append" apos) [e] [] cpos) pos) ne (sApp i me) :=
  ps_imp (ps_expr (pe_bm PySem.F.plainAttrs_list PySem.F.slot_list_append PySem.F.type_list_append mt_append (pe_var hN hv hd hcd) (pa_cons he pa_nil hs) hbase hfew hline hs hplain) hsw) fun D σ H h => by
  obtain ⟨W, B, G0, H0, G, env, E, R, ⟨⟨xs, hx⟩, hm⟩, q⟩ := h
  obtain ⟨l, vs, e1, hl, hg, h0, hmu, hq⟩ := R.get_own hx
  refine ⟨_, e1, .inl ⟨rfl, vs, SqL.of hl⟩, W, B, G0, H0, G, env, _, R, hm, fun y e2 v G2 H2 p2 s2 R2 d2 => ?_⟩
  split at p2
  · rename_i ys hy
    obtain ⟨l2, us, f1, hl2, hg2, h02, hmu2, hq2⟩ := R2.get_own hy
    rw [e1] at f1
    cases f1
    refine ⟨l, us, v, rfl, rfl, hl2, by rw [dpAll_len hq2]; exact p2.1, ?_⟩
    exact q.nx _ _ _ _ p2.2 s2 (R2.write hy e1 hl2 hg2 h02 hmu2 (dpAll_app hq2 (dpAll_one d2)))
  · exact p2.elim
end
end DL
namespace DL
open PySem PySem.Spec PyProof.Rows L2
/-! ### slots forgotten (a comprehension's own) -/
def wipeE (env : DEnv) : List Nat → DEnv
  | [] => env
  | v :: vs => (wipeE env vs).set v .un
theorem wipeE_length (env : DEnv) : ∀ vs : List Nat, (wipeE env vs).length = env.length
  | [] => rfl
  | v :: vs => by unfold wipeE; rw [List.length_set, wipeE_length env vs]
theorem wipeE_out {env : DEnv} {i : Nat} : ∀ {vs : List Nat}, i ∉ vs → (wipeE env vs)[i]? = env[i]?
  | [], _ => rfl
  | v :: vs, h => by
    unfold wipeE
    rw [List.getElem?_set_ne (fun e => h (by rw [e]; exact List.mem_cons_self))]
    exact wipeE_out fun z => h (List.mem_cons_of_mem _ z)
theorem wipeE_in {env : DEnv} {i : Nat} {e : EV} : ∀ {vs : List Nat}, i ∈ vs → (wipeE env vs)[i]? = some e → e = .un
  | [], h, _ => by cases h
  | v :: vs, h, q => by
    unfold wipeE at q
    by_cases z : v = i
    · subst z
      by_cases hv : v < (wipeE env vs).length
      · rw [List.getElem?_set_self hv] at q
        cases q
        rfl
      · rw [List.getElem?_eq_none (by rw [List.length_set]; omega)] at q
        cases q
    · rw [List.getElem?_set_ne z] at q
      rcases List.mem_cons.mp h with h | h
      · exact absurd h.symm z
      · exact wipeE_in h q
theorem wipe_out' {σ : L2.St} {i : Nat} : ∀ {vs : List Nat}, i ∉ vs → (wipe σ vs)[i]? = σ[i]?
  | [], _ => rfl
  | v :: vs, h => by
    unfold wipe
    rw [List.getElem?_set_ne (fun e => h (by rw [e]; exact List.mem_cons_self))]
    exact wipe_out' fun z => h (List.mem_cons_of_mem _ z)
theorem wipe_set {σ : L2.St} {i : Nat} {s : Option V} : ∀ {vs : List Nat}, i ∈ vs → wipe (σ.set i s) vs = wipe σ vs
  | [], h => by cases h
  | v :: vs, h => by
    unfold wipe
    by_cases z : i ∈ vs
    · rw [wipe_set z]
    · have e : v = i := by
        rcases List.mem_cons.mp h with h | h
        · exact h.symm
        · exact absurd h z
      subst e
      have : ∀ (τ : L2.St) (ws : List Nat), v ∉ ws → wipe (τ.set v s) ws = (wipe τ ws).set v s := fun τ ws => by
        induction ws with
        | nil => exact fun _ => rfl
        | cons w ws ih =>
          intro hw
          unfold wipe
          rw [ih fun q => hw (List.mem_cons_of_mem _ q)]
          exact (List.set_comm _ _ (fun q => hw (by rw [q]; exact List.mem_cons_self)))
      rw [this σ vs z, List.set_set]
theorem wipeE_set {env : DEnv} {i : Nat} {s : EV} : ∀ {vs : List Nat}, i ∈ vs → wipeE (env.set i s) vs = wipeE env vs
  | [], h => by cases h
  | v :: vs, h => by
    unfold wipeE
    by_cases z : i ∈ vs
    · rw [wipeE_set z]
    · have e : v = i := by
        rcases List.mem_cons.mp h with h | h
        · exact h.symm
        · exact absurd h z
      subst e
      have : ∀ (τ : DEnv) (ws : List Nat), v ∉ ws → wipeE (τ.set v s) ws = (wipeE τ ws).set v s := fun τ ws => by
        induction ws with
        | nil => exact fun _ => rfl
        | cons w ws ih =>
          intro hw
          unfold wipeE
          rw [ih fun q => hw (List.mem_cons_of_mem _ q)]
          exact (List.set_comm _ _ (fun q => hw (by rw [q]; exact List.mem_cons_self)))
      rw [this env vs z, List.set_set]
section
variable {K : PySem.W.Frag} {W : Wd} {B : Nat} {G0 H0 G H G' H' : Hp} {env : DEnv} {σ : L2.St}
theorem Rel.wipe (r : Rel K W B G0 H0 G env σ H) (vs : List Nat) : Rel K W B G0 H0 G (wipeE env vs) (L2.wipe σ vs) H :=
  { r.toRW with
    len := by rw [wipeE_length, L2.wipe_length]; exact r.len
    slot := fun i e s h1 h2 => by
      by_cases z : i ∈ vs
      · rw [wipeE_in z h1]
        trivial
      · rw [wipeE_out z] at h1
        rw [wipe_out' z] at h2
        exact r.slot i e s h1 h2
    dis := fun i j wi ci wj cj l ne h1 h2 h3 h4 => by
      have f : ∀ {n : Nat} {w c}, (wipeE env vs)[n]? = some (.mo w c) → n ∉ vs := fun {n w c} h z => by cases wipeE_in z h
      have z1 := f h1
      have z2 := f h2
      rw [wipeE_out z1] at h1
      rw [wipeE_out z2] at h2
      rw [wipe_out' z1] at h3
      rw [wipe_out' z2] at h4
      exact r.dis i j wi ci wj cj l ne h1 h2 h3 h4 }
def noOwn (env : DEnv) (vs : List Nat) : Prop := ∀ i ∈ vs, ∀ w c, env[i]? ≠ some (.mo w c)
theorem Rel.unwipe {vs : List Nat} {B' : Nat} (r : Rel K W B G0 H0 G env σ H) (n : noOwn env vs) (s : Same G G') (q : Rel K W B' G0 H0 G' (wipeE env vs) (L2.wipe σ vs) H') : Rel K W B' G0 H0 G' env σ H' :=
  { q.toRW with
    len := r.len
    slot := fun i e s' h1 h2 => by
      by_cases z : i ∈ vs
      · have h := r.slot i e s' h1 h2
        cases e with
        | un => trivial
        | d x =>
          obtain ⟨v, e1, q1⟩ := h
          exact ⟨v, e1, dp_same s q1⟩
        | mo w c => exact absurd h1 (n i z w c)
        | «at» _ => trivial
        | hd => exact h
      · exact q.slot i e s' (by rw [wipeE_out z]; exact h1) (by rw [wipe_out' z]; exact h2)
    dis := r.dis }
theorem Rel.guard {D : Addr} {o : HO} (r : Rel K W B G0 H0 G env σ H) (hD : H D = some o) (hg : G D = none) (ho : ∀ (i : Nat) l w c, env[i]? = some (.mo w c) → σ[i]? = some (some (.ref l)) → l ≠ D) : Rel K W B G0 (upd H0 D o) G env σ H :=
  { r.toRW with
    fr := fun a u h m => by
      by_cases z : a = D
      · subst z
        rw [upd_same] at h
        cases h
        exact hD
      · rw [upd_ne z] at h
        exact r.fr a u h m
    pn := fun a u h h0 => by
      have z : a ≠ D := fun z => by
        subst z
        rw [hg] at h
        cases h
      rw [upd_ne z]
      exact r.pn a u h h0
    len := r.len
    slot := fun i e s h1 h2 => by
      have h := r.slot i e s h1 h2
      cases e with
      | mo w c =>
        obtain ⟨l, e1, n, o, q⟩ := h
        refine ⟨l, e1, n, ?_, q⟩
        cases w with
        | some j => exact o
        | none =>
          refine ⟨?_, o.2⟩
          subst e1
          rw [upd_ne (ho i l _ c h1 h2)]
          exact o.1
      | un => trivial
      | d x => exact h
      | hd => exact h
      | «at» _ => trivial
    dis := r.dis }
theorem Rel.unguard {D : Addr} {o : HO} (r : Rel K W B G0 (upd H0 D o) G env σ H) (hm : ¬ W.mu D) (hg0 : G0 D = none) (h0 : H0 D = none) :
    Rel K W B G0 H0 G env σ H ∧ H D = some o ∧ G D = none ∧ ∀ (i : Nat) l w c, env[i]? = some (.mo w c) → σ[i]? = some (some (.ref l)) → l ≠ D := by
  have up : ∀ a u, H0 a = some u → upd H0 D o a = some u := fun a u h => by
    have z : a ≠ D := fun z => by
      subst z
      rw [h0] at h
      cases h
    rw [upd_ne z]
    exact h
  have dn : ∀ a, upd H0 D o a = none → H0 a = none := fun a h => by
    cases z : H0 a with
    | none => rfl
    | some u =>
      rw [up a u z] at h
      cases h
  refine ⟨{ r.toRW with
    fr := fun a u h m => r.fr a u (up a u h) m
    pn := fun a u h h0 => dn a (r.pn a u h h0)
    len := r.len
    slot := fun i e s h1 h2 => ?_
    dis := r.dis }, r.fr D o upd_same hm, ?_, fun i l w c h1 h2 z => ?_⟩
  · have h := r.slot i e s h1 h2
    cases e with
    | mo w c =>
      obtain ⟨l, e1, n, o, q⟩ := h
      refine ⟨l, e1, n, ?_, q⟩
      cases w with
      | some j => exact o
      | none => exact ⟨dn l o.1, o.2⟩
    | un => trivial
    | d x => exact h
    | hd => exact h
    | «at» _ => trivial
  · cases z : G D with
    | none => rfl
    | some u =>
      have := r.pn D u z hg0
      rw [upd_same] at this
      cases this
  · obtain ⟨l2, e2, _, o2, _⟩ := r.get_mo h1
    rw [h2] at e2
    cases e2
    cases w with
    | none =>
      have h02 := o2.1
      rw [z, upd_same] at h02
      cases h02
    | some j =>
      subst z
      exact hm (.inr (List.mem_of_getElem? o2))
end
/-! ### targets -/
abbrev MG := D → DEnv → (DEnv → Prop) → Prop
def tG (K : PySem.W.Frag) (vs : List Nat) (m : MG) : TG := fun v σ H Q => ∃ (W : Wd) (B : Nat) (G0 H0 G : Hp) (env : DEnv) (x : D) (P : DEnv → Prop), Rel K W B G0 H0 G env σ H ∧ Dr K G v x ∧ m x env P ∧
  ∀ env' σ' G' H', P env' → Same G G' → Rel K W B G0 H0 G' env' σ' H' → wipe σ' vs = wipe σ vs → wipeE env' vs = wipeE env vs → Q σ' H'
abbrev GG (X : Cx) (e : Expr) (vs : List Nat) (m : MG) : Prop := PG X e (tG X.K vs m)
theorem pg_imp {X : Cx} {e : Expr} {t t' : TG} (h : PG X e t) (q : ∀ v σ H Q, t' v σ H Q → t v σ H Q) : PG X e t' :=
  ⟨fun pins s σ H v u Q I r z => h.run pins s σ H v u Q I r (q v σ H Q z)⟩
def gNm (i : Nat) : MG := fun x env P => P (env.set i (.d x))
abbrev MGs := List D → DEnv → (DEnv → Prop) → Prop
def gsNil : MGs := fun xs env P => xs = [] ∧ P env
def gsCons (i : Nat) (r : MGs) : MGs := fun xs env P => match xs with
  | x :: ys => r ys (env.set i (.d x)) P
  | [] => False
def gTp (n : Nat) (m : MGs) : MG := fun x env P => match x with
  | .tuple xs => xs.length = n ∧ m xs env P
  | _ => False
def tGs (K : PySem.W.Frag) (vs : List Nat) (m : MGs) : TGs := fun us σ H Q => ∃ (W : Wd) (B : Nat) (G0 H0 G : Hp) (env : DEnv) (xs : List D) (P : DEnv → Prop), Rel K W B G0 H0 G env σ H ∧ DrAll K G us xs ∧ m xs env P ∧
  ∀ env' σ' G' H', P env' → Same G G' → Rel K W B G0 H0 G' env' σ' H' → wipe σ' vs = wipe σ vs → wipeE env' vs = wipeE env vs → Q σ' H'
section
variable {X : Cx} {e : Expr} {es : List Expr} {pos : Pos} {vs : List Nat}
theorem gg_name {i : Nat} {x : Str} (hN : X.N.Nodup) (hi : X.N[i]? = some x) (hx : Loc X.env.scope x) (hv : i ∈ vs) (hf : X.fn x = true ∨ X.env.scope.names.lookup x = some .local := by first | exact .inl rfl | exact .inr rfl | assumption) : GG X (.Name x pos) vs (gNm i) :=
  pg_imp (pg_name hN hi hx hf) fun v σ H Q h => by
  obtain ⟨W, B, G0, H0, G, env, x, P, R, d, hm, q⟩ := h
  exact q _ _ _ _ hm (Same.refl _) (R.set_d d) (wipe_set hv) (wipeE_set hv)
theorem ggs_nil : PGs X [] (tGs X.K vs gsNil) := ⟨fun pins s σ H us ws Q I r h => by
  refine pgs_nil.run pins s σ H us ws Q I r ?_
  obtain ⟨W, B, G0, H0, G, env, xs, P, R, d, hm, q⟩ := h
  obtain ⟨e1, hm⟩ := hm
  subst e1
  cases d
  exact ⟨rfl, q _ _ _ _ hm (Same.refl _) R rfl rfl⟩⟩
theorem ggs_cons {i : Nat} {x : Str} {m : MGs} (hN : X.N.Nodup) (hi : X.N[i]? = some x) (hx : Loc X.env.scope x) (hv : i ∈ vs) (hr : PGs X es (tGs X.K vs m)) (hf : X.fn x = true ∨ X.env.scope.names.lookup x = some .local := by first | exact .inl rfl | exact .inr rfl | assumption)
    (hs : (assignEach (.Name x pos :: es) X.env).map (·.2) = assign (.Name x pos) X.env :: (assignEach es X.env).map (·.2) := by rfl) : PGs X (.Name x pos :: es) (tGs X.K vs (gsCons i m)) := ⟨fun pins s σ H us ws Q I r h => by
  refine (pgs_cons (pg_name hN hi hx hf) hr hs).run pins s σ H us ws Q I r ?_
  obtain ⟨W, B, G0, H0, G, env, xs, P, R, d, hm, q⟩ := h
  cases d with
  | nil => exact hm.elim
  | cons d1 d2 =>
    refine ⟨_, _, rfl, W, B, G0, H0, G, _, _, P, R.set_d d1, d2, hm, fun e2 σ2 G2 H2 p2 s2 R2 w2 w3 => ?_⟩
    exact q _ _ _ _ p2 s2 R2 (w2.trans (wipe_set hv)) (w3.trans (wipeE_set hv))⟩
def gsConsG (m : MG) (r : MGs) : MGs := fun xs env P => match xs with
  | x :: ys => m x env fun e1 => r ys e1 P
  | [] => False
theorem ggs_consG {m : MG} {m2 : MGs} (hm : GG X e vs m) (hr : PGs X es (tGs X.K vs m2))
    (hs : (assignEach (e :: es) X.env).map (·.2) = assign e X.env :: (assignEach es X.env).map (·.2) := by rfl) : PGs X (e :: es) (tGs X.K vs (gsConsG m m2)) := ⟨fun pins s σ H us ws Q I r h => by
  refine (pgs_cons hm hr hs).run pins s σ H us ws Q I r ?_
  obtain ⟨W, B, G0, H0, G, env, xs, P, R, d, hm, q⟩ := h
  cases d with
  | nil => exact hm.elim
  | cons d1 d2 =>
    refine ⟨_, _, rfl, W, B, G0, H0, G, _, _, _, R, d1, hm, fun e1 σ1 G1 H1 p1 s1 R1 w1 w2 => ⟨W, B, G0, H0, G1, _, _, P, R1, dpAll_same s1 d2, p1, fun e2 σ2 G2 H2 p2 s2 R2 w3 w4 => ?_⟩⟩
    exact q _ _ _ _ p2 (s1.trans s2) R2 (w3.trans w1) (w4.trans w2)⟩
theorem gg_tup {k : Nat} {m : MGs} {n : Nat} (hc : X.calm = true) (h : PGs X es (tGs X.K vs m))
    (hn : (assignEach es X.env).length = n := by rfl) (hst : (assignEach es X.env).findIdx? (·.1) = none := by rfl) : GG X (.Tuple es k pos) vs (gTp n m) :=
  pg_imp (pg_tup hc h hn hst) fun v σ H Q h => by
  obtain ⟨W, B, G0, H0, G, env, x, P, R, d, hm, q⟩ := h
  cases x with
  | tuple xs =>
    obtain ⟨a, us, rfl, h1, h2⟩ := dp_tup d
    exact ⟨a, us, rfl, pub_sqT R.pub h1, by rw [dpAll_len h2]; exact hm.1, W, B, G0, H0, G, env, xs, P, R, h2, hm.2, q⟩
  | _ => exact hm.elim
end
/-! ### what is walked -/
def ItD (K : PySem.W.Frag) (G : Hp) (J : It) (ds : List D) : Prop := ∀ G1 H1, Same G G1 → Pub G1 H1 → ∀ i : Nat,
  (∀ x, ds[i]? = some x → J.go i H1 ∧ ∀ v H2, J.yld i H1 v H2 → ∃ G2, Grow G1 H1 G2 H2 ∧ Dr K G2 v x) ∧ (ds.length ≤ i → J.stop i H1)
theorem ItD.later {K : PySem.W.Frag} {G G' : Hp} {J : It} {ds : List D} (h : ItD K G J ds) (s : Same G G') : ItD K G' J ds := fun G1 H1 a b => h G1 H1 (s.trans a) b
abbrev MI := DEnv → (List D → DEnv → Prop) → Prop
def tI (K : PySem.W.Frag) (n : Nat) (m : MI) : TI := fun σ H R => ∃ (W : Wd) (B : Nat) (G0 H0 G : Hp) (env : DEnv) (P : List D → DEnv → Prop), Rel K W (B + n) G0 H0 G env σ H ∧ m env P ∧
  ∀ ds env' J G' H', P ds env' → Same G G' → Rel K W B G0 H0 G' env' σ H' → ItD K G' J ds → R J H'
abbrev GI (X : Cx) (tg iter : Expr) (n : Nat) (m : MI) : Prop := PI X tg iter (tI X.K n m)
theorem pi_imp {X : Cx} {tg iter : Expr} {t t' : TI} (h : PI X tg iter t) (q : ∀ σ H R, t' σ H R → t σ H R) : PI X tg iter t' := ⟨fun pins s σ H R I z => h.run pins s σ H R I (q σ H R z)⟩
theorem itd_list {K : PySem.W.Frag} {G : Hp} {a : Addr} {us : List V} {ds : List D} (h1 : G a = some (.lst us)) (h2 : DrAll K G us ds) : ItD K G (Itl K a) ds := fun G1 H1 s1 s2 i => by
  have q : SqL K H1 a us := SqL.of ((s2.before s1).lst h1)
  refine ⟨fun x hx => ?_, fun hl => ?_⟩
  · obtain ⟨v, e, d⟩ := dpAll_get h2 hx
    refine ⟨⟨us, v, q, e⟩, fun w H2 y => ?_⟩
    obtain ⟨e2, y⟩ := y
    subst e2
    have := y us q
    rw [e] at this
    cases this
    exact ⟨G1, Grow.refl s2, dp_same s1 d⟩
  · exact ⟨us, q, by rw [dpAll_len h2]; exact hl⟩
theorem itd_tup {K : PySem.W.Frag} {G : Hp} {a : Addr} {us : List V} {ds : List D} (h1 : SqT K G a us) (h2 : DrAll K G us ds) : ItD K G (Itt K a) ds := fun G1 H1 s1 s2 i => by
  have q := pub_sqT (s2.before s1) h1
  refine ⟨fun x hx => ?_, fun hl => ?_⟩
  · obtain ⟨v, e, d⟩ := dpAll_get h2 hx
    refine ⟨⟨us, v, q, e⟩, fun w H2 y => ?_⟩
    obtain ⟨e2, y⟩ := y
    subst e2
    have := y us q
    rw [e] at this
    cases this
    exact ⟨G1, Grow.refl s2, dp_same s1 d⟩
  · exact ⟨us, q, by rw [dpAll_len h2]; exact hl⟩
def rangeD (lo : Int) (n : Nat) : List D := (List.range n).map fun (i : Nat) => .int (lo + (i : Int))
theorem itd_range {K : PySem.W.Frag} {G : Hp} {lo : Int} {n : Nat} : ItD K G (Itr lo n) (rangeD lo n) := fun G1 H1 s1 s2 i => by
  refine ⟨fun x hx => ?_, fun hl => ?_⟩
  · simp only [rangeD, List.getElem?_map, Option.map_eq_some_iff] at hx
    obtain ⟨j, hj, rfl⟩ := hx
    have hj2 := List.getElem?_eq_some_iff.mp hj
    obtain ⟨h1, h2⟩ := hj2
    rw [List.getElem_range] at h2
    subst h2
    rw [List.length_range] at h1
    refine ⟨h1, fun v H2 y => ?_⟩
    obtain ⟨e2, y⟩ := y
    subst e2 y
    exact ⟨G1, Grow.refl s2, .int _⟩
  · simp only [rangeD, List.length_map, List.length_range] at hl
    exact hl
/-- a list, a tuple -/
def miSeq (m : ME) : MI := fun env P => m env fun x e1 => match x with
  | .list xs => P xs e1
  | _ => False
def miTup (m : ME) : MI := fun env P => m env fun x e1 => match x with
  | .tuple xs => P xs e1
  | _ => False
def strD (z : Str) : List D := z.cps.toList.map fun c => .str ⟨#[c]⟩
def miStr (m : ME) : MI := fun env P => m env fun x e1 => match x with
  | .str z => P (strD z) e1
  | _ => False
def miRng1 (a : MA) : MI := fun env P => a env fun as e1 => match as with
  | [.d (.int j)] => -(2 ^ 62) ≤ j ∧ j < 2 ^ 62 ∧ P (rangeD 0 j.toNat) e1
  | _ => False
def miRng2 (a : MA) : MI := fun env P => a env fun as e1 => match as with
  | [.d (.int i), .d (.int j)] => (-(2 ^ 62) ≤ i ∧ i < 2 ^ 62 ∧ -(2 ^ 62) ≤ j ∧ j < 2 ^ 62) ∧ P (rangeD i (j - i).toNat) e1
  | _ => False
section
variable {X : Cx} {tg l a b : Expr} {p pos : Pos} {me : ME} {m1 : MA} {ne n1 : Nat}
theorem gi_list (hl : GE X l ne me) : GI X tg l ne (miSeq me) := pi_imp (pi_list hl) fun σ H R h => by
  obtain ⟨W, B, G0, H0, G, env, P, R, hm, q⟩ := h
  refine ⟨W, B, G0, H0, G, env, _, R, hm, fun x e1 v G1 H1 p1 s1 R1 d1 => ?_⟩
  cases x with
  | list xs =>
    obtain ⟨a, us, rfl, h1, h2⟩ := dp_lst d1
    exact ⟨a, rfl, ⟨us, SqL.of (R1.pub.lst h1)⟩, q _ _ _ _ _ p1 s1 R1 (itd_list h1 h2)⟩
  | _ => exact p1.elim
theorem gi_tup (hl : GE X l ne me) : GI X tg l ne (miTup me) := pi_imp (pi_tup hl) fun σ H R h => by
  obtain ⟨W, B, G0, H0, G, env, P, R, hm, q⟩ := h
  refine ⟨W, B, G0, H0, G, env, _, R, hm, fun x e1 v G1 H1 p1 s1 R1 d1 => ?_⟩
  cases x with
  | tuple xs =>
    obtain ⟨a, us, rfl, h1, h2⟩ := dp_tup d1
    exact ⟨a, rfl, ⟨us, pub_sqT R1.pub h1⟩, q _ _ _ _ _ p1 s1 R1 (itd_tup h1 h2)⟩
  | _ => exact p1.elim
theorem gi_str (hl : GE X l ne me) : GI X tg l ne (miStr me) := pi_imp (pi_str hl) fun σ H R h => by
  obtain ⟨W, B, G0, H0, G, env, P, R, hm, q⟩ := h
  refine ⟨W, B, G0, H0, G, env, _, R, hm, fun x e1 v G1 H1 p1 s1 R1 d1 => ?_⟩
  cases x with
  | str z =>
    cases dp_str d1
    refine ⟨z, rfl, q _ _ _ _ _ p1 s1 R1 fun G2 H2 t1 t2 i => ⟨fun x hx => ?_, fun hl => ?_⟩⟩
    · simp only [strD, List.getElem?_map, Option.map_eq_some_iff] at hx
      obtain ⟨c, hc, rfl⟩ := hx
      have hc' : z.cps[i]? = some c := by rw [← hc, Array.getElem?_toList]
      refine ⟨?_, fun v H3 y => ?_⟩
      · obtain ⟨h1, _⟩ := Array.getElem?_eq_some_iff.mp hc'
        exact h1
      · obtain ⟨e2, c', e3, y⟩ := y
        subst e2
        rw [hc'] at e3
        cases e3
        subst y
        exact ⟨G2, Grow.refl t2, .str _⟩
    · simp only [strD, List.length_map, Array.length_toList] at hl
      exact hl
  | _ => exact p1.elim
theorem gi_range1 (hg : Gl X "range") (hm : X.mg "range" = none) (ha : GA X [a] n1 m1) (hs : starEach [a] X.env = [(false, eval a X.env)] := by rfl) : GI X tg (.Call (.Name "range" p) [a] [] pos) n1 (miRng1 m1) := pi_imp (pi_range1 hg hm ha hs) fun σ H R h => by
  obtain ⟨W, B, G0, H0, G, env, P, R, hm, q⟩ := h
  refine ⟨W, B, G0, H0, G, env, _, R, hm, fun as e1 vs G1 H1 p1 s1 R1 a1 => ?_⟩
  split at p1
  · cases a1 with
    | cons x y =>
      cases y
      cases dp_int x
      exact ⟨_, rfl, p1.1, p1.2.1, q _ _ _ _ _ p1.2.2 s1 R1 itd_range⟩
  · exact p1.elim
theorem gi_range2 (hg : Gl X "range") (hm : X.mg "range" = none) (ha : GA X [a, b] n1 m1) (hs : starEach [a, b] X.env = [(false, eval a X.env), (false, eval b X.env)] := by rfl) (hs2 : starEach [b] X.env = [(false, eval b X.env)] := by rfl) : GI X tg (.Call (.Name "range" p) [a, b] [] pos) n1 (miRng2 m1) := pi_imp (pi_range2 hg hm ha hs hs2) fun σ H R h => by
  obtain ⟨W, B, G0, H0, G, env, P, R, hm, q⟩ := h
  refine ⟨W, B, G0, H0, G, env, _, R, hm, fun as e1 vs G1 H1 p1 s1 R1 a1 => ?_⟩
  split at p1
  · cases a1 with
    | cons x y =>
      cases y with
      | cons y z =>
        cases z
        cases dp_int x
        cases dp_int y
        exact ⟨_, _, rfl, p1.1, q _ _ _ _ _ p1.2 s1 R1 itd_range⟩
  · exact p1.elim
end
end DL
namespace DL
open PySem PySem.Spec PyProof.Rows L2
/-! ### for -/
def sForL (g : MG) (b : MS) : List D → DEnds → DEnv → Prop
  | [], E, env => E.nx env
  | x :: xs, E, env => g x env fun e1 => b { nx := sForL g b xs E, rt := E.rt, bk := E.nx, ct := sForL g b xs E } e1
/-- nb: what a turn may draw at most, c: all turns together -/
def sForC (nb c : Nat) (i : MI) (g : MG) (b : MS) : MS := fun E env => i env fun ds e1 => ds.length * nb ≤ c ∧ sForL g b ds E e1
def sFor (i : MI) (g : MG) (b : MS) : MS := fun E env => i env fun ds e1 => sForL g b ds E e1
theorem turn_cost {n i nb : Nat} (h : i < n) : (n - i) * nb = (n - (i + 1)) * nb + nb := by
  have e : n - i = (n - (i + 1)) + 1 := by omega
  rw [e, Nat.add_mul, Nat.one_mul]
section
variable {X : Cx} {tg iter : Expr} {body : List Stmt} {mi : MI} {mg : MG} {ms : MS} {pos : Pos} {vs : List Nat} {ni nb : Nat}
theorem gs_forC (c : Nat) (hp : PassesOwn (model X.prog X.w) X.A X.env X.xe) (hc : X.calm = true) (hi : GI X tg iter ni mi) (hg : GG X tg vs mg) (hb : GSs X body nb ms)
    (hs : ∀ x, foldedSetIterable iter X.env x = pure x := by intro _; rfl) : GS X (.For tg iter body [] pos) (ni + c) (sForC nb c mi mg ms) := ps_imp (ps_for hp hc hi hg hb hs) fun D σ H h => by
  obtain ⟨W, B, G0, H0, G, env, E, R, hm, q⟩ := h
  refine ⟨W, B + c, G0, H0, G, env, _, R.le (by omega), hm, fun ds e1 J G1 H1 p1 s1 R1 it => ?_⟩
  obtain ⟨cost, p1⟩ := p1
  refine ⟨fun i m σ' H' => m = ds.length - i ∧ i ≤ ds.length ∧ ∃ G' e', Same G1 G' ∧ Rel X.K W (B + (ds.length - i) * nb) G0 H0 G' e' σ' H' ∧ sForL mg ms (ds.drop i) E e', ⟨ds.length, rfl, Nat.zero_le _, G1, e1, Same.refl _, R1.le (by rw [Nat.sub_zero]; omega), p1⟩, ?_⟩
  rintro i m σ' H' ⟨rfl, hi, G', e', s', R', p'⟩
  by_cases hlt : i < ds.length
  · have hx : ds[i]? = some ds[i] := List.getElem?_eq_getElem hlt
    have hd : ds.drop i = ds[i] :: ds.drop (i + 1) := List.drop_eq_getElem_cons hlt
    obtain ⟨hgo, hy⟩ := (it G' H' s' R'.pub i).1 _ hx
    rw [hd] at p'
    rw [turn_cost hlt] at R'
    refine .inr ⟨hgo, fun σ2 H2 => ∃ G2 e2, Same G1 G2 ∧ Rel X.K W (B + (ds.length - (i + 1)) * nb) G0 H0 G2 e2 σ2 H2 ∧ sForL mg ms (ds.drop (i + 1)) E e2, fun σ2 H2 hN => ⟨ds.length - (i + 1), by omega, rfl, hlt, hN⟩, fun v H2 y => ?_⟩
    obtain ⟨G2, g2, d2⟩ := hy v H2 y
    refine ⟨W, _, G0, H0, G2, e', _, _, R'.grow g2, d2, p', fun e3 σ3 G3 H3 p3 s3 R3 _ _ => ?_⟩
    have g3 : Same G' G3 := g2.eg.trans s3
    have sG : Same G G3 := (s1.trans s').trans g3
    refine ⟨W, B + (ds.length - (i + 1)) * nb, G0, H0, G3, e3, _, R3.le (by omega), p3, ⟨fun e4 σ4 G4 H4 p4 s4 R4 => ⟨G4, e4, (s'.trans g3).trans s4, R4, p4⟩, fun x e4 σ4 v G4 H4 p4 s4 R4 => q.rt x e4 σ4 v G4 H4 p4 (sG.trans s4) (R4.le (by omega)), fun e4 σ4 G4 H4 p4 s4 R4 => q.nx e4 σ4 G4 H4 p4 (sG.trans s4) (R4.le (by omega)), fun e4 σ4 G4 H4 p4 s4 R4 => ⟨G4, e4, (s'.trans g3).trans s4, R4, p4⟩⟩⟩
  · have e : i = ds.length := by omega
    subst e
    rw [List.drop_length] at p'
    exact .inl ⟨(it G' H' s' R'.pub _).2 (Nat.le_refl _), q.nx e' σ' G' H' p' (s1.trans s') (R'.le (by omega))⟩
theorem ts_imp {K : PySem.W.Frag} {n n' : Nat} {m m' : MS} (hn : n ≤ n') (h : ∀ E env, m' E env → m E env) : ∀ D σ H, tS K n' m' D σ H → tS K n m D σ H := fun D σ H ⟨W, B, G0, H0, G, env, E, R, hm, q⟩ => ⟨W, B, G0, H0, G, env, E, R.le (by omega), h _ _ hm, q⟩
end
/-! ### a list comprehension -/
def mLcL (g : MG) (tt : MT) (te : ME) (vs : List Nat) : List D → List D → DEnv → (List D → Prop) → Prop
  | [], acc, _, P => P acc
  | x :: xs, acc, env, P => g x (wipeE env vs) fun e1 => tt e1 fun b e2 => e2 = e1 ∧ match b with
    | true => te e2 fun y e3 => e3 = e2 ∧ acc.length < sizeLine ∧ mLcL g tt te vs xs (acc ++ [y]) env P
    | false => mLcL g tt te vs xs acc env P
def mYes : MT := fun env P => P true env
def mLcC (nb c : Nat) (i : MI) (g : MG) (tt : MT) (te : ME) (vs : List Nat) : MF := fun env P => i env fun ds e1 => ds.length * nb ≤ c ∧ noOwn e1 vs ∧ mLcL g tt te vs ds [] e1 fun ys => P ys e1
/-- own slots published ahead of it -/
def mPub (is : List Nat) (m : MF) : MF := fun env P => match is with
  | [] => m env P
  | i :: r => match env[i]? with
    | some (.mo none (.lst xs)) => mPub r m (env.set i (.d (.list xs))) P
    | _ => mPub r m env P
abbrev GTs (X : Cx) (es : List Expr) (n : Nat) (m : MT) : Prop := PTs X es (tDT X.K n m)
theorem pts_imp {X : Cx} {es : List Expr} {t t' : TT} (h : PTs X es t) (q : ∀ σ H Q, t' σ H Q → t σ H Q) : PTs X es t' := ⟨fun pins s σ H Q I z => h.run pins s σ H Q I (q σ H Q z)⟩
theorem gts_nil {X : Cx} : GTs X [] 0 mYes := pts_imp pts_nil fun σ H Q h => by
  obtain ⟨W, B, G0, H0, G, env, P, R, hm, q⟩ := h
  exact q _ _ _ _ hm (Same.refl _) R
theorem gts_one {X : Cx} {c : Expr} {m : MT} {n : Nat} (h : GT X c n m) : GTs X [c] n m := pts_one h
theorem lc_ok {K : PySem.W.Frag} {mi : MI} {mg : MG} {mt : MT} {me : ME} {vs : List Nat} {ni nt ne c : Nat} {σ : L2.St} {H : Hp} {Q : VK} (h : tF K (ni + c) (mLcC (nt + ne) c mi mg mt me vs) σ H Q) : tLc (tI K ni mi) (tG K vs mg) (tDT K nt mt) (tD K ne me) vs σ H Q := by
  obtain ⟨W, B, G0, H0, G, env, P, R, hm, q⟩ := h
  refine ⟨W, B + c, G0, H0, G, env, _, R.le (by omega), hm, fun ds e1 J G1 H1 p1 s1 R1 it A hA => ?_⟩
  obtain ⟨cost, no, p1⟩ := p1
  obtain ⟨R2, f1, f2, f3, f4⟩ := R1.fresh (o := .lst []) hA
  refine ⟨fun i m H' => m = ds.length - i ∧ i ≤ ds.length ∧ ∃ G' av acc, Same G1 G' ∧ Rel K W (B + (ds.length - i) * (nt + ne)) G0 H0 G' e1 σ H' ∧ H' A = some (.lst av) ∧ G' A = none ∧ (∀ (i : Nat) l w c, e1[i]? = some (.mo w c) → σ[i]? = some (some (.ref l)) → l ≠ A) ∧ DrAll K G' av acc ∧ mLcL mg mt me vs (ds.drop i) acc e1 (fun ys => P ys e1),
    ⟨ds.length, rfl, Nat.zero_le _, G1, [], [], Same.refl _, R2.le (by rw [Nat.sub_zero]; omega), upd_same, f1, f4, .nil, p1⟩, ?_⟩
  rintro i m H' ⟨rfl, hi, G', av, acc, s', R', hA', gA', oA', dA', p'⟩
  by_cases hlt : i < ds.length
  · have hx : ds[i]? = some ds[i] := List.getElem?_eq_getElem hlt
    have hd : ds.drop i = ds[i] :: ds.drop (i + 1) := List.drop_eq_getElem_cons hlt
    obtain ⟨hgo, hy⟩ := (it G' H' s' R'.pub i).1 _ hx
    rw [hd] at p'
    rw [turn_cost hlt] at R'
    refine .inr ⟨hgo, fun H2 => ∃ G' av acc, Same G1 G' ∧ Rel K W (B + (ds.length - (i + 1)) * (nt + ne)) G0 H0 G' e1 σ H2 ∧ H2 A = some (.lst av) ∧ G' A = none ∧ (∀ (i : Nat) l w c, e1[i]? = some (.mo w c) → σ[i]? = some (some (.ref l)) → l ≠ A) ∧ DrAll K G' av acc ∧ mLcL mg mt me vs (ds.drop (i + 1)) acc e1 (fun ys => P ys e1), fun H2 hN => ⟨ds.length - (i + 1), by omega, rfl, hlt, hN⟩, fun v H2 y => ?_⟩
    obtain ⟨G2, g2, d2⟩ := hy v H2 y
    have R3 := R'.grow g2
    have hA2 : H2 A = some (.lst av) := g2.eh _ _ hA'
    have gA2 : G2 A = none := by
      cases z : G2 A with
      | none => rfl
      | some o =>
        have := g2.new A o z gA'
        rw [hA'] at this
        cases this
    have hg0 : G0 A = none := R3.g0.free gA2
    have R4 := (R3.guard hA2 gA2 oA').wipe vs
    refine ⟨W, _, G0, upd H0 A (.lst av), G2, _, _, _, R4, d2, p', fun e3 σ3 G3 H3 p3 s3 R5 w1 w2 => ⟨?_, ?_⟩⟩
    · have idem : ∀ (τ : L2.St), wipe (wipe τ vs) vs = wipe τ vs := fun τ => by
        apply List.ext_getElem?
        intro n
        by_cases hn : n ∈ vs
        · have l1 : (wipe (wipe τ vs) vs)[n]? = (wipe τ vs)[n]? := by
            cases z1 : (wipe (wipe τ vs) vs)[n]? with
            | none =>
              cases z2 : (wipe τ vs)[n]? with
              | none => rfl
              | some y =>
                have b1 := (List.getElem?_eq_some_iff.mp z2).1
                rw [List.getElem?_eq_none_iff, wipe_length] at z1
                omega
            | some y =>
              cases y with
              | some u => exact absurd hn (wipe_some z1).2
              | none =>
                cases z2 : (wipe τ vs)[n]? with
                | none =>
                  have b1 := (List.getElem?_eq_some_iff.mp z1).1
                  rw [List.getElem?_eq_none_iff] at z2
                  rw [wipe_length] at b1
                  omega
                | some y2 =>
                  cases y2 with
                  | none => rfl
                  | some u => exact absurd hn (wipe_some z2).2
          exact l1
        · rw [wipe_out' hn]
      rw [w1, idem]
    · have g3 : Same G' G3 := g2.eg.trans s3
      refine ⟨W, B + (ds.length - (i + 1)) * (nt + ne) + ne, G0, upd H0 A (.lst av), G3, e3, _, R5.le (by omega), p3, fun b e4 G4 H4 p4 s4 R6 => ?_⟩
      obtain ⟨rfl, p4⟩ := p4
      have sT : Same G1 G4 := (s'.trans g3).trans s4
      have idemE : ∀ (τ : DEnv), wipeE (wipeE τ vs) vs = wipeE τ vs := fun τ => by
        apply List.ext_getElem?
        intro n
        by_cases hn : n ∈ vs
        · cases z1 : (wipeE (wipeE τ vs) vs)[n]? with
          | none =>
            rw [List.getElem?_eq_none_iff, wipeE_length] at z1
            exact (List.getElem?_eq_none_iff.mpr z1).symm
          | some y =>
            have b1 := (List.getElem?_eq_some_iff.mp z1).1
            rw [wipeE_length] at b1
            rw [List.getElem?_eq_getElem b1, wipeE_in hn z1, wipeE_in hn (List.getElem?_eq_getElem b1)]
        · rw [wipeE_out hn]
      have back : ∀ (B5 : Nat) (G5 H5 : Hp), Same G3 G5 → Rel K W B5 G0 (upd H0 A (.lst av)) G5 e4 σ3 H5 → Rel K W B5 G0 H0 G5 e1 σ H5 ∧ H5 A = some (.lst av) ∧ G5 A = none ∧ (∀ (i : Nat) l w c, e1[i]? = some (.mo w c) → σ[i]? = some (some (.ref l)) → l ≠ A) := fun B5 G5 H5 s5 R7 => by
        have R8 := R7.wipe vs
        have idem' : wipe (wipe σ vs) vs = wipe σ vs := by
          have := w1
          apply List.ext_getElem?
          intro n
          by_cases hn : n ∈ vs
          · cases z1 : (wipe (wipe σ vs) vs)[n]? with
            | none =>
              rw [List.getElem?_eq_none_iff, wipe_length] at z1
              exact (List.getElem?_eq_none_iff.mpr z1).symm
            | some y =>
              have b1 := (List.getElem?_eq_some_iff.mp z1).1
              rw [wipe_length] at b1
              rw [List.getElem?_eq_getElem b1]
              cases y with
              | some u => exact absurd hn (wipe_some z1).2
              | none =>
                cases z2 : (wipe σ vs)[n] with
                | none => rfl
                | some u => exact absurd hn (wipe_some ((List.getElem?_eq_getElem b1).trans (congrArg some z2))).2
          · rw [wipe_out' hn]
        rw [w1, idem', w2, idemE] at R8
        obtain ⟨R9, u1, u2, u3⟩ := R8.unguard f3 hg0 f2
        exact ⟨R3.unwipe no (s3.trans s5) R9, u1, u2, oA'⟩
      cases b with
      | true =>
        refine iteT ⟨W, B + (ds.length - (i + 1)) * (nt + ne), G0, upd H0 A (.lst av), G4, e4, _, R6, p4, fun y e5 u G5 H5 p5 s5 R7 d5 => ?_⟩
        obtain ⟨rfl, hl, p5⟩ := p5
        obtain ⟨Rb, b1, b2, b3⟩ := back _ G5 H5 (s4.trans s5) R7
        refine ⟨av, b1, by rw [dpAll_len dA']; exact hl, G5, av ++ [u], acc ++ [y], sT.trans s5, ?_, upd_same, b2, b3, dpAll_app (dpAll_same ((g3.trans s4).trans s5) dA') (dpAll_one d5), p5⟩
        refine { g0 := Rb.g0, pub := fun a o e => ?_, gm := Rb.gm, inv := W.loc _ H5 _ (fun a m => ?_) Rb.inv, fr := fun a o e m => ?_, pn := Rb.pn, len := Rb.len, slot := fun j e s h1 h2 => ?_, dis := Rb.dis }
        · have ne : a ≠ A := fun z => by
            subst z
            rw [b2] at e
            cases e
          rw [upd_ne ne]
          exact Rb.pub a o e
        · rw [upd_ne fun z => by subst z; exact f3 m]
        · have ne : a ≠ A := fun z => by
            subst z
            rw [f2] at e
            cases e
          rw [upd_ne ne]
          exact Rb.fr a o e m
        · have q := Rb.slot j e s h1 h2
          cases e with
          | mo w2 c2 =>
            obtain ⟨l2, ee, n2, o2, q1⟩ := q
            refine ⟨l2, ee, n2, o2, scok_later (Same.refl _) (fun u hu => ?_) q1⟩
            subst ee
            rw [upd_ne (b3 j l2 w2 c2 h1 h2)]
            exact hu
          | un => trivial
          | d x => exact q
          | hd => exact q
          | «at» _ => trivial
      | false =>
        obtain ⟨Rb, b1, b2, b3⟩ := back _ G4 H4 s4 (R6.le (Nat.le_add_right _ _))
        exact iteF ⟨G4, av, acc, sT, Rb, b1, b2, b3, dpAll_same (g3.trans s4) dA', p4⟩
  · have e : i = ds.length := by omega
    subst e
    rw [List.drop_length] at p'
    exact .inl ⟨(it G' H' s' R'.pub _).2 (Nat.le_refl _), q _ e1 A G' H' p' (s1.trans s') (R'.le (by omega)) ⟨av, hA', gA', f2, f3, oA', dA'⟩⟩
section
variable {X : Cx} {elt tg iter : Expr} {ifs : List Expr} {scope : Scope} {own : List (Str × Nat)} {pos spos py : Pos} {mi : MI} {mg : MG} {mt : MT} {me : ME} {ni nt ne : Nat}
theorem gf_lc (c : Nat) (hc : X.calm = true) (hN : X.N.Nodup) (hi : GI X tg iter ni mi) (ok : BlkOk X.N X.env.scope scope own)
    (hg : ∀ (s : Shared) (H : Hp) (C : Addr) (cl : List (Str × Addr)) (fp : List Addr), GG (X.blk s H scope (compEnvC scope cl C X.env) fp) tg (own.map (·.2)) mg) (ht : ∀ (s : Shared) (H : Hp) (C : Addr) (cl : List (Str × Addr)) (fp : List Addr), GTs (X.blk s H scope (compEnvC scope cl C X.env) fp) ifs nt mt)
    (he : ∀ (s : Shared) (H : Hp) (C : Addr) (cl : List (Str × Addr)) (fp : List Addr), GE (X.blk s H scope (compEnvC scope cl C X.env) fp) elt ne me) (hs : ∀ x, foldedSetIterable iter X.env x = pure x := by intro _; rfl) :
    GF X (.ListComp elt [⟨tg, iter, ifs, 0⟩] scope pos) (ni + c) (mLcC (nt + ne) c mi mg mt me (own.map (·.2))) := pe_imp (pe_lc hc hN hi ok hg ht he hs) fun σ H Q h => lc_ok h
theorem gs_setLc (c : Nat) {i : Nat} {y : Str} (hc : X.calm = true) (hN : X.N.Nodup) (hy : X.N[i]? = some y) (hyl : X.env.scope.names.lookup y = some .local)
    (hsw : swapsWith (.ListComp elt [⟨tg, iter, ifs, 0⟩] scope pos) (some (.Name y py)) spos.line X.env = pure true) (hi : GI X tg iter ni mi) (ok : BlkOk X.N X.env.scope scope own)
    (hg : ∀ (s : Shared) (H : Hp) (C : Addr) (cl : List (Str × Addr)) (fp : List Addr), GG (X.blk s H scope (compEnvC scope cl C X.env) fp) tg (own.map (·.2)) mg) (ht : ∀ (s : Shared) (H : Hp) (C : Addr) (cl : List (Str × Addr)) (fp : List Addr), GTs (X.blk s H scope (compEnvC scope cl C X.env) fp) ifs nt mt)
    (he : ∀ (s : Shared) (H : Hp) (C : Addr) (cl : List (Str × Addr)) (fp : List Addr), GE (X.blk s H scope (compEnvC scope cl C X.env) fp) elt ne me) (hs : ∀ x, foldedSetIterable iter X.env x = pure x := by intro _; rfl) :
    GS X (.Assign [.Name y py] (.ListComp elt [⟨tg, iter, ifs, 0⟩] scope pos) spos) (ni + c) (sSetF i (mLcC (nt + ne) c mi mg mt me (own.map (·.2)))) := ps_imp (ps_setLc hc hN hy hyl hsw hi ok hg ht he hs) fun D σ H h => by
  obtain ⟨W, B, G0, H0, G, env, E, R, hm, q⟩ := h
  refine lc_ok ⟨W, B, G0, H0, G, env, _, R, hm, fun xs e1 p G1 H1 p1 s1 R1 d1 => ?_⟩
  exact q.nx _ _ _ _ p1 s1 (R1.set_own d1)
end
end DL
namespace DL
open PySem PySem.Spec PyProof.Rows L2
/-! ### a def by data -/
theorem args_len {K : PySem.W.Frag} {W : Wk} {G : Hp} : ∀ {vs : List V} {as : List EV}, ArgsOk K W G vs as → vs.length = as.length
  | _, _, .nil => rfl
  | _, _, .cons _ t => congrArg (· + 1) (args_len t)
theorem args_get {K : PySem.W.Frag} {W : Wk} {G : Hp} : ∀ {vs : List V} {as : List EV} {i : Nat} {a : EV}, ArgsOk K W G vs as → as[i]? = some a → ∃ v, vs[i]? = some v ∧ ArgOk K W G a v
  | _, _, 0, _, .cons a _, h => by
    cases h
    exact ⟨_, rfl, a⟩
  | _, _, i + 1, _, .cons _ t, h => by
    obtain ⟨v, e, q⟩ := args_get (i := i) t h
    exact ⟨v, e, q⟩
def env0 (N : List Str) (as : List EV) : DEnv := as ++ List.replicate (N.length - as.length) .un
theorem rel_start {K : PySem.W.Frag} {W : Wd} {B : Nat} {G H : Hp} {vs : List V} {as : List EV} (N : List Str) (r : RW W B G H G H) (a : ArgsOk K W.dk G vs as) : Rel K W B G H G (env0 N as) (L2.start N vs) H := by
  have hl := args_len a
  have key : ∀ (i : Nat) e s, (env0 N as)[i]? = some e → (L2.start N vs)[i]? = some s → e = .un ∨ ∃ v, s = some v ∧ ArgOk K W.dk G e v := fun i e s h1 h2 => by
    unfold env0 at h1
    unfold L2.start at h2
    by_cases hi : i < as.length
    · rw [List.getElem?_append_left hi] at h1
      rw [List.getElem?_append_left (by rw [List.length_map]; omega), List.getElem?_map] at h2
      obtain ⟨v, e1, q⟩ := args_get a h1
      rw [e1] at h2
      cases h2
      exact .inr ⟨v, rfl, q⟩
    · rw [List.getElem?_append_right (by omega)] at h1
      obtain ⟨h3, h4⟩ := List.getElem?_eq_some_iff.mp h1
      rw [List.getElem_replicate] at h4
      exact .inl h4.symm
  refine { r with len := ?_, slot := fun i e s h1 h2 => ?_, dis := fun i j wi ci wj cj l ne h1 h2 h3 => ?_ }
  · unfold env0 L2.start
    rw [List.length_append, List.length_append, List.length_map, List.length_replicate, List.length_replicate, hl]
  · rcases key i e s h1 h2 with rfl | ⟨v, rfl, q⟩
    · trivial
    · cases e with
      | un => trivial
      | d x => exact ⟨v, rfl, q⟩
      | mo w c => exact q.elim
      | «at» _ => trivial
      | hd => exact ⟨congrArg some q.1, q.2⟩
  · rcases key i _ _ h1 h3 with e | ⟨v, _, q⟩
    · cases e
    · exact q.elim
/-! ### operators on data -/
def dAdd : D → D → (D → Prop) → Prop
  | .int i, .int j, P => P (.int (i + j))
  | .str a, .str b, P => a.length + b.length ≤ sizeLine ∧ P (.str (a ++ b))
  | .list a, .list b, P => a.length + b.length ≤ sizeLine ∧ P (.list (a ++ b))
  | .tuple a, .tuple b, P => a.length + b.length ≤ sizeLine ∧ P (.tuple (a ++ b))
  | _, _, _ => False
def dSub : D → D → (D → Prop) → Prop
  | .int i, .int j, P => P (.int (i - j))
  | _, _, _ => False
/-- a text, a list times a number -/
def dMul : D → D → (D → Prop) → Prop
  | .int i, .int j, P => CMul i j ∧ P (.int (i * j))
  | .str z, .int k, P => MulOk z k ∧ P (.str (Txt.mul z k))
  | .list xs, .int k, P => (-(2 ^ 63) ≤ k ∧ k < 2 ^ 63 ∧ xs.length * k.toNat ≤ sizeLine) ∧ P (.list (List.replicate k.toNat xs).flatten)
  | _, _, _ => False
def dFdiv : D → D → (D → Prop) → Prop
  | .int i, .int j, P => CDiv i j ∧ P (.int (i / j))
  | _, _, _ => False
def dMod : D → D → (D → Prop) → Prop
  | .int i, .int j, P => 0 < j ∧ P (.int (i % j))
  | _, _, _ => False
def dPow : D → D → (D → Prop) → Prop
  | .int i, .int j, P => CPow i j ∧ P (.int (i ^ j.toNat))
  | _, _, _ => False
/-- an item -/
def dIx : D → D → (D → Prop) → Prop
  | .list xs, .int i, P => ∃ x, atI xs i = some x ∧ P x
  | .tuple xs, .int i, P => ∃ x, atI xs i = some x ∧ P x
  | .str z, .int i, P => z.length ≤ sizeLine ∧ ∃ c, atI z.cps.toList i = some c ∧ P (.str ⟨#[c]⟩)
  | _, _, _ => False
theorem dpAll_atI {K : PySem.W.Frag} {G : Hp} {vs : List V} {xs : List D} {i : Int} {x : D} (h : DrAll K G vs xs) (e : atI xs i = some x) : ∃ v, atI vs i = some v ∧ Dr K G v x := by
  unfold atI at e ⊢
  rw [dpAll_len h]
  cases z : ixN xs.length i with
  | none => rw [z] at e; cases e
  | some j =>
    rw [z] at e
    exact dpAll_get (i := j) h e
theorem dpAll_flat {K : PySem.W.Frag} {G : Hp} {vs : List V} {xs : List D} (h : DrAll K G vs xs) : ∀ n : Nat, DrAll K G (List.replicate n vs).flatten (List.replicate n xs).flatten
  | 0 => .nil
  | n + 1 => by
    rw [List.replicate_succ, List.replicate_succ, List.flatten_cons, List.flatten_cons]
    exact dpAll_app h (dpAll_flat h n)
section
variable {X : Cx}
theorem od_add : OpR X (binaryOp .Add) (rD2 X.K dAdd) := by
  intro pins s σ H x y v u Q I rx ry h
  obtain ⟨G, dx, dy, P, sG, d1, d2, hf, q⟩ := h
  unfold dAdd at hf
  split at hf
  · cases dp_int d1
    cases dp_int d2
    exact op_add pins s σ H _ _ v u Q I rx ry ⟨_, _, rfl, rfl, q _ _ G H hf (Grow.refl sG) (.int _)⟩
  · cases dp_str d1
    cases dp_str d2
    exact op_add_str pins s σ H _ _ v u Q I rx ry ⟨_, _, rfl, rfl, hf.1, q _ _ G H hf.2 (Grow.refl sG) (.str _)⟩
  · obtain ⟨a, us, rfl, h1, h2⟩ := dp_lst d1
    obtain ⟨b, ws, rfl, h3, h4⟩ := dp_lst d2
    refine op_cat pins s σ H _ _ v u Q I rx ry ⟨a, b, us, ws, rfl, rfl, sG.lst h1, sG.lst h3, by rw [dpAll_len h2, dpAll_len h4]; exact hf.1, fun p hp => ?_⟩
    exact q _ _ _ _ hf.2 (Grow.new1 sG hp) (.lst upd_same (dpAll_same (same_upd (sG.free hp)) (dpAll_app h2 h4)))
  · obtain ⟨a, us, rfl, h1, h2⟩ := dp_tup d1
    obtain ⟨b, ws, rfl, h3, h4⟩ := dp_tup d2
    refine op_catA pins s σ H _ _ v u Q I rx ry ⟨a, b, us, ws, rfl, rfl, pub_sqT sG h1, pub_sqT sG h3, by rw [dpAll_len h2, dpAll_len h4]; exact hf.1, fun e => ?_, fun e e2 => ?_, fun _ _ p hp => ?_⟩
    · subst e
      cases h2
      exact q _ _ G H hf.2 (Grow.refl sG) d2
    · subst e2
      cases h4
      refine q _ _ G H hf.2 (Grow.refl sG) ?_
      rw [List.append_nil]
      exact d1
    · exact q _ _ _ _ hf.2 (Grow.new1 sG hp) (.tup (SqT.of upd_same) (dpAll_same (same_upd (sG.free hp)) (dpAll_app h2 h4)))
  · exact hf.elim
theorem od_sub : OpR X (binaryOp .Sub) (rD2 X.K dSub) := by
  intro pins s σ H x y v u Q I rx ry h
  obtain ⟨G, dx, dy, P, sG, d1, d2, hf, q⟩ := h
  unfold dSub at hf
  split at hf
  · cases dp_int d1
    cases dp_int d2
    exact op_sub pins s σ H _ _ v u Q I rx ry ⟨_, _, rfl, rfl, q _ _ G H hf (Grow.refl sG) (.int _)⟩
  · exact hf.elim
theorem op_mul_str : OpR X (binaryOp .Mult) (fun x y H Q => ∃ z k, x = .str z ∧ y = .int k ∧ MulOk z k ∧ Q (.str (Txt.mul z k)) H) := by
  intro pins s σ H x y v u Q I rx ry h
  obtain ⟨z, k, rfl, rfl, ok, q⟩ := h
  obtain ⟨t, rfl⟩ := rx
  obtain ⟨t2, rfl⟩ := ry
  exact SB.mul ok fun t' tk => ⟨.str _, H, I.tok tk, ⟨_, rfl⟩, q⟩
theorem od_mul : OpR X (binaryOp .Mult) (rD2 X.K dMul) := by
  intro pins s σ H x y v u Q I rx ry h
  obtain ⟨G, dx, dy, P, sG, d1, d2, hf, q⟩ := h
  unfold dMul at hf
  split at hf
  · cases dp_int d1
    cases dp_int d2
    exact op_mul pins s σ H _ _ v u Q I rx ry ⟨_, _, rfl, rfl, hf.1, q _ _ G H hf.2 (Grow.refl sG) (.int _)⟩
  · cases dp_str d1
    cases dp_int d2
    exact op_mul_str pins s σ H _ _ v u Q I rx ry ⟨_, _, rfl, rfl, hf.1, q _ _ G H hf.2 (Grow.refl sG) (.str _)⟩
  · obtain ⟨a, us, rfl, h1, h2⟩ := dp_lst d1
    cases dp_int d2
    refine op_rep pins s σ H _ _ v u Q I rx ry ⟨a, _, us, rfl, rfl, sG.lst h1, hf.1.1, hf.1.2.1, by rw [dpAll_len h2]; exact hf.1.2.2, fun p hp => ?_⟩
    exact q _ _ _ _ hf.2 (Grow.new1 sG hp) (.lst upd_same (dpAll_same (same_upd (sG.free hp)) (dpAll_flat h2 _)))
  · exact hf.elim
theorem od_fdiv : OpR X (binaryOp .FloorDiv) (rD2 X.K dFdiv) := by
  intro pins s σ H x y v u Q I rx ry h
  obtain ⟨G, dx, dy, P, sG, d1, d2, hf, q⟩ := h
  unfold dFdiv at hf
  split at hf
  · cases dp_int d1
    cases dp_int d2
    exact op_fdiv pins s σ H _ _ v u Q I rx ry ⟨_, _, rfl, rfl, hf.1, q _ _ G H hf.2 (Grow.refl sG) (.int _)⟩
  · exact hf.elim
theorem od_mod : OpR X (binaryOp .Mod) (rD2 X.K dMod) := by
  intro pins s σ H x y v u Q I rx ry h
  obtain ⟨G, dx, dy, P, sG, d1, d2, hf, q⟩ := h
  unfold dMod at hf
  split at hf
  · cases dp_int d1
    cases dp_int d2
    exact op_mod pins s σ H _ _ v u Q I rx ry ⟨_, _, rfl, rfl, hf.1, q _ _ G H hf.2 (Grow.refl sG) (.int _)⟩
  · exact hf.elim
theorem od_pow : OpR X (binaryOp .Pow) (rD2 X.K dPow) := by
  intro pins s σ H x y v u Q I rx ry h
  obtain ⟨G, dx, dy, P, sG, d1, d2, hf, q⟩ := h
  unfold dPow at hf
  split at hf
  · cases dp_int d1
    cases dp_int d2
    exact op_pow pins s σ H _ _ v u Q I rx ry ⟨_, _, rfl, rfl, hf.1, q _ _ G H hf.2 (Grow.refl sG) (.int _)⟩
  · exact hf.elim
theorem od_ix : IxR X (rD2 X.K dIx) := by
  intro value slice pins s σ H x y v u Q I rx ry h hs
  obtain ⟨G, dx, dy, P, sG, d1, d2, hf, q⟩ := h
  unfold dIx at hf
  split at hf
  · obtain ⟨a, us, rfl, h1, h2⟩ := dp_lst d1
    cases dp_int d2
    obtain ⟨z, e, hP⟩ := hf
    obtain ⟨w, e2, d3⟩ := dpAll_atI h2 e
    exact ix_list value slice pins s σ H _ _ v u Q I rx ry ⟨a, us, _, w, rfl, rfl, SqL.of (sG.lst h1), e2, q _ _ G H hP (Grow.refl sG) d3⟩ hs
  · obtain ⟨a, us, rfl, h1, h2⟩ := dp_tup d1
    cases dp_int d2
    obtain ⟨z, e, hP⟩ := hf
    obtain ⟨w, e2, d3⟩ := dpAll_atI h2 e
    exact ix_tup value slice pins s σ H _ _ v u Q I rx ry ⟨a, us, _, w, rfl, rfl, pub_sqT sG h1, e2, q _ _ G H hP (Grow.refl sG) d3⟩ hs
  · cases dp_str d1
    cases dp_int d2
    obtain ⟨hz, c, e, hP⟩ := hf
    exact ix_str value slice pins s σ H _ _ v u Q I rx ry ⟨_, _, c, rfl, rfl, hz, e, q _ _ G H hP (Grow.refl sG) (.str _)⟩ hs
  · exact hf.elim
def dNeg : D → (D → Prop) → Prop
  | .int i, P => P (.int (-i))
  | _, _ => False
theorem ud_neg : UnR X (unaryOp .USub) (rD1 X.K dNeg) := by
  intro pins s σ H x v Q I rx h
  obtain ⟨G, dx, P, sG, d1, hf, q⟩ := h
  unfold dNeg at hf
  split at hf
  · cases dp_int d1
    exact un_neg pins s σ H _ v Q I rx ⟨_, rfl, q _ _ G H hf (Grow.refl sG) (.int _)⟩
  · exact hf.elim
/-! ### comparisons of data -/
def okEq (x : D) : Bool := SeqAt.shaped x && noDict x
def cEq : D → D → (Bool → Prop) → Prop
  | .int i, .int j, P => P (decide (i = j))
  | .str i, .str j, P => P (decide (i = j))
  | .bool i, .bool j, P => P (decide (i = j))
  | .none, .none, P => P true
  | .list xs, .list [], P => P xs.isEmpty
  | x, y, P => okEq x = true ∧ okEq y = true ∧ P (PyData.eqv x y)
def cNe : D → D → (Bool → Prop) → Prop := fun x y P => cEq x y fun b => P (!b)
def cI (f : Int → Int → Bool) : D → D → (Bool → Prop) → Prop
  | .int i, .int j, P => P (f i j)
  | _, _, _ => False
theorem dec_V_int {i j : Int} : decide (V.int i = V.int j) = decide (i = j) := decide_eq_decide.mpr ⟨fun h => V.int.inj h, fun h => congrArg _ h⟩
theorem dec_V_str {i j : Str} : decide (V.str i = V.str j) = decide (i = j) := decide_eq_decide.mpr ⟨fun h => V.str.inj h, fun h => congrArg _ h⟩
theorem dec_V_bl {i j : Bool} : decide (V.bl i = V.bl j) = decide (i = j) := decide_eq_decide.mpr ⟨fun h => V.bl.inj h, fun h => congrArg _ h⟩
theorem list_at {pins : List (Addr × Obj)} {σ : L2.St} {H : Hp} {s : Shared} {a : Addr} {us : List V} (I : L2.Inv X pins σ H s) (h : H a = some (.lst us)) : ∃ its : Array Value, s.heap.IsList a its ∧ its.size = us.length := by
  obtain ⟨its, r, pl, _⟩ := I.list (SqL.of (K := X.K) h)
  exact ⟨its.toArray, pl.isList, by rw [List.size_toArray]; exact r.length.symm⟩
theorem all_empty {K : PySem.W.Frag} {G : Hp} {vs : List V} {xs : List D} (h : DrAll K G vs xs) : vs.isEmpty = xs.isEmpty := by
  cases h <;> rfl
theorem eq_nil_list {pins : List (Addr × Obj)} {σ : L2.St} {H : Hp} {s : Shared} {a b : Addr} {us : List V} (hu : X.A.units < cLine) (I : L2.Inv X pins σ H s) (h1 : H a = some (.lst us)) (h2 : H b = some (.lst [])) :
    SeqAt.RcAt X.A s (.ref a) (.ref b) us.isEmpty ∧ SeqAt.RcNeAt X.A s (.ref a) (.ref b) (!us.isEmpty) := by
  obtain ⟨its, l1, z1⟩ := list_at I h1
  obtain ⟨it2, l2, z2⟩ := list_at I h2
  cases us with
  | nil =>
    have e1 : its.size = 0 := z1
    have e2 : it2.size = 0 := z2
    have r1 := SeqAt.RcAt.lists (A := X.A) (e := fun _ => true) l1 l2 (by omega) hu (fun j h _ => absurd h (by omega))
    have r2 := SeqAt.RcNeAt.lists (A := X.A) (e := fun _ => true) l1 l2 (by omega) hu (fun j h _ => absurd h (by omega))
    rw [e1] at r1 r2
    exact ⟨r1, r2⟩
  | cons u r =>
    have ne : (its.size != it2.size) = true := by
      rw [z1, z2]
      rfl
    exact ⟨SeqAt.RcAt.lists_lengths l1 l2 ne hu, SeqAt.RcNeAt.lists_lengths l1 l2 ne hu⟩
theorem od_eq (hu : X.A.units + 64 < cLine) : OpR X (compareOp .Eq) (rDC2 X.K cEq) := by
  intro pins s σ H x y v u Q I rx ry h
  obtain ⟨G, dx, dy, P, sG, d1, d2, hf, q⟩ := h
  unfold cEq at hf
  split at hf
  · cases dp_int d1
    cases dp_int d2
    exact op_eq pins s σ H _ _ v u Q I rx ry ⟨rfl, by rw [dec_V_int]; exact q _ hf⟩
  · cases dp_str d1
    cases dp_str d2
    exact op_eq pins s σ H _ _ v u Q I rx ry ⟨rfl, by rw [dec_V_str]; exact q _ hf⟩
  · cases dp_bl d1
    cases dp_bl d2
    exact op_eq pins s σ H _ _ v u Q I rx ry ⟨rfl, by rw [dec_V_bl]; exact q _ hf⟩
  · cases dp_non d1
    cases dp_non d2
    exact op_eq pins s σ H _ _ v u Q I rx ry ⟨rfl, q _ hf⟩
  · obtain ⟨a, us, rfl, h1, h2⟩ := dp_lst d1
    obtain ⟨b, ws, rfl, h3, h4⟩ := dp_lst d2
    cases h4
    cases rx
    cases ry
    have e := all_empty h2
    exact (eq_nil_list (by omega) I (sG.lst h1) (sG.lst h3)).1 _ _ _ _ ⟨.bl _, H, I, rfl, q _ (by rw [e]; exact hf)⟩
  · obtain ⟨h1, h2, hP⟩ := hf
    simp only [okEq, Bool.and_eq_true] at h1 h2
    exact op_eqD hu pins s σ H _ _ v u Q I rx ry ⟨dx, dy, dr_dp (dp_pub sG d1 h1.2) h1.2, dr_dp (dp_pub sG d2 h2.2) h2.2, h1.1, h2.1, q _ hP⟩
theorem od_ne (hu : X.A.units + 64 < cLine) : OpR X (compareOp .NotEq) (rDC2 X.K cNe) := by
  intro pins s σ H x y v u Q I rx ry h
  obtain ⟨G, dx, dy, P, sG, d1, d2, hf, q⟩ := h
  unfold cNe cEq at hf
  split at hf
  · cases dp_int d1
    cases dp_int d2
    exact op_ne pins s σ H _ _ v u Q I rx ry ⟨rfl, by rw [dec_V_int]; exact q _ hf⟩
  · cases dp_str d1
    cases dp_str d2
    exact op_ne pins s σ H _ _ v u Q I rx ry ⟨rfl, by rw [dec_V_str]; exact q _ hf⟩
  · cases dp_bl d1
    cases dp_bl d2
    exact op_ne pins s σ H _ _ v u Q I rx ry ⟨rfl, by rw [dec_V_bl]; exact q _ hf⟩
  · cases dp_non d1
    cases dp_non d2
    exact op_ne pins s σ H _ _ v u Q I rx ry ⟨rfl, q _ hf⟩
  · obtain ⟨a, us, rfl, h1, h2⟩ := dp_lst d1
    obtain ⟨b, ws, rfl, h3, h4⟩ := dp_lst d2
    cases h4
    cases rx
    cases ry
    have e := all_empty h2
    exact (eq_nil_list (by omega) I (sG.lst h1) (sG.lst h3)).2 _ _ _ _ ⟨.bl _, H, I, rfl, q _ (by rw [e]; exact hf)⟩
  · obtain ⟨h1, h2, hP⟩ := hf
    simp only [okEq, Bool.and_eq_true] at h1 h2
    exact op_neD hu pins s σ H _ _ v u Q I rx ry ⟨_, _, dr_dp (dp_pub sG d1 h1.2) h1.2, dr_dp (dp_pub sG d2 h2.2) h2.2, h1.1, h2.1, q _ hP⟩
theorem od_cI {op : CmpOp} {f : Int → Int → Bool} (ho : OpR X (compareOp op) (rI0 fun i j => .bl (f i j))) : OpR X (compareOp op) (rDC2 X.K (cI f)) := by
  intro pins s σ H x y v u Q I rx ry h
  obtain ⟨G, dx, dy, P, sG, d1, d2, hf, q⟩ := h
  unfold cI at hf
  split at hf
  · cases dp_int d1
    cases dp_int d2
    exact ho pins s σ H _ _ v u Q I rx ry ⟨_, _, rfl, rfl, q _ hf⟩
  · exact hf.elim
def cLt := cI fun i j => decide (i < j)
def cLe := cI fun i j => decide (i ≤ j)
def cGt := cI fun i j => decide (j < i)
def cGe := cI fun i j => decide (j ≤ i)
theorem od_lt : OpR X (compareOp .Lt) (rDC2 X.K cLt) := od_cI op_lt
theorem od_le : OpR X (compareOp .LtE) (rDC2 X.K cLe) := od_cI op_le
theorem od_gt : OpR X (compareOp .Gt) (rDC2 X.K cGt) := od_cI op_gt
theorem od_ge : OpR X (compareOp .GtE) (rDC2 X.K cGe) := od_cI op_ge
def cIsN : D → D → (Bool → Prop) → Prop
  | .none, .none, P => P true
  | .dict _, .none, _ => False
  | _, .none, P => P false
  | _, _, _ => False
def cNotN : D → D → (Bool → Prop) → Prop := fun x y P => cIsN x y fun b => P (!b)
theorem isN_dec {K : PySem.W.Frag} {G : Hp} {v : V} {x : D} {P : Bool → Prop} (d : Dr K G v x) (h : cIsN x .none P) : P (decide (v = .non)) := by
  cases d <;> simpa [cIsN] using h
theorem od_isN : OpR X (compareOp .Is) (rDC2 X.K cIsN) := by
  intro pins s σ H x y v u Q I rx ry h
  obtain ⟨G, dx, dy, P, sG, d1, d2, hf, q⟩ := h
  cases dy with
  | none =>
    cases dp_non d2
    exact op_isN pins s σ H _ _ v u Q I rx ry ⟨rfl, q _ (isN_dec d1 hf)⟩
  | _ => cases dx <;> exact hf.elim
theorem od_notN : OpR X (compareOp .IsNot) (rDC2 X.K cNotN) := by
  intro pins s σ H x y v u Q I rx ry h
  obtain ⟨G, dx, dy, P, sG, d1, d2, hf, q⟩ := h
  cases dy with
  | none =>
    cases dp_non d2
    exact op_notN pins s σ H _ _ v u Q I rx ry ⟨rfl, q _ (isN_dec (P := fun b => P (!b)) d1 hf)⟩
  | _ => cases dx <;> exact hf.elim
/-- in -/
def flatD : D → Bool
  | .none => true
  | .bool _ => true
  | .int _ => true
  | .str _ => true
  | _ => false
def inD (x : D) (xs : List D) : Bool := xs.any fun y => PyData.eqv y x
def cIn : D → D → (Bool → Prop) → Prop
  | x, .list ys, P => (flatD x = true ∧ ys.all flatD = true) ∧ P (inD x ys)
  | x, .tuple ys, P => (flatD x = true ∧ ys.all flatD = true) ∧ P (inD x ys)
  | .str w, .str z, P => match w.cps.toList with
    | [c] => P (decide (c ∈ z.cps.toList))
    | _ => P (!(Builtin.Str.occurrences z w 0 z.length 1).isEmpty)
  | _, _, _ => False
def cNotIn : D → D → (Bool → Prop) → Prop := fun x y P => cIn x y fun b => P (!b)
theorem flat_v {K : PySem.W.Frag} {G : Hp} {v : V} {x : D} (d : Dr K G v x) (h : flatD x = true) : flatV v = true := by
  cases d <;> first | rfl | (simp [flatD] at h)
theorem eq_v {K : PySem.W.Frag} {G : Hp} {v u : V} {x y : D} (d : Dr K G v x) (d2 : Dr K G u y) (h : flatD x = true) (h2 : flatD y = true) : eqV v u = PyData.eqv x y := by
  cases d <;> first | (simp [flatD] at h; done) | (cases d2 <;> first | (simp [flatD] at h2; done) | simp [eqV, PyData.eqv])
theorem in_v {K : PySem.W.Frag} {G : Hp} {v : V} {x : D} (d : Dr K G v x) (h : flatD x = true) : ∀ {vs : List V} {xs : List D}, DrAll K G vs xs → xs.all flatD = true → vs.all flatV = true ∧ inV v vs = inD x xs
  | _, _, .nil, _ => ⟨rfl, rfl⟩
  | _, _, .cons a t, hf => by
    rw [List.all_cons, Bool.and_eq_true] at hf
    obtain ⟨h1, h2⟩ := in_v d h t hf.2
    refine ⟨by rw [List.all_cons, flat_v a hf.1, h1]; rfl, ?_⟩
    unfold inV inD at h2 ⊢
    rw [List.any_cons, List.any_cons, h2, eq_v a d hf.1 h]
theorem in_str_ok {w z : Str} {P : Bool → Prop} (hf : match w.cps.toList with
    | [c] => P (decide (c ∈ z.cps.toList))
    | _ => P (!(Builtin.Str.occurrences z w 0 z.length 1).isEmpty)) : (∃ c, w = ⟨#[c]⟩ ∧ P (decide (c ∈ z.cps.toList))) ∨ P (!(Builtin.Str.occurrences z w 0 z.length 1).isEmpty) := by
  split at hf
  · rename_i c e
    refine .inl ⟨c, ?_, hf⟩
    cases w with
    | mk arr =>
      cases arr with
      | mk l =>
        have e' : l = [c] := e
        rw [e']
  · exact .inr hf
theorem od_in : OpR X (compareOp .In) (rDC2 X.K cIn) := by
  intro pins s σ H x y v u Q I rx ry h
  obtain ⟨G, dx, dy, P, sG, d1, d2, hf, q⟩ := h
  unfold cIn at hf
  split at hf
  · obtain ⟨a, us, rfl, h1, h2⟩ := dp_lst d2
    obtain ⟨i1, i2⟩ := in_v d1 hf.1.1 h2 hf.1.2
    exact op_in_seq pins s σ H _ _ v u Q I rx ry ⟨a, us, rfl, .inl (SqL.of (sG.lst h1)), flat_v d1 hf.1.1, i1, by rw [i2]; exact q _ hf.2⟩
  · obtain ⟨a, us, rfl, h1, h2⟩ := dp_tup d2
    obtain ⟨i1, i2⟩ := in_v d1 hf.1.1 h2 hf.1.2
    exact op_in_seq pins s σ H _ _ v u Q I rx ry ⟨a, us, rfl, .inr (pub_sqT sG h1), flat_v d1 hf.1.1, i1, by rw [i2]; exact q _ hf.2⟩
  · cases dp_str d1
    cases dp_str d2
    rcases in_str_ok hf with ⟨c, rfl, hf⟩ | hf
    · exact op_in_sign pins s σ H _ _ v u Q I rx ry ⟨c, _, rfl, rfl, q _ hf⟩
    · exact op_in_str pins s σ H _ _ v u Q I rx ry ⟨_, _, rfl, rfl, q _ hf⟩
  · exact hf.elim
theorem od_notIn : OpR X (compareOp .NotIn) (rDC2 X.K cNotIn) := by
  intro pins s σ H x y v u Q I rx ry h
  obtain ⟨G, dx, dy, P, sG, d1, d2, hf, q⟩ := h
  unfold cNotIn cIn at hf
  split at hf
  · obtain ⟨a, us, rfl, h1, h2⟩ := dp_lst d2
    obtain ⟨i1, i2⟩ := in_v d1 hf.1.1 h2 hf.1.2
    exact op_notIn_seq pins s σ H _ _ v u Q I rx ry ⟨a, us, rfl, .inl (SqL.of (sG.lst h1)), flat_v d1 hf.1.1, i1, by rw [i2]; exact q _ hf.2⟩
  · obtain ⟨a, us, rfl, h1, h2⟩ := dp_tup d2
    obtain ⟨i1, i2⟩ := in_v d1 hf.1.1 h2 hf.1.2
    exact op_notIn_seq pins s σ H _ _ v u Q I rx ry ⟨a, us, rfl, .inr (pub_sqT sG h1), flat_v d1 hf.1.1, i1, by rw [i2]; exact q _ hf.2⟩
  · cases dp_str d1
    cases dp_str d2
    rcases in_str_ok (P := fun b => P (!b)) hf with ⟨c, rfl, hf⟩ | hf
    · exact op_notIn_sign pins s σ H _ _ v u Q I rx ry ⟨c, _, rfl, rfl, q _ hf⟩
    · exact op_notIn_str pins s σ H _ _ v u Q I rx ry ⟨_, _, rfl, rfl, q _ hf⟩
  · exact hf.elim
end
end DL
namespace DL
open PySem PySem.Spec PyProof.Rows L2
/-! ### promises where no repr is under way -/
structure Rm (k : Nat) (A : Around) : Prop where
  rm : Room k A
  gd : A.guards = some []
theorem Rm.mono {j k : Nat} {A : Around} (r : Rm k A) (h : j ≤ k) : Rm j A := ⟨r.rm.mono h, r.gd⟩
structure FnG (P : Program) (w : World) (K : PySem.W.Frag) (mg : Str → Option Value) (base : Heap) (CX : CXT) (k : Nat) (f : Addr) (fd : FuncData) (ps : List Str) (sp : Sp) : Prop where
  len : ∀ vs H Q E, sp vs H Q E → vs.length = ps.length
  run : ∀ (A : Around) (st : List Env) (s : Shared) (H : Hp) (args : Args) (us : List Value) (vs : List V) (Q : VK) (E : XK), Rm k A → Env0 P w K mg base A st s H →
    BindsTo s fd args (ps.zip us) → Vals vs us → sp vs H Q E → codeAny (model P w) A (.call (.ref f) args) (CR CX st P w H s Q E) s
section
variable {P : Program} {w : World} {K : PySem.W.Frag} {mg : Str → Option Value} {base : Heap} {CX : CXT} {k : Nat} {f : Addr} {fd : FuncData} {ps : List Str} {sp : Sp}
theorem FnG.of (F : FnOk P w K mg base CX k f fd ps sp) : FnG P w K mg base CX k f fd ps sp := ⟨F.len, fun A st s H args us vs Q E r => F.run A st s H args us vs Q E r.rm⟩
theorem FnG.mono {j : Nat} (F : FnG P w K mg base CX j f fd ps sp) (h : j ≤ k) : FnG P w K mg base CX k f fd ps sp := ⟨F.len, fun A st s H args us vs Q E r => F.run A st s H args us vs Q E (r.mono h)⟩
theorem FnG.imp {sp' : Sp} (F : FnG P w K mg base CX k f fd ps sp) (h : ∀ vs H Q E, sp' vs H Q E → sp vs H Q E) : FnG P w K mg base CX k f fd ps sp' :=
  ⟨fun vs H Q E q => F.len vs H Q E (h _ _ _ _ q), fun A st s H args us vs Q E r e b v q => F.run A st s H args us vs Q E r e b v (h _ _ _ _ q)⟩
/-- a def of the text by its body -/
theorem Fun.okG {x qual : Str} {st : Stmt} {N : List Str} (F : Fun K x qual st f fd) (S : FnScope N ps (defScope st)) (len : ∀ vs H Q E, sp vs H Q E → vs.length = ps.length)
    (hbody : ∀ (cdv : Value) (A : Around) (fs : List Env) (s : Shared) (H : Hp) (vs : List V) (Q : VK) (E : XK), Rm k (A.deeper (envOfC qual (defScope st) s.heap.objs.size f cdv)) → sp vs H Q E →
      ∃ t, PSs (cxOf CX P w K mg base N qual (defScope st) f cdv A fs s H E) (defBody st) t ∧ t { nx := fun _ H' => Q .non H', rt := Q } (L2.start N vs) H) : FnG P w K mg base CX (k + 1) f fd ps sp := by
  obtain ⟨oc, od, kV, doc, pm, an, cdv, ct, osl, rfl, look, code⟩ := F.ex
  refine ⟨len, fun A fs s H args us vs Q E r e0 hb rv hs => ?_⟩
  have inK : K.In s.heap := e0.mod.kin.keeps fun b o z => (e0.bs b o z).1
  have noL : s.heap.NoLimit := e0.mod.nolimit.keeps fun b o z => (e0.bs b o z).1
  refine codeAny_call_function r.rm.depth (inK _ _ look) rfl S.co S.gen rfl (PySem.W.codeRec_of inK code) (hb _ _ _ _ ?_)
  have kinds : ∀ y ∈ ps.zip us, (defScope st).names.lookup y.1 = some .local ∨
      ((defScope st).names.lookup y.1 = some .cell ∧ ((cellsFrom (s.heap.objs.size + 1) (defScope st).names []).lookup y.1).isSome = true) := by
    rintro ⟨n, v⟩ hy
    exact (S.par n (List.of_mem_zip hy).1).imp id fun z => ⟨z, PySem.W.cellsFrom_some _ _ _ (.inl z)⟩
  refine wpAny_newFunctionEnv_cells S.kind kinds fun env eqE s1 inC => ?_
  subst eqE
  refine ⟨noL.keeps inC.toInCall.keep, codeAny_func ?_⟩
  obtain ⟨t, ht, rd⟩ := hbody cdv A fs s H vs Q E ⟨r.rm.deeper _, r.gd⟩ hs
  have J := inv_start (CX := CX) (E := E) S r.rm.hd e0 (len _ _ _ _ hs) rv inC
  refine wpAny_mono (ht.run [] s1 _ H _ J rd) (fun fl s' z => ?_) fun _ _ z => z
  cases fl with
  | ret u =>
    obtain ⟨v, _, H', J', r', q⟩ := z
    exact ⟨v, H', J'.os, J'.bare, J'.base, J'.hok, r', q⟩
  | next =>
    obtain ⟨_, H', J', q⟩ := z
    exact ⟨V.non, H', J'.os, J'.bare, J'.base, J'.hok, rfl, q⟩
  | brk => exact z.elim fun _ z => z.elim fun _ z => z.2.elim
  | cont => exact z.elim fun _ z => z.elim fun _ z => z.2.elim
end
section
variable {X : Cx} {CX : CXT} {k : Nat} {f : Addr} {fd : FuncData} {ps : List Str} {sp : Sp} {E : XK} {x : Str} {p pos : Pos} {e : Expr} {es : List Expr} {t : TA} {dvs : List V} {ds : List Value}
theorem runG {pins : List (Addr × Obj)} {σ : L2.St} {H : Hp} {s : Shared} {Q : VK} {us : List Value} {vs : List V} (F : FnG X.prog X.w X.K X.mg X.base CX k f fd ps sp) (r : Rm k X.A) (hb : Binds X.K fd ps ds) (hd : Vals dvs ds) (hx : Passes CX X E)
    (I : Inv X pins σ H s) (rv : Vals vs us) (h : sp (vs ++ dvs) H Q E) : wpAny (model X.prog X.w) X.A (call (.ref f) us) (EP X pins σ Q) X.xe s := by
  have both := rv.append hd
  have n : (us ++ ds).length = ps.length := both.length.symm.trans (F.len _ _ _ _ h)
  have run := F.run X.A X.stack s H ⟨us, []⟩ (us ++ ds) (vs ++ dvs) Q E r I.env0 (hb s us I.kIn n) both h
  refine wpAny_call (codeAny_mono run fun res s' z => ?_)
  rcases res with err | fl
  · exact hx pins σ H s err s' I z
  · cases fl with
    | ret u => exact I.after z
    | next => exact z.elim
    | brk => exact z.elim
    | cont => exact z.elim
theorem pe_callG (F : FnG X.prog X.w X.K X.mg X.base CX k f fd ps sp) (r : Rm k X.A) (hg : Gl X x) (hm : X.mg x = some (.ref f)) (hk : PySem.W.keepIn X.K (.ref f) = true) (hb : Binds X.K fd ps ds) (hd : Vals dvs ds) (hx : Passes CX X E)
    (ha : PA X (e :: es) t) (hdb : (x == ("__debug__" : Str)) = false := by decide) (he : starEach (e :: es) X.env = (false, eval e X.env) :: starEach es X.env := by rfl) (hpl : (backTo pos (starEach es X.env)).any (·.1) = false := by rfl) :
    PE X (.Call (.Name x p) (e :: es) [] pos) (tCall sp dvs E t) := ⟨fun pins s σ H Q I h => by
  refine wpAny_Call_Name_kw (ld_glob I hg hm (PySem.W.callWith_K (h₀ := X.base) I.ok.mod.kin hk ?_ he hpl) hdb)
  exact thn (ha.run pos pins s σ H _ I h) fun us s1 ⟨vs, H1, I1, rv, q⟩ => ⟨I1.kIn, runG F r hb hd hx I1 rv q⟩⟩
theorem pe_call0G (F : FnG X.prog X.w X.K X.mg X.base CX k f fd ps sp) (r : Rm k X.A) (hg : Gl X x) (hm : X.mg x = some (.ref f)) (hk : PySem.W.keepIn X.K (.ref f) = true) (hb : Binds X.K fd ps ds) (hd : Vals dvs ds) (hx : Passes CX X E)
    (hdb : (x == ("__debug__" : Str)) = false := by decide) : PE X (.Call (.Name x p) [] [] pos) (tCall sp dvs E tNil) := ⟨fun pins s σ H Q I h =>
  wpAny_Call_Name_kw (ld_glob I hg hm (PySem.W.callWith_K0 I.kIn hk (runG (us := []) F r hb hd hx I .nil h)) hdb)⟩
end
/-- a def of the text that is called by its name: its promise on data; c: what it may draw at most -/
structure Cal (P : Program) (w : World) (K : PySem.W.Frag) (mg : Str → Option Value) (base : Heap) (x : Str) (k : Nat) (ps : List Str) (c : Nat) (sp : List EV → (D → Prop) → Prop) : Prop where
  ex : ∃ f fd, FnG P w K mg base CX0 k f fd ps (spD K c sp) ∧ mg x = some (.ref f) ∧ PySem.W.keepIn K (.ref f) = true ∧ Binds K fd ps []
section
variable {X : Cx} {k c : Nat} {ps : List Str} {sp : List EV → (D → Prop) → Prop} {x : Str} {p pos : Pos} {e : Expr} {es : List Expr} {m1 : MA} {n1 : Nat}
theorem ge_cal (C : Cal X.prog X.w X.K X.mg X.base x k ps c sp) (r : Rm k X.A) (hg : Gl X x)
    (ha : GA X (e :: es) n1 m1) (hdb : (x == ("__debug__" : Str)) = false := by decide) (he : starEach (e :: es) X.env = (false, eval e X.env) :: starEach es X.env := by rfl) (hpl : (backTo pos (starEach es X.env)).any (·.1) = false := by rfl) :
    GE X (.Call (.Name x p) (e :: es) [] pos) (n1 + c) (mCall sp m1) := by
  obtain ⟨f, fd, F, hm, hk, hb⟩ := C.ex
  exact pe_imp (pe_callG F r hg hm hk hb .nil pass0 ha hdb he hpl) fun σ H Q h => call_ok h
theorem ge_cal0 (C : Cal X.prog X.w X.K X.mg X.base x k ps c sp) (r : Rm k X.A) (hg : Gl X x) (hdb : (x == ("__debug__" : Str)) = false := by decide) : GE X (.Call (.Name x p) [] [] pos) c (mCall sp mNil) := by
  obtain ⟨f, fd, F, hm, hk, hb⟩ := C.ex
  refine pe_imp (pe_call0G F r hg hm hk hb .nil pass0 hdb) fun σ H Q h => ?_
  obtain ⟨W, B, G0, H0, G, env, P, R, hm, q⟩ := h
  exact ⟨W.dk, B, G, [], _, R.toRW.self0, .nil, hm, fun x v G2 H2 p2 r2 d2 => q x env v G2 H2 p2 r2.g0 (R.after r2) d2⟩
end
section
variable {P : Program} {w : World} {K : PySem.W.Frag} {mg : Str → Option Value} {base : Heap}
theorem okDG {x qual : Str} {st : Stmt} {f : Addr} {fd : FuncData} {N ps : List Str} {k n c : Nat} {sp : List EV → (D → Prop) → Prop} {ms : MS} (F : Fun K x qual st f fd) (S : FnScope N ps (defScope st)) (len : ∀ as Q, sp as Q → as.length = ps.length)
    (hbody : ∀ (cdv : Value) (A : Around) (fs : List Env) (s : Shared) (H : Hp) (E : XK), Rm k (A.deeper (envOfC qual (defScope st) s.heap.objs.size f cdv)) →
      GSs (cxOf CX0 P w K mg base N qual (defScope st) f cdv A fs s H E).nox (defBody st) n ms) (hn : n ≤ c)
    (hd : ∀ as Q, sp as Q → ms { nx := fun _ => Q .none, rt := fun x _ => Q x } (env0 N as)) : FnG P w K mg base CX0 (k + 1) f fd ps (spD K c sp) := by
  refine Fun.okG F S (fun vs H Q E h => ?_) (fun cdv A fs s H vs Q E hr h => ?_)
  · obtain ⟨W, B, G, as, Pd, r, a, h, _⟩ := h
    rw [args_len a]
    exact len as Pd h
  · obtain ⟨W, B, G, as, Pd, r, a, h, q⟩ := h
    refine ⟨_, (hbody cdv A fs s H E hr).nox, .of W, B, G, H, G, env0 N as, _, rel_start N (r.le (by omega)) a, hd as Pd h, ?_⟩
    exact ⟨fun e σ g H' p z R => q _ _ g H' p R.toRW .non, fun x e σ v g H' p z R d => q x v g H' p R.toRW d, fun _ _ _ _ p => p.elim, fun _ _ _ _ p => p.elim⟩
end
/-! ### the end of a law -/
/-- the script's heap: nothing, or the script locked -/
def scr (a : Addr) (o : Obj) (ns : List Int) : Hp := fun b => if b = a then some (.frz o (.lst (ns.map V.int))) else none
theorem scr_at {a b : Addr} {o : Obj} {ns : List Int} : (b = a ∧ scr a o ns b = some (.frz o (.lst (ns.map V.int)))) ∨ (b ≠ a ∧ scr a o ns b = none) := by
  by_cases z : b = a
  · exact .inl ⟨z, if_pos z⟩
  · exact .inr ⟨z, if_neg z⟩
section
variable {P : Program} {w : World} {K : PySem.W.Frag} {mg mb : Str → Option Value} {k : Nat} {fa a : Addr} {fd : FuncData} {x : Str} {sp : Sp} {s1 : Shared} {vs : List Value} {ns : List Int}
theorem law_core {H : Hp} (hH : ∀ b, H b = none ∨ (b = a ∧ H b = some (.frz { cls := .type "list", data := .seq vs.toArray } (.lst (ns.map V.int))) ∧ K.lookup a = none))
    (inK : K.In s1.heap) (gl : s1.heap.Ns mainGlobals mg) (bl : s1.heap.Ns builtinsNs mb) (bb : ∀ x : Str, x ≠ "__name__" → mb x = bootBuiltins x) (noL : s1.heap.NoLimit) (gen : s1.gens = #[])
    (ob : s1.heap.get? a = some { cls := .type "list", data := .seq vs.toArray }) (hok : HOk P w H s1.heap) (rm : Rm k callerA)
    (F : ∀ base : Heap, K.In base → base.Ns mainGlobals mg → FnG P w K mg base CX0 k fa fd [x] sp) (bind : ∀ (s : Shared) (u : Value), BindsTo s fd ⟨[u], []⟩ [(x, u)])
    (hs : sp [.ref a] H (fun v _ => v = .bl true) fun _ _ _ => False) :
    codeAny (model P w) callerA (.call (.ref fa) ⟨[.ref a], []⟩) (fun r s' => r = .ok (.ret (.bool true)) ∧ OldK s1.heap s'.heap ∧ s'.os = s1.os ∧ AllBare s'.gens) s1 := by
  -- what isn't tracked stands in the base
  have low : ∀ {b : Addr} {o : Obj}, s1.heap.get? b = some o → H b = none → (hidT s1.heap H).get? b = some o := fun z n => hidT_get z n
  have ns1 : ∀ {b : Addr} {m : Str → Option Value}, s1.heap.Ns b m → (hidT s1.heap H).Ns b m := by
    rintro b m ⟨o, es, ep, z, d, r⟩
    refine ⟨o, es, ep, low z ?_, d, r⟩
    rcases hH b with n | ⟨rfl, _⟩
    · exact n
    · rw [ob] at z
      cases z
      cases d
  have kin : K.In (hidT s1.heap H) := fun b o z => low (inK b o z) <| by
    rcases hH b with n | ⟨rfl, _, n⟩
    · exact n
    · rw [n] at z
      cases z
  have md : Mod K mg (hidT s1.heap H) := by
    obtain ⟨mc, h1, h2⟩ := noL
    exact ⟨kin, ns1 gl, ⟨mb, ns1 bl, bb⟩, mc, ns1 h1, h2⟩
  have e0 : Env0 P w K mg (hidT s1.heap H) callerA [] s1 H :=
    { frames := rfl, mod := md, bs := fun _ _ z => of_hidT z, bsz := Nat.le_of_eq (hidT_size _ _), funs := trivial, frf := fun b z => (nomatch z), hok := hok, bare := .of_eq gen }
  have run := (F _ kin (ns1 gl)).run callerA [] s1 H ⟨[.ref a], []⟩ [.ref a] [.ref a] _ _ rm e0 (bind s1 (.ref a)) (.cons rfl .nil) hs
  refine codeAny_mono run fun res s' z => ?_
  rcases res with err | fl
  · exact z.elim
  cases fl with
  | next => exact z.elim
  | brk => exact z.elim
  | cont => exact z.elim
  | ret u =>
    obtain ⟨v, H', os, bare, un, hok', rel, q⟩ := z
    cases (show v = .bl true from q)
    cases (show u = Value.bool true from rel)
    refine ⟨rfl, OldK.of_keep fun b o z => ?_, os, bare⟩
    rcases hH b with n | ⟨rfl, t, _⟩
    · exact un.keep b o z n (fun q => (nomatch q)) (fun q => (nomatch q))
    · have t2 := un.frzs b _ _ t
      obtain ⟨e1, _⟩ := hok b _ t
      obtain ⟨e2, _⟩ := hok' b _ t2
      rw [z] at e1
      cases e1
      exact e2
theorem law_end (inK : K.In s1.heap) (gl : s1.heap.Ns mainGlobals mg) (bl : s1.heap.Ns builtinsNs mb) (bb : ∀ x : Str, x ≠ "__name__" → mb x = bootBuiltins x) (noL : s1.heap.NoLimit) (gen : s1.gens = #[])
    (ob : s1.heap.get? a = some { cls := .type "list", data := .seq vs.toArray }) (iv : IntsAre vs ns) (hl : ns.length ≤ sizeLine) (rm : Rm k callerA)
    (F : ∀ base : Heap, K.In base → base.Ns mainGlobals mg → FnG P w K mg base CX0 k fa fd [x] sp) (bind : ∀ (s : Shared) (u : Value), BindsTo s fd ⟨[u], []⟩ [(x, u)])
    (hs : ∀ H : Hp, Only H → SqL K H a (ns.map V.int) → sp [.ref a] H (fun v _ => v = .bl true) fun _ _ _ => False) :
    codeAny (model P w) callerA (.call (.ref fa) ⟨[.ref a], []⟩) (fun r s' => r = .ok (.ret (.bool true)) ∧ OldK s1.heap s'.heap ∧ s'.os = s1.os ∧ AllBare s'.gens) s1 := by
  cases lk : K.lookup a with
  | none =>
    refine law_core (ns := ns) (H := scr a { cls := .type "list", data := .seq vs.toArray } ns) (fun b => ?_) inK gl bl bb noL gen ob (fun b u z => ?_) rm F bind (hs _ (fun b => ?_) ?_)
    · rcases scr_at (a := a) (b := b) (o := { cls := .type "list", data := .seq vs.toArray }) (ns := ns) with ⟨h1, h2⟩ | ⟨_, h2⟩
      · exact .inr ⟨h1, h2, lk⟩
      · exact .inl h2
    · rcases scr_at (a := a) (b := b) (o := { cls := .type "list", data := .seq vs.toArray }) (ns := ns) with ⟨h1, h2⟩ | ⟨_, h2⟩
      · subst h1
        cases h2.symm.trans z
        exact ⟨ob, by rw [List.length_map]; exact hl, vs, _, vals_ints iv, ob⟩
      · cases h2.symm.trans z
    · rcases scr_at (a := a) (b := b) (o := { cls := .type "list", data := .seq vs.toArray }) (ns := ns) with ⟨_, h2⟩ | ⟨_, h2⟩
      · exact .inr ⟨_, _, h2⟩
      · exact .inl h2
    · exact .inl (.inr ⟨_, if_pos rfl⟩)
  | some o =>
    have z := inK a o lk
    rw [ob] at z
    cases z
    refine law_core (ns := ns) (H := fun _ => none) (fun _ => .inl rfl) inK gl bl bb noL gen ob (fun _ _ z => (nomatch z)) rm F bind (hs _ (fun _ => .inl rfl) (.inr ?_))
    exact ⟨_, vs.toArray, _, lk, rfl, rfl, rfl, by rw [List.size_toArray, iv.length]; exact hl, by simpa using vals_ints iv⟩
end
/-- the goal that k_head leaves -/
theorem walkG {l : PySem.W.OpenLaw} {n k : Nat} {q : Program} {loose : List Str} {XP : (Str → Option Value) → Heap → Prop} {YP : World → Heap → Prop} {d : DefRec} {K : Params → PySem.W.Frag} {sp : PySem.W.Frag → Sp} {x : Str}
    (hn : l.most = some n) (hn2 : n ≤ sizeLine) (hdf : d.params.defaults = []) (rm : Rm k callerA) (hY : ∀ (w : World) (h : Heap), YP w h → (K w.params).In h)
    (F : ∀ (w : World) (mg : Str → Option Value) (fa : Addr) (h : Heap), (K w.params).In h → h.Ns mainGlobals mg → mg d.name = some (.ref fa) →
      ∃ fd : FuncData, (∀ (s : Shared) (u : Value), BindsTo s fd ⟨[u], []⟩ [(x, u)]) ∧ ∀ base : Heap, (K w.params).In base → base.Ns mainGlobals mg → FnG l.prog w (K w.params) mg base CX0 k fa fd [x] (sp (K w.params)))
    (hs : ∀ (K : PySem.W.Frag) (H : Hp) (a : Addr) (ns : List Int), ns.length ≤ n → (∀ z ∈ ns, Builtin.Int.intBits z ≤ 1048576) → Only H → SqL K H a (ns.map V.int) → sp K [.ref a] H (fun v _ => v = .bl true) fun _ _ _ => False) :
    PySem.W.WalkO q loose XP YP l.row.toRowW d [] (fun f vs => PySem.call f vs) :=
  Att.attach_callB hn hdf fun w s₀ s₁ mg mb fa o pm cd doc a vs ns G Y ho hd hcd hmg hobj hints hlen hbits hg => by
    obtain ⟨fd, hb, hF⟩ := F w mg fa _ (hY w _ Y) G.T.g hmg
    exact law_end (hY w _ Y) G.T.g G.T.b G.T.builtins G.T.nolimit hg hobj hints (Nat.le_trans hlen hn2) rm hF hb fun H hO hS => hs _ H a ns hlen hbits hO hS
end DL
namespace DL
open PySem PySem.Spec PyProof.Rows L2
/-! ### built-ins on data -/
def dLen : List D → (D → Prop) → Prop
  | [.str z], P => z.length ≤ sizeLine ∧ P (.int z.length)
  | [.list xs], P => P (.int xs.length)
  | [.tuple xs], P => P (.int xs.length)
  | _, _ => False
def dInt : List D → (D → Prop) → Prop
  | [.int i], P => P (.int i)
  | [.bool b], P => P (.int (if b then 1 else 0))
  | [.str z], P => ∃ n, intText? z = some n ∧ z.length ≤ 640 ∧ P (.int n)
  | _, _ => False
def dStr : List D → (D → Prop) → Prop
  | [.int i], P => i.natAbs.log2 < 1920 ∧ P (.str (toString i))
  | _, _ => False
def blsD : List D → Option (List Bool)
  | [] => some []
  | .bool b :: r => (blsD r).map (b :: ·)
  | _ :: _ => none
def dAll : List D → (D → Prop) → Prop
  | [.list xs], P => match blsD xs with
    | some bs => P (.bool (bs.all id))
    | none => False
  | _, _ => False
def dAny : List D → (D → Prop) → Prop
  | [.list xs], P => match blsD xs with
    | some bs => P (.bool (bs.any id))
    | none => False
  | _, _ => False
def dListOf : List D → (D → Prop) → Prop
  | [.list xs], P => P (.list xs)
  | [.tuple xs], P => P (.list xs)
  | _, _ => False
def dTupOf : List D → (D → Prop) → Prop
  | [.list xs], P => P (.tuple xs)
  | [.tuple xs], P => P (.tuple xs)
  | _, _ => False
def dRepr : List D → (D → Prop) → Prop
  | [.list xs], P => ((PyData.showable (.list xs) = true ∧ noDict (.list xs) = true) ∧ PyData.depth (.list xs) ≤ 60 ∧ (PyData.shown (.list xs)).length ≤ sizeLine) ∧ P (.str (PyData.shown (.list xs)))
  | [.tuple xs], P => ((PyData.showable (.tuple xs) = true ∧ noDict (.tuple xs) = true) ∧ PyData.depth (.tuple xs) ≤ 60 ∧ (PyData.shown (.tuple xs)).length ≤ sizeLine) ∧ P (.str (PyData.shown (.tuple xs)))
  | [.int i], P => i.natAbs.log2 < 1920 ∧ P (.str (toString i))
  | _, _ => False
theorem bls_v {K : PySem.W.Frag} {G : Hp} : ∀ {vs : List V} {xs : List D} {bs : List Bool}, DrAll K G vs xs → blsD xs = some bs → vs = bs.map V.bl
  | _, _, _, .nil, h => by
    cases h
    rfl
  | _, _, _, .cons (d := .bool b) a t, h => by
    simp only [blsD, Option.map_eq_some_iff] at h
    obtain ⟨r, h1, rfl⟩ := h
    cases dp_bl a
    rw [bls_v t h1]
    rfl
  | _, _, _, .cons (d := .none) _ _, h => by cases h
  | _, _, _, .cons (d := .int _) _ _, h => by cases h
  | _, _, _, .cons (d := .str _) _ _, h => by cases h
  | _, _, _, .cons (d := .list _) _ _, h => by cases h
  | _, _, _, .cons (d := .tuple _) _ _, h => by cases h
  | _, _, _, .cons (d := .dict _) _ _, h => by cases h
theorem all1 {K : PySem.W.Frag} {G : Hp} {vs : List V} {x : D} (h : DrAll K G vs [x]) : ∃ v, vs = [v] ∧ Dr K G v x := by
  cases h with
  | cons a t =>
    cases t
    exact ⟨_, rfl, a⟩
theorem all2 {K : PySem.W.Frag} {G : Hp} {vs : List V} {x y : D} (h : DrAll K G vs [x, y]) : ∃ v u, vs = [v, u] ∧ Dr K G v x ∧ Dr K G u y := by
  cases h with
  | cons a t =>
    obtain ⟨u, rfl, b⟩ := all1 t
    exact ⟨_, _, rfl, a, b⟩
section
variable {X : Cx}
theorem cd_len : CallR X (.builtin "len") (rDC X.K dLen) := by
  intro pins s σ H xs us Q I r h
  obtain ⟨G, ds, P, sG, da, hf, q⟩ := h
  unfold dLen at hf
  split at hf
  · obtain ⟨v, rfl, d⟩ := all1 da
    cases dp_str d
    exact call_len pins s σ H _ us Q I r ⟨_, _, rfl, ⟨hf.1, rfl⟩, q _ _ G H hf.2 (Grow.refl sG) (.int _)⟩
  · obtain ⟨v, rfl, d⟩ := all1 da
    obtain ⟨a, ws, rfl, h1, h2⟩ := dp_lst d
    exact call_len pins s σ H _ us Q I r ⟨_, _, rfl, .inl ⟨ws, SqL.of (sG.lst h1), rfl⟩, q _ _ G H (by rw [dpAll_len h2]; exact hf) (Grow.refl sG) (.int _)⟩
  · obtain ⟨v, rfl, d⟩ := all1 da
    obtain ⟨a, ws, rfl, h1, h2⟩ := dp_tup d
    exact call_len pins s σ H _ us Q I r ⟨_, _, rfl, .inr ⟨ws, pub_sqT sG h1, rfl⟩, q _ _ G H (by rw [dpAll_len h2]; exact hf) (Grow.refl sG) (.int _)⟩
  · exact hf.elim
theorem cd_int : CallR X (.type "int") (rDC X.K dInt) := by
  intro pins s σ H xs us Q I r h
  obtain ⟨G, ds, P, sG, da, hf, q⟩ := h
  unfold dInt at hf
  split at hf
  · obtain ⟨v, rfl, d⟩ := all1 da
    cases dp_int d
    exact call_int1 pins s σ H _ us Q I r (.inl ⟨_, rfl, q _ _ G H hf (Grow.refl sG) (.int _)⟩)
  · obtain ⟨v, rfl, d⟩ := all1 da
    cases dp_bl d
    exact call_int1 pins s σ H _ us Q I r (.inr ⟨_, rfl, q _ _ G H hf (Grow.refl sG) (.int _)⟩)
  · obtain ⟨v, rfl, d⟩ := all1 da
    cases dp_str d
    obtain ⟨n, h1, h2, h3⟩ := hf
    exact call_int_str pins s σ H _ us Q I r ⟨_, n, rfl, h1, h2, q _ _ G H h3 (Grow.refl sG) (.int _)⟩
  · exact hf.elim
theorem cd_str : CallR X (.type "str") (rDC X.K dStr) := by
  intro pins s σ H xs us Q I r h
  obtain ⟨G, ds, P, sG, da, hf, q⟩ := h
  unfold dStr at hf
  split at hf
  · obtain ⟨v, rfl, d⟩ := all1 da
    cases dp_int d
    exact call_str_int pins s σ H _ us Q I r ⟨_, rfl, hf.1, q _ _ G H hf.2 (Grow.refl sG) (.str _)⟩
  · exact hf.elim
theorem cd_all (hc : X.calm = true) : CallR X (.builtin "all") (rDC X.K dAll) := by
  intro pins s σ H xs us Q I r h
  obtain ⟨G, ds, P, sG, da, hf, q⟩ := h
  unfold dAll at hf
  split at hf
  · obtain ⟨v, rfl, d⟩ := all1 da
    obtain ⟨a, ws, rfl, h1, h2⟩ := dp_lst d
    split at hf
    · rename_i bs e
      rw [bls_v h2 e] at h1
      exact cr_all hc pins s σ H _ us Q I r ⟨a, bs, rfl, SqL.of (sG.lst h1), q _ _ G H hf (Grow.refl sG) (.bl _)⟩
    · exact hf.elim
  · exact hf.elim
theorem cd_any (hc : X.calm = true) : CallR X (.builtin "any") (rDC X.K dAny) := by
  intro pins s σ H xs us Q I r h
  obtain ⟨G, ds, P, sG, da, hf, q⟩ := h
  unfold dAny at hf
  split at hf
  · obtain ⟨v, rfl, d⟩ := all1 da
    obtain ⟨a, ws, rfl, h1, h2⟩ := dp_lst d
    split at hf
    · rename_i bs e
      rw [bls_v h2 e] at h1
      exact cr_any hc pins s σ H _ us Q I r ⟨a, bs, rfl, SqL.of (sG.lst h1), q _ _ G H hf (Grow.refl sG) (.bl _)⟩
    · exact hf.elim
  · exact hf.elim
theorem cd_list : CallR X (.type "list") (rDC X.K dListOf) := by
  intro pins s σ H xs us Q I r h
  obtain ⟨G, ds, P, sG, da, hf, q⟩ := h
  unfold dListOf at hf
  split at hf
  · obtain ⟨v, rfl, d⟩ := all1 da
    obtain ⟨a, ws, rfl, h1, h2⟩ := dp_lst d
    exact call_list_of pins s σ H _ us Q I r ⟨a, ws, rfl, .inl (SqL.of (sG.lst h1)), fun p hp => q _ _ _ _ hf (Grow.new1 sG hp) (.lst upd_same (dpAll_same (same_upd (sG.free hp)) h2))⟩
  · obtain ⟨v, rfl, d⟩ := all1 da
    obtain ⟨a, ws, rfl, h1, h2⟩ := dp_tup d
    exact call_list_of pins s σ H _ us Q I r ⟨a, ws, rfl, .inr (pub_sqT sG h1), fun p hp => q _ _ _ _ hf (Grow.new1 sG hp) (.lst upd_same (dpAll_same (same_upd (sG.free hp)) h2))⟩
  · exact hf.elim
theorem cd_tuple : CallR X (.type "tuple") (rDC X.K dTupOf) := by
  intro pins s σ H xs us Q I r h
  obtain ⟨G, ds, P, sG, da, hf, q⟩ := h
  unfold dTupOf at hf
  split at hf
  · obtain ⟨v, rfl, d⟩ := all1 da
    obtain ⟨a, ws, rfl, h1, h2⟩ := dp_lst d
    exact call_tuple_of pins s σ H _ us Q I r ⟨a, ws, rfl, .inl ⟨SqL.of (sG.lst h1), fun p hp => q _ _ _ _ hf (Grow.new1 sG hp) (.tup (SqT.of upd_same) (dpAll_same (same_upd (sG.free hp)) h2))⟩⟩
  · obtain ⟨v, rfl, d⟩ := all1 da
    obtain ⟨a, ws, rfl, h1, h2⟩ := dp_tup d
    exact call_tuple_of pins s σ H _ us Q I r ⟨a, ws, rfl, .inr ⟨pub_sqT sG h1, q _ _ G H hf (Grow.refl sG) d⟩⟩
  · exact hf.elim
theorem repr_ref (hg : X.A.guards = some []) (hu : X.A.units + 64 < cLine) {pins : List (Addr × Obj)} {s : Shared} {σ : L2.St} {H : Hp} {a : Addr} {us : List Value} {Q : VK} {x : D} (I : Inv X pins σ H s) (r : Vals [.ref a] us) (d : Dp X.K H (.ref a) x)
    (hs : x.showable = true) (hn : noDict x = true) (hd : x.depth ≤ 60) (hz : x.shown.length ≤ sizeLine) (q : Q (.str x.shown) H) : wpAny (model X.prog X.w) X.A (call (.builtin "repr") us) (EP X pins σ Q) X.xe s := by
  obtain ⟨u, rfl, r1⟩ := vals1 r
  cases r1
  obtain ⟨as, rd⟩ := Dp.reads I x _ _ d rfl
  have nd : ∀ y : D, noDict y = true → y.hasDict = false := noDict_has
  refine repr_of_reads' rd hs (fun z => by rw [nd x hn] at z; cases z) hg (by omega) (fun b o e => e) (fun h' t tk hk => ?_) hz
  exact ⟨.str _, H, I.kept hk, ⟨_, rfl⟩, q⟩
where
  noDict_has : ∀ y : D, noDict y = true → y.hasDict = false
    | .none, _ => rfl
    | .bool _, _ => rfl
    | .int _, _ => rfl
    | .str _, _ => rfl
    | .list xs, h => by
      rw [PyData.hasDict]
      exact noDicts_has xs (by simpa [noDict] using h)
    | .tuple xs, h => by
      rw [PyData.hasDict]
      exact noDicts_has xs (by simpa [noDict] using h)
    | .dict _, h => by simp [noDict] at h
  noDicts_has : ∀ ys : List D, noDicts ys = true → PyData.hasDictAll ys = false
    | [], _ => rfl
    | y :: r, h => by
      simp only [noDicts, Bool.and_eq_true] at h
      rw [PyData.hasDictAll, noDict_has y h.1, noDicts_has r h.2]
      rfl
theorem cd_repr (hg : X.A.guards = some []) (hu : X.A.units + 64 < cLine) : CallR X (.builtin "repr") (rDC X.K dRepr) := by
  intro pins s σ H xs us Q I r h
  obtain ⟨G, ds, P, sG, da, hf, q⟩ := h
  unfold dRepr at hf
  split at hf
  · obtain ⟨v, rfl, d⟩ := all1 da
    obtain ⟨⟨⟨h1, h2⟩, h3, h4⟩, hP⟩ := hf
    have d2 := dr_dp (dp_pub sG d h2) h2
    obtain ⟨a, ws, rfl, _, _⟩ := dp_lst d
    exact repr_ref hg hu I r d2 h1 h2 h3 h4 (q _ _ G H hP (Grow.refl sG) (.str _))
  · obtain ⟨v, rfl, d⟩ := all1 da
    obtain ⟨⟨⟨h1, h2⟩, h3, h4⟩, hP⟩ := hf
    have d2 := dr_dp (dp_pub sG d h2) h2
    obtain ⟨a, ws, rfl, _, _⟩ := dp_tup d
    exact repr_ref hg hu I r d2 h1 h2 h3 h4 (q _ _ G H hP (Grow.refl sG) (.str _))
  · obtain ⟨v, rfl, d⟩ := all1 da
    cases dp_int d
    exact SkE.call_repr_int pins s σ H _ us Q I r ⟨_, rfl, hf.1, q _ _ G H hf.2 (Grow.refl sG) (.str _)⟩
  · exact hf.elim
/-! ### isinstance -/
def tyName : D → String
  | .none => "NoneType"
  | .bool _ => "bool"
  | .int _ => "int"
  | .str _ => "str"
  | .list _ => "list"
  | .tuple _ => "tuple"
  | .dict _ => "dict"
def isiN (T n : String) : Bool := n == T || (T == "int" && n == "bool")
def isiD (T : String) (x : D) : Bool := isiN T (tyName x)
def tyNames : List String := ["NoneType", "bool", "int", "str", "list", "tuple", "dict"]
theorem tyName_mem (x : D) : tyName x ∈ tyNames := by
  cases x <;> simp [tyName, tyNames]
theorem ty_x {K : PySem.W.Frag} {G H : Hp} {v : V} {x : D} (s : Pub G H) (d : Dr K G v x) : TyX K H v (.type (tyName x)) := by
  cases d with
  | non => exact .base .non
  | bl b => exact .base (.bl b)
  | int i => exact .base (.int i)
  | str z => exact .base (.str z)
  | lst h _ => exact .base (.lst (s.lst h))
  | tup h _ =>
    rcases h with (h | ⟨o, h⟩) | ⟨o, its, n, h1, h2, _⟩
    · exact .base (.tup (s.tup h))
    · exact .fTuple (s.frz h)
    · exact .kTuple h1 h2
  | dic h _ =>
    rcases s.dk h with h | ⟨o, h⟩
    · exact .base (.dK h)
    · exact .fDict h
def mIsi (T : String) (m : ME) : ME := fun env P => m env fun x e1 => P (.bool (isiD T x)) e1
theorem ge_isi {T : String} {Tn : Str} {e : Expr} {me : ME} {ne : Nat} {p p2 pos : Pos} (hk : ∀ x : D, kitB (tyName x) T = some (isiD T x)) (hg : Gl X "isinstance") (hm : X.mg "isinstance" = none) (hgT : Gl X Tn) (hmT : X.mg Tn = none) (hvT : bootBuiltins Tn = some (.type T)) (he : GE X e ne me)
    (hs : starEach [e, .Name Tn p2] X.env = (false, eval e X.env) :: starEach [.Name Tn p2] X.env := by rfl) (hpl : (backTo pos (starEach [.Name Tn p2] X.env)).any (·.1) = false := by rfl) (hn : Tn ≠ "__name__" := by decide) (hd : (Tn == ("__debug__" : Str)) = false := by decide)
    (hs2 : starEach [.Name Tn p2] X.env = (false, eval (.Name Tn p2) X.env) :: starEach [] X.env := by rfl) :
    GE X (.Call (.Name "isinstance" p) [e, .Name Tn p2] [] pos) ne (mIsi T me) :=
  pe_imp (pe_callB call_isi hg hm boot_isinstance (pa_cons he (pa_cons (pe_bltn (v := .ty T) hgT hmT hvT rfl hn hd) pa_nil hs2) hs) (by decide) (by decide) hs hpl) fun σ H Q h => by
  obtain ⟨W, B, G0, H0, G, env, P, R, hm, q⟩ := h
  refine ⟨W, B, G0, H0, G, env, _, R, hm, fun x e1 v G1 H1 p1 s1 R1 d1 => ?_⟩
  exact ⟨v, .ty T, _, _, _, rfl, .ty T, ty_x R1.pub d1, kit_ty (hk x), q _ e1 _ G1 H1 p1 s1 R1 (.bl _)⟩
theorem kit_str : ∀ x : D, kitB (tyName x) "str" = some (isiD "str" x) := fun x => (show ∀ n ∈ tyNames, kitB n "str" = some (isiN "str" n) by decide +kernel) _ (tyName_mem x)
theorem kit_int : ∀ x : D, kitB (tyName x) "int" = some (isiD "int" x) := fun x => (show ∀ n ∈ tyNames, kitB n "int" = some (isiN "int" n) by decide +kernel) _ (tyName_mem x)
theorem kit_tuple : ∀ x : D, kitB (tyName x) "tuple" = some (isiD "tuple" x) := fun x => (show ∀ n ∈ tyNames, kitB n "tuple" = some (isiN "tuple" n) by decide +kernel) _ (tyName_mem x)
theorem kit_list : ∀ x : D, kitB (tyName x) "list" = some (isiD "list" x) := fun x => (show ∀ n ∈ tyNames, kitB n "list" = some (isiN "list" n) by decide +kernel) _ (tyName_mem x)
theorem kit_bool : ∀ x : D, kitB (tyName x) "bool" = some (isiD "bool" x) := fun x => (show ∀ n ∈ tyNames, kitB n "bool" = some (isiN "bool" n) by decide +kernel) _ (tyName_mem x)
theorem kit_dict : ∀ x : D, kitB (tyName x) "dict" = some (isiD "dict" x) := fun x => (show ∀ n ∈ tyNames, kitB n "dict" = some (isiN "dict" n) by decide +kernel) _ (tyName_mem x)
end
end DL
namespace DL
open PySem PySem.Spec PyProof.Rows L2
/-! ### methods of texts -/
def strsD : List D → Option (List Str)
  | [] => some []
  | .str z :: r => (strsD r).map (z :: ·)
  | _ :: _ => none
theorem strs_v {K : PySem.W.Frag} {G : Hp} : ∀ {vs : List V} {xs : List D} {bs : List Str}, DrAll K G vs xs → strsD xs = some bs → vs = bs.map V.str
  | _, _, _, .nil, h => by
    cases h
    rfl
  | _, _, _, .cons (d := .str b) a t, h => by
    simp only [strsD, Option.map_eq_some_iff] at h
    obtain ⟨r, h1, rfl⟩ := h
    cases dp_str a
    rw [strs_v t h1]
    rfl
  | _, _, _, .cons (d := .none) _ _, h => by cases h
  | _, _, _, .cons (d := .int _) _ _, h => by cases h
  | _, _, _, .cons (d := .bool _) _ _, h => by cases h
  | _, _, _, .cons (d := .list _) _ _, h => by cases h
  | _, _, _, .cons (d := .tuple _) _ _, h => by cases h
  | _, _, _, .cons (d := .dict _) _ _, h => by cases h
def fJoin : D → List D → (D → Prop) → Prop
  | .str a, [.list xs], P => match strsD xs with
    | some ys => (ys.map (·.length)).sum + ys.length * a.length ≤ 16777216 ∧ P (.str (Txt.join a ys))
    | none => False
  | _, _, _ => False
def fSplit : D → List D → (D → Prop) → Prop
  | .str a, [.str b], P => ((b.length == 0) = false ∧ a.length + 2 ≤ sizeLine) ∧ P (.list ((Txt.split a b).map PyData.str))
  | _, _, _ => False
def fUpper : D → List D → (D → Prop) → Prop
  | .str a, [], P => a.length ≤ 5592405 ∧ P (.str (Txt.upper a))
  | _, _, _ => False
def fStarts : D → List D → (D → Prop) → Prop
  | .str a, [.str b], P => P (.bool (Txt.startswith a b))
  | _, _, _ => False
theorem dr_strs {K : PySem.W.Frag} {G : Hp} : ∀ ys : List Str, DrAll K G (ys.map V.str) (ys.map PyData.str)
  | [] => .nil
  | y :: r => .cons (.str y) (dr_strs r)
section
variable {X : Cx}
theorem md_join : MtR X "str.join" (rDM X.K fJoin) := by
  intro pins s σ H x xs v us Q I rx rs h
  obtain ⟨G, dx, ds, P, sG, d1, da, hf, q⟩ := h
  unfold fJoin at hf
  split at hf
  · cases dp_str d1
    obtain ⟨w, rfl, d⟩ := all1 da
    obtain ⟨a, ws, rfl, h1, h2⟩ := dp_lst d
    split at hf
    · rename_i ys e
      rw [strs_v h2 e] at h1
      exact mt_join pins s σ H _ _ v us Q I rx rs ⟨_, a, ys, rfl, rfl, .inl (SqL.of (sG.lst h1)), hf.1, q _ _ G H hf.2 (Grow.refl sG) (.str _)⟩
    · exact hf.elim
  · exact hf.elim
theorem md_split : MtR X "str.split" (rDM X.K fSplit) := by
  intro pins s σ H x xs v us Q I rx rs h
  obtain ⟨G, dx, ds, P, sG, d1, da, hf, q⟩ := h
  unfold fSplit at hf
  split at hf
  · cases dp_str d1
    obtain ⟨w, rfl, d⟩ := all1 da
    cases dp_str d
    exact mt_split pins s σ H _ _ v us Q I rx rs ⟨_, _, rfl, rfl, hf.1.1, hf.1.2, fun p hp => q _ _ _ _ hf.2 (Grow.new1 sG hp) (.lst upd_same (dr_strs _))⟩
  · exact hf.elim
theorem md_upper : MtR X "str.upper" (rDM X.K fUpper) := by
  intro pins s σ H x xs v us Q I rx rs h
  obtain ⟨G, dx, ds, P, sG, d1, da, hf, q⟩ := h
  unfold fUpper at hf
  split at hf
  · cases dp_str d1
    cases da
    exact mt_upper pins s σ H _ _ v us Q I rx rs ⟨_, rfl, rfl, hf.1, q _ _ G H hf.2 (Grow.refl sG) (.str _)⟩
  · exact hf.elim
theorem md_starts : MtR X "str.startswith" (rDM X.K fStarts) := by
  intro pins s σ H x xs v us Q I rx rs h
  obtain ⟨G, dx, ds, P, sG, d1, da, hf, q⟩ := h
  unfold fStarts at hf
  split at hf
  · cases dp_str d1
    obtain ⟨w, rfl, d⟩ := all1 da
    cases dp_str d
    exact mt_startswith pins s σ H _ _ v us Q I rx rs ⟨_, _, rfl, rfl, q _ _ G H hf (Grow.refl sG) (.bl _)⟩
  · exact hf.elim
end
/-! ### slices -/
abbrev MO := DEnv → (Option Int → DEnv → Prop) → Prop
def tDO (K : PySem.W.Frag) (n : Nat) (m : MO) : TO := fun σ H Q => ∃ (W : Wd) (B : Nat) (G0 H0 G : Hp) (env : DEnv) (P : Option Int → DEnv → Prop), Rel K W (B + n) G0 H0 G env σ H ∧ m env P ∧
  ∀ o env' G' H', P o env' → Same G G' → Rel K W B G0 H0 G' env' σ H' → Q o H'
def oNone : MO := fun env P => P none env
def oSome (m : ME) : MO := fun env P => m env fun x e1 => match x with
  | .int i => P (some i) e1
  | _ => False
def cutD (xs : List D) (lo hi : Option Int) : List D := (xs.drop (HT.sIx xs.length 0 lo)).take (HT.sIx xs.length xs.length hi - HT.sIx xs.length 0 lo)
def dSl : D → Option Int → Option Int → (D → Prop) → Prop
  | .str z, lo, hi, P => z.length ≤ sizeLine ∧ P (.str (cutS z lo hi))
  | .list xs, lo, hi, P => P (.list (cutD xs lo hi))
  | .tuple xs, lo, hi, P => P (.tuple (cutD xs lo hi))
  | _, _, _, _ => False
def mSl (f : D → Option Int → Option Int → (D → Prop) → Prop) (m : ME) (lo hi : MO) : ME := fun env P => m env fun x e1 => lo e1 fun l e2 => hi e2 fun h e3 => f x l h fun z => P z e3
def rDSl (K : PySem.W.Frag) (f : D → Option Int → Option Int → (D → Prop) → Prop) : V → Option Int → Option Int → Hp → VK → Prop := fun x lo hi H Q => ∃ (G : Hp) (dx : D) (P : D → Prop), Pub G H ∧ Dr K G x dx ∧ f dx lo hi P ∧
  ∀ z v G' H', P z → Grow G H G' H' → Dr K G' v z → Q v H'
theorem cut_v {K : PySem.W.Frag} {G : Hp} {vs : List V} {xs : List D} (h : DrAll K G vs xs) (lo hi : Option Int) : DrAll K G (cutV vs lo hi) (cutD xs lo hi) := by
  unfold cutV cutD
  rw [dpAll_len h]
  exact dpAll_take _ (dpAll_drop _ h)
section
variable {X : Cx} {e : Expr} {lo hi : Option Expr} {me : ME} {ml mh : MO} {pos p2 : Pos} {ne nl nh : Nat}
theorem po_imp {o : Option Expr} {t t' : TO} (h : PO X o t) (q : ∀ σ H Q, t' σ H Q → t σ H Q) : PO X o t' := ⟨fun pins s σ H Q I z => h.run pins s σ H Q I (q σ H Q z)⟩
theorem go_none : PO X none (tDO X.K 0 oNone) := po_imp po_none fun σ H Q h => by
  obtain ⟨W, B, G0, H0, G, env, P, R, hm, q⟩ := h
  exact q _ _ _ _ hm (Same.refl _) R
theorem go_some (he : GE X e ne me) : PO X (some e) (tDO X.K ne (oSome me)) := po_imp (po_some he) fun σ H Q h => by
  obtain ⟨W, B, G0, H0, G, env, P, R, hm, q⟩ := h
  refine ⟨W, B, G0, H0, G, env, _, R, hm, fun x e1 v G1 H1 p1 s1 R1 d1 => ?_⟩
  cases x with
  | int i =>
    cases dp_int d1
    exact ⟨i, rfl, q _ e1 G1 H1 p1 s1 R1⟩
  | _ => exact p1.elim
theorem sd_sl : SlR X (rDSl X.K dSl) := by
  intro pins s σ H x v vl vu lo hi sl Q I rx hs pl pu h
  obtain ⟨G, dx, P, sG, d1, hf, q⟩ := h
  unfold dSl at hf
  split at hf
  · cases dp_str d1
    exact sl_str pins s σ H _ v vl vu lo hi sl Q I rx hs pl pu ⟨_, rfl, hf.1, q _ _ G H hf.2 (Grow.refl sG) (.str _)⟩
  · obtain ⟨a, ws, rfl, h1, h2⟩ := dp_lst d1
    exact sl_list pins s σ H _ v vl vu lo hi sl Q I rx hs pl pu ⟨a, ws, rfl, SqL.of (sG.lst h1), fun p hp => q _ _ _ _ hf (Grow.new1 sG hp) (.lst upd_same (dpAll_same (same_upd (sG.free hp)) (cut_v h2 lo hi)))⟩
  · obtain ⟨a, ws, rfl, h1, h2⟩ := dp_tup d1
    refine sl_tupA pins s σ H _ v vl vu lo hi sl Q I rx hs pl pu ⟨a, ws, rfl, pub_sqT sG h1, fun e => ?_, fun _ p hp => q _ _ _ _ hf (Grow.new1 sG hp) (.tup (SqT.of upd_same) (dpAll_same (same_upd (sG.free hp)) (cut_v h2 lo hi)))⟩
    have e2 : cutD _ lo hi = _ := cut_all (xs := _) (by rw [← dpAll_len h2]; exact e)
    rw [e2] at hf
    exact q _ _ G H hf (Grow.refl sG) d1
  · exact hf.elim
where
  cut_all {xs : List D} {lo hi : Option Int} (h : HT.sIx xs.length 0 lo = 0 ∧ HT.sIx xs.length xs.length hi = xs.length) : cutD xs lo hi = xs := by
    unfold cutD
    rw [h.1, h.2]
    simp
theorem ge_slice {f : D → Option Int → Option Int → (D → Prop) → Prop} (hr : SlR X (rDSl X.K f)) (he : GE X e ne me) (hl : PO X lo (tDO X.K nl ml)) (hu : PO X hi (tDO X.K nh mh)) : GE X (.Subscript e (.Slice lo hi none p2) pos) (ne + (nl + nh)) (mSl f me ml mh) := pe_imp (pe_slice hr he hl hu) fun σ H Q h => by
  obtain ⟨W, B, G0, H0, G, env, P, R, hm, q⟩ := h
  refine ⟨W, B + (nl + nh), G0, H0, G, env, _, R.le (by omega), hm, fun x e1 v G1 H1 p1 s1 R1 d1 => ⟨W, B + nh, G0, H0, G1, e1, _, R1.le (by omega), p1, fun l e2 G2 H2 p2 s2 R2 => ⟨W, B, G0, H0, G2, e2, _, R2, p2, fun u e3 G3 H3 p3 s3 R3 => ?_⟩⟩⟩
  exact ⟨G3, x, _, R3.pub, dp_same (s2.trans s3) d1, p3, fun z w G4 H4 p4 g4 d4 => q z e3 w G4 H4 p4 (((s1.trans s2).trans s3).trans g4.eg) (R3.grow g4) d4⟩
/-- x[::-1] -/
def revS (z : Str) : Str := ⟨((Builtin.Str.strSliceIndices none none (-1) z.length).filterMap (z.cps[·]?)).toArray⟩
def dRev : D → (D → Prop) → Prop
  | .str z, P => (revS z).length ≤ sizeLine ∧ P (.str (revS z))
  | .list xs, P => P (.list xs.reverse)
  | _, _ => False
theorem pe_revS {k : Nat} {te : TE} {p1 p2 p3 : Pos} (he : PE X e te) : PE X (.Subscript e (.Slice none none (some (.UnaryOp .USub (.Constant (.int 1) k p1) p2)) p3) pos)
    (fun σ H Q => te σ H fun x H1 => ∃ z, x = .str z ∧ (revS z).length ≤ sizeLine ∧ Q (.str (revS z)) H1) := ⟨fun pins s σ H Q I h => by
  refine Subscript_ (thn (he.run pins s σ H _ I h) fun v s1 ⟨x, H1, I1, r1, z, ex, hz, q⟩ => ?_)
  subst ex
  obtain ⟨t, rfl⟩ := r1
  have part : PO X (some (.UnaryOp .USub (.Constant (.int 1) k p1) p2)) (tPart (tUn (rU fun i => .int (-i)) (tC (.int 1)))) := po_some (pe_un un_neg pe_int)
  refine wpAny_Slice (thn (po_none.run pins s1 σ H1 (fun o H2 => o = none ∧ H2 = H1) I1 ⟨rfl, rfl⟩) fun vl s2 ⟨l, H2, I2, pl, el, e2⟩ => ?_)
  subst el e2
  refine thn (po_none.run pins s2 σ H2 (fun o H3 => o = none ∧ H3 = H2) I2 ⟨rfl, rfl⟩) fun vu s3 ⟨u, H3, I3, pu, eu, e3⟩ => ?_
  subst eu e3
  refine thn (part.run pins s3 σ H3 (fun o H4 => o = some (-1) ∧ H4 = H3) I3 ⟨1, rfl, -1, rfl, rfl, rfl⟩) fun vs s4 ⟨o, H4, I4, ps, eo, e4⟩ => ?_
  subst eo e4
  obtain ⟨l', rfl, el'⟩ := IsPart.raw pl
  obtain ⟨u', rfl, eu'⟩ := IsPart.raw pu
  obtain ⟨w', rfl, ew'⟩ := IsPart.raw ps
  have I5 : Inv X pins σ H4 { s4 with heap := s4.heap.push { cls := .type "slice", data := .fields #[partValue l', partValue u', partValue w'] } } := I4.kept (t' := s4.toks) fun b ob q => Heap.get?_push_of_some _ q
  refine tail_any (T := "str") (ops := [.str z t, .ref s4.heap.objs.size]) (typeIs_str _ _ _) F.slot_str_getitem.lookup ?_ (by with_unfolding_all rfl)
  refine wpAny_getItem_str_slice (l := l') (u := u') (st := w') ⟨_, Heap.get?_push_size _ rfl, rfl, rfl⟩ ?_ ?_
  · rw [ew']
    rfl
  · have hl : l'.map (·.1) = none := el'
    have hu : u'.map (·.1) = none := eu'
    have hw : w'.map (·.1) = some (-1) := ew'
    unfold sliceMade slicePicked
    rw [hl, hu, hw]
    exact ⟨hz, .str _, H4, I5.tok _, ⟨_, rfl⟩, q⟩⟩
theorem pe_or2 {t1 t2 : TE} {m : ME} {n : Nat} {e1 : Expr} (h1 : PE X e1 t1) (h2 : PE X e1 t2) (q : ∀ σ H Q, tD X.K n m σ H Q → t1 σ H Q ∨ t2 σ H Q) : GE X e1 n m := ⟨fun pins s σ H Q I z => (q σ H Q z).elim (fun z => h1.run pins s σ H Q I z) fun z => h2.run pins s σ H Q I z⟩
/-- of a text -/
def dRevS : D → (D → Prop) → Prop
  | .str z, P => (revS z).length ≤ sizeLine ∧ P (.str (revS z))
  | _, _ => False
def dRevL : D → (D → Prop) → Prop
  | .list xs, P => P (.list xs.reverse)
  | _, _ => False
theorem ge_revS {k : Nat} {p1 p2 p3 : Pos} (he : GE X e ne me) : GE X (.Subscript e (.Slice none none (some (.UnaryOp .USub (.Constant (.int 1) k p1) p2)) p3) pos) ne (mUn dRevS me) := pe_imp (pe_revS he) fun σ H Q h => by
  obtain ⟨W, B, G0, H0, G, env, P, R, hm, q⟩ := h
  refine ⟨W, B, G0, H0, G, env, _, R, hm, fun x e1 v G1 H1 p1 s1 R1 d1 => ?_⟩
  cases x with
  | str z =>
    cases dp_str d1
    exact ⟨z, rfl, p1.1, q _ e1 _ G1 H1 p1.2 s1 R1 (.str _)⟩
  | _ => exact p1.elim
theorem ge_revL {k : Nat} {p1 p2 p3 : Pos} (he : GE X e ne me) : GE X (.Subscript e (.Slice none none (some (.UnaryOp .USub (.Constant (.int 1) k p1) p2)) p3) pos) ne (mUn dRevL me) := pe_imp (pe_revL he) fun σ H Q h => by
  obtain ⟨W, B, G0, H0, G, env, P, R, hm, q⟩ := h
  refine ⟨W, B, G0, H0, G, env, _, R, hm, fun x e1 v G1 H1 p1 s1 R1 d1 => ?_⟩
  cases x with
  | list xs =>
    obtain ⟨a, ws, rfl, h1, h2⟩ := dp_lst d1
    refine ⟨a, ws, rfl, SqL.of (R1.pub.lst h1), fun p hp => ?_⟩
    have g := Grow.new1 (o := .lst ws.reverse) R1.pub hp
    exact q _ e1 _ _ _ p1 (s1.trans g.eg) (R1.grow g) (.lst upd_same (dpAll_same g.eg (dpAll_rev h2)))
  | _ => exact p1.elim
end
end DL
namespace DL
open PySem PySem.Spec PyProof.Rows L2
/-! ### bits -/
def Bt (b : Nat) (i : Int) : Prop := i.natAbs < 2 ^ b
theorem Bt.add {a b c : Nat} {i j : Int} (h : Bt a i) (k : Bt b j) (ha : a + 1 ≤ c) (hb : b + 1 ≤ c) : Bt c (i + j) := by
  unfold Bt at *
  have h1 : 2 ^ a * 2 ≤ 2 ^ c := by rw [← Nat.pow_succ]; exact Nat.pow_le_pow_right (by decide) ha
  have h2 : 2 ^ b * 2 ≤ 2 ^ c := by rw [← Nat.pow_succ]; exact Nat.pow_le_pow_right (by decide) hb
  omega
theorem Bt.mul {a b : Nat} {i j : Int} (h : Bt a i) (k : Bt b j) : Bt (a + b) (i * j) := by
  unfold Bt at *
  rw [Int.natAbs_mul, Nat.pow_add]
  exact Nat.mul_lt_mul'' h k
theorem Bt.mono {a b : Nat} {i : Int} (h : Bt a i) (l : a ≤ b) : Bt b i := Nat.lt_of_lt_of_le h (Nat.pow_le_pow_right (by decide) l)
theorem Bt.mulx {a b : Nat} {i j : Int} (h : Bt a i) (k : Bt b j) (l : a + b ≤ 134217728) : CMulX i j := mulx_ok h k l
theorem ct_bits {i : Int} {B : Nat} (h0 : 0 ≤ i) (h : i + (B : Int) ≤ (ctMax : Int)) : Bt 100001 i := by
  unfold Bt
  have e : ctMax = 2 ^ 100000 := by unfold ctMax; rfl
  have l : (2 : Nat) ^ 100001 = 2 ^ 100000 * 2 := Nat.pow_succ 2 100000
  rw [l, ← e]
  have p : 0 < ctMax := by rw [e]; exact Nat.two_pow_pos _
  omega
theorem bigM_bits {i : Int} (h0 : 0 ≤ i) (h : i < bigM) : Bt 127 i := by
  unfold Bt bigM at *
  have : (170141183460469231731687303715884105727 : Int) ≤ 2 ^ 127 := by decide
  omega
/-! ### the deck's dict -/
theorem key_cs : ¬ ((Sum.inr ("cells" : Str) : Key) = Sum.inr ("seed" : Str)) := by decide +kernel
theorem key_ca : ¬ ((Sum.inr ("cells" : Str) : Key) = Sum.inr ("at" : Str)) := by decide +kernel
theorem key_sa : ¬ ((Sum.inr ("seed" : Str) : Key) = Sum.inr ("at" : Str)) := by decide +kernel
theorem deck_cells (c : Addr) (seed ct : Int) : valV (deckKv c seed ct) (Sum.inr ("cells" : Str)) = some (.ref c) := valV_pos rfl
theorem deck_seed (c : Addr) (seed ct : Int) : valV (deckKv c seed ct) (Sum.inr ("seed" : Str)) = some (.int seed) := by
  unfold deckKv
  rw [valV_neg key_cs, valV_pos rfl]
theorem deck_at (c : Addr) (seed ct : Int) : valV (deckKv c seed ct) (Sum.inr ("at" : Str)) = some (.int ct) := by
  unfold deckKv
  rw [valV_neg key_ca, valV_neg key_sa, valV_pos rfl]
theorem deck_put (c : Addr) (seed ct ct' : Int) : putK (deckKv c seed ct) (Sum.inr ("at" : Str)) (.int ct') = deckKv c seed ct' := by
  unfold putK
  rw [valV_any, deck_at]
  rw [if_pos (show (some (V.int ct)).isSome = true from rfl)]
  unfold deckKv
  simp only [List.map_cons, List.map_nil, if_neg key_ca, if_neg key_sa, if_true]
theorem get_at {H : Hp} {dk c : Addr} {seed ct : Int} (h : H dk = some (.dK (deckKv c seed ct))) : DGet H dk (.str "at") (some (.int ct)) := by
  have := DGet.k (k := Sum.inr ("at" : Str)) h
  rw [deck_at] at this
  exact this
theorem get_seed {H : Hp} {dk c : Addr} {seed ct : Int} (h : H dk = some (.dK (deckKv c seed ct))) : DGet H dk (.str "seed") (some (.int seed)) := by
  have := DGet.k (k := Sum.inr ("seed" : Str)) h
  rw [deck_seed] at this
  exact this
theorem get_cells {H : Hp} {dk c : Addr} {seed ct : Int} (h : H dk = some (.dK (deckKv c seed ct))) : DGet H dk (.str "cells") (some (.ref c)) := by
  have := DGet.k (k := Sum.inr ("cells" : Str)) h
  rw [deck_cells] at this
  exact this
theorem dp_ints {K : PySem.W.Frag} {H : Hp} : ∀ ns : List Int, DpAll K H (ns.map V.int) (ns.map PyData.int)
  | [] => .nil
  | n :: r => .cons (.int n) (dp_ints r)
theorem shaped_ints (ns : List Int) : SeqAt.shaped (.list (ns.map PyData.int)) = true := by
  have h1 : PyData.canLayAll0 (ns.map PyData.int) = true := by
    induction ns with
    | nil => rfl
    | cons n r ih => rw [List.map_cons, PyData.canLayAll0, ih]; rfl
  have h2 : PyData.depthAll (ns.map PyData.int) = 0 := by
    induction ns with
    | nil => rfl
    | cons n r ih => 
      have := ih (by
        rw [List.map_cons, PyData.canLayAll0, Bool.and_eq_true] at h1
        exact h1.2)
      rw [List.map_cons, PyData.depthAll, this]
      rfl
  unfold SeqAt.shaped
  rw [PyData.canLay0, h1, PyData.depth, h2]
  rfl
/-! ### a draw -/
def spDraw : List EV → (D → Prop) → Prop := fun as P => ∃ n : Int, as = [.hd, .d (.int n)] ∧ 0 < n ∧ n < 2 ^ 64 ∧ ∀ r : Int, 0 ≤ r → r < n → P (.int r)
abbrev rMulX : R2 := rI CMulX fun i j => .int (i * j)
abbrev rModP : R2 := rI (fun _ j => 0 < j) fun i j => .int (i % j)
abbrev rAddI : R2 := rI0 fun i j => .int (i + j)
def tDraw (K : PySem.W.Frag) : TS :=
  tSeq (sDPut (tVar 0) (tC (.str "at")) (tOp rAddI (tDGet (tVar 0) (tC (.str "at"))) (tC (.int 1))))
  (tSeq (tAsg (tDGet (tVar 0) (tC (.str "at"))) (gName 2))
  (tSeq (tAsg (tOp rAddI (tDGet (tVar 0) (tC (.str "seed"))) (tOp rMulX (tOp rMulX (tC (.int 7919)) (tVar 2)) (tVar 2))) (gName 3))
  (tSeq (tIfS (tTest (tOp (rNeD K) (tDGet (tVar 0) (tC (.str "cells"))) (tLst tNil)))
    (tSeq (tAsg (tBM0 K "list" rPop (tDGet (tVar 0) (tC (.str "cells")))) (gName 4))
    (tSeq (tIfS (tTest (tOp (rI0 fun i j => .bl (decide (j ≤ i))) (tVar 4) (tOp (rI CPow fun i j => .int (i ^ j.toNat)) (tC (.int 10)) (tC (.int 18)))))
      (tSeq (tDrop (tBM K "list" rAppend (tDGet (tVar 0) (tC (.str "cells"))) (tCons (tOp (rI CDivW fun i j => .int (i / j)) (tVar 4) (tVar 1)) tNil)))
        (tRet (tOp rModP (tVar 4) (tVar 1)))) tNext)
    (tAsg (tOp rAddI (tVar 3) (tOp rMulX (tC (.int 69621)) (tVar 4))) (gName 3)))) tNext)
  (tSeq (tAsg (tOp rModP (tOp rMulX (tVar 3) (tOp rAddI (tVar 3) (tOp rMulX (tC (.int 48271)) (tVar 2)))) (tC (.int 170141183460469231731687303715884105727))) (gName 3))
  (tSeq (tAsg (tOp rModP (tOp rAddI (tOp rMulX (tVar 3) (tVar 3)) (tOp rMulX (tC (.int 104729)) (tVar 2))) (tC (.int 170141183460469231731687303715884105727))) (gName 3))
  (tRet (tOp rModP (tOp (rI CDiv fun i j => .int (i / j)) (tVar 3) (tC (.int 1048576))) (tVar 1))))))))
/-- the deck behind a draw -/
theorem deck_rw {dk c : Addr} {B : Nat} {G H H' : Hp} {cells : List Int} {seed ct : Int} (r : RW (.of (some (dk, c))) (B + 1) G H G H) (ne : dk ≠ c) (h1 : H' dk = some (.dK (deckKv c seed ct))) (h2 : H' c = some (.lst (cells.map V.int))) (h3 : cells.length ≤ 63)
    (h4 : ∀ z ∈ cells, Builtin.Int.intBits z ≤ 1048576) (h5 : 0 ≤ seed) (h6 : seed < bigM) (h7 : 0 ≤ ct) (h8 : ct + (B : Int) ≤ (ctMax : Int)) (hf : ∀ a o, H a = some o → a ≠ dk → a ≠ c → H' a = some o) : RW (.of (some (dk, c))) B G H G H' where
  g0 := Same.refl _
  pub := fun a o e => by
    have hH := r.pub a o e
    have n1 : a ≠ dk := fun z => by
      subst z
      rw [r.gm a (.inl (.inl rfl))] at e
      cases e
    have n2 : a ≠ c := fun z => by
      subst z
      rw [r.gm a (.inl (.inr rfl))] at e
      cases e
    exact hf a o hH n1 n2
  gm := r.gm
  inv := of_inv.mpr ⟨ne, cells, seed, ct, h1, h2, h3, h4, h5, h6, h7, h8⟩
  fr := fun a o e m => hf a o e (fun z => m (.inl (.inl z))) fun z => m (.inl (.inr z))
  pn := fun a o e e0 => by rw [e] at e0; cases e0
theorem draw_end {x n : Int} (n0 : 0 < n) : 0 ≤ x % n ∧ x % n < n := ⟨Int.emod_nonneg _ (by omega), Int.emod_lt_of_pos _ n0⟩
theorem bits_of {z : Int} {k : Nat} (h : Builtin.Int.intBits z ≤ k) : Bt k z := Nat.lt_of_lt_of_le (PyProof.Rows.natAbs_lt_pow_bits z) (Nat.pow_le_pow_right (by decide) h)
/-- from the mixing on -/
theorem draw_mix {D : Ends} {dk : Addr} {n ct mx : Int} {o4 : Option V} {H : Hp} (n0 : 0 < n) (hb : Bt 100001 ct) (hm : Bt 1250000 mx) (q : ∀ r : Int, 0 ≤ r → r < n → D.rt (.int r) H) :
    (tSeq (tAsg (tOp rModP (tOp rMulX (tVar 3) (tOp rAddI (tVar 3) (tOp rMulX (tC (.int 48271)) (tVar 2)))) (tC (.int 170141183460469231731687303715884105727))) (gName 3))
    (tSeq (tAsg (tOp rModP (tOp rAddI (tOp rMulX (tVar 3) (tVar 3)) (tOp rMulX (tC (.int 104729)) (tVar 2))) (tC (.int 170141183460469231731687303715884105727))) (gName 3))
    (tRet (tOp rModP (tOp (rI CDiv fun i j => .int (i / j)) (tVar 3) (tC (.int 1048576))) (tVar 1))))) D [some (.ref dk), some (.int n), some (.int ct), some (.int mx), o4] H := by
  have c1 : Bt 17 48271 := by unfold Bt; decide
  have c2 : Bt 17 104729 := by unfold Bt; decide
  have hs : Bt 1250001 (mx + 48271 * ct) := hm.add (c1.mul hb) (by omega) (by omega)
  have hM : ∀ x : Int, Bt 127 (x % 170141183460469231731687303715884105727) := fun x => bigM_bits (draw_end (by decide)).1 (draw_end (by decide)).2
  refine ⟨_, rfl, _, rfl, _, rfl, _, _, rfl, rfl, c1.mulx hb (by omega), _, _, rfl, rfl, _, _, rfl, rfl, hm.mulx hs (by omega), _, _, rfl, rfl, (show (0 : Int) < 170141183460469231731687303715884105727 by decide), ?_⟩
  refine ⟨_, rfl, _, rfl, _, _, rfl, rfl, (hM _).mulx (hM _) (by omega), _, rfl, _, _, rfl, rfl, c2.mulx hb (by omega), _, _, rfl, rfl, _, _, rfl, rfl, (show (0 : Int) < 170141183460469231731687303715884105727 by decide), ?_⟩
  refine ⟨_, rfl, _, _, rfl, rfl, ⟨by decide, by decide⟩, _, rfl, _, _, rfl, rfl, n0, ?_⟩
  exact q _ (draw_end n0).1 (draw_end n0).2
theorem draw_reads {K : PySem.W.Frag} {W : Wk} {B : Nat} {G H : Hp} {vs : List V} {n : Int} {Pd : PyData → Prop} {Q : VK} {nx : L2.St → Hp → Prop} (r : RW (.of W) (B + 1) G H G H) (a : ArgsOk K W G vs [.hd, .d (.int n)]) (n0 : 0 < n) (n1 : n < 2 ^ 64)
    (hP : ∀ r : Int, 0 ≤ r → r < n → Pd (.int r)) (q : ∀ x v G' H', Pd x → RW (.of W) B G H G' H' → Dr K G' v x → Q v H') : tDraw K { nx := nx, rt := Q } (vs.map some ++ [none, none, none]) H := by
  cases a with
  | cons a1 a2 =>
    cases a2 with
    | cons a2 a3 =>
      cases a3
      obtain ⟨rfl, nn⟩ := a1
      cases dp_int a2
      cases W with
      | none => exact absurd rfl nn
      | some p =>
        obtain ⟨dk, c⟩ := p
        obtain ⟨ne, cells, seed, ct, h1, h2, h3, h4, h5, h6, h7, h8⟩ := r.inv.1
        have h8' : (ct + 1) + (B : Int) ≤ (ctMax : Int) := by omega
        have hb : Bt 100001 (ct + 1) := ct_bits (by omega) h8'
        have c0 : Bt 13 7919 := by unfold Bt; decide
        have b1 : Bt 100014 (7919 * (ct + 1)) := (c0.mul hb).mono (by omega)
        have b2 : Bt 200015 (7919 * (ct + 1) * (ct + 1)) := (b1.mul hb).mono (by omega)
        have b3 : Bt 200016 (seed + 7919 * (ct + 1) * (ct + 1)) := (bigM_bits h5 h6).add b2 (by omega) (by omega)
        -- at = at + 1
        show tDraw K { nx := nx, rt := Q } [some (.ref dk), some (.int n), none, none, none] H
        refine ⟨_, rfl, dk, _, rfl, get_at h1, _, _, rfl, rfl, _, rfl, dk, _, rfl, DPut.k (k := Sum.inr ("at" : Str)) h1 (show (3 : Nat) < sizeLine by decide), ?_⟩
        rw [deck_put]
        generalize hH1 : upd H dk (.dK (deckKv c seed (ct + 1))) = H1
        have g1 : H1 dk = some (.dK (deckKv c seed (ct + 1))) := by rw [← hH1]; exact upd_same
        have g2 : H1 c = some (.lst (cells.map V.int)) := by rw [← hH1, upd_ne ne.symm]; exact h2
        have g3 : ∀ a o, H a = some o → a ≠ dk → a ≠ c → H1 a = some o := fun a o e z _ => by rw [← hH1, upd_ne z]; exact e
        refine ⟨_, rfl, dk, _, rfl, get_at g1, ?_⟩
        refine ⟨_, rfl, dk, _, rfl, get_seed g1, _, rfl, _, _, rfl, rfl, c0.mulx hb (by omega), _, rfl, _, _, rfl, rfl, b1.mulx hb (by omega), _, _, rfl, rfl, ?_⟩
        -- the cells
        refine ⟨_, rfl, dk, _, rfl, get_cells g1, Nat.zero_le _, fun l hl => ?_⟩
        have nl : ∀ b o, H1 b = some o → upd H1 l (.lst []) b = some o := same_upd hl
        have k1 := nl _ _ g1
        have k2 := nl _ _ g2
        have k3 : ∀ a o, H a = some o → a ≠ dk → a ≠ c → upd H1 l (.lst []) a = some o := fun a o e z1 z2 => nl _ _ (g3 a o e z1 z2)
        refine ⟨.list (cells.map PyData.int), .list [], .lst (SqL.of k2) (dp_ints cells), .lst (SqL.of upd_same) .nil, shaped_ints cells, rfl, _, rfl, ?_⟩
        generalize hH2 : upd H1 l (.lst []) = H2 at *
        by_cases hc : cells = []
        · subst hc
          refine iteF ?_
          refine draw_mix (ct := ct + 1) n0 hb (b3.mono (by omega)) fun r1 r2 r3 => ?_
          exact q _ _ G H2 (hP r1 r2 r3) (deck_rw (cells := []) r ne k1 k2 (by decide) (fun z hz => by cases hz) h5 h6 (by omega) h8' k3) (.int _)
        · obtain ⟨pre, z, rfl⟩ : ∃ pre z, cells = pre ++ [z] := ⟨cells.dropLast, cells.getLast hc, (List.dropLast_concat_getLast hc).symm⟩
          have ev : PyData.eqv (.list ((pre ++ [z]).map PyData.int)) (.list []) = false := by
            cases pre <;> rfl
          rw [ev]
          refine iteT ?_
          have hz : Bt 1048576 z := bits_of (h4 z (by simp))
          -- pop
          have pop : ((pre ++ [z]).map V.int)[((pre ++ [z]).map V.int).length - 1]? = some (.int z) := by
            rw [List.map_append]
            simp
          refine ⟨_, rfl, dk, _, rfl, get_cells k1, .inl ⟨rfl, _, SqL.of k2⟩, c, _, _, rfl, rfl, k2, pop, ?_⟩
          have dl : ((pre ++ [z]).map V.int).dropLast = pre.map V.int := by rw [List.map_append]; simp
          rw [dl]
          generalize hH3 : upd H2 c (.lst (pre.map V.int)) = H3
          have m1 : H3 dk = some (.dK (deckKv c seed (ct + 1))) := by rw [← hH3, upd_ne ne]; exact k1
          have m2 : H3 c = some (.lst (pre.map V.int)) := by rw [← hH3]; exact upd_same
          have m3 : ∀ a o, H a = some o → a ≠ dk → a ≠ c → H3 a = some o := fun a o e z1 z2 => by rw [← hH3, upd_ne z2]; exact k3 a o e z1 z2
          have lp : pre.length ≤ 63 := by
            rw [List.length_append] at h3
            omega
          have hp : ∀ y ∈ pre, Builtin.Int.intBits y ≤ 1048576 := fun y hy => h4 y (List.mem_append_left _ hy)
          refine ⟨_, rfl, _, _, rfl, rfl, ⟨by decide, by decide, by decide⟩, _, _, rfl, rfl, _, rfl, ite2 (fun e => ?_) (fun e => ?_)⟩
          · have big : (10 : Int) ^ (18 : Int).toNat ≤ z := of_decide_eq_true e
            have z0 : 0 ≤ z := Int.le_trans (by decide) big
            have bn : n.natAbs < 2 ^ 64 := by omega
            refine ⟨_, rfl, dk, _, rfl, get_cells m1, .inl ⟨rfl, _, SqL.of m2⟩, _, rfl, _, rfl, _, _, rfl, rfl, wide_div n0 bn (by decide) (by decide), c, _, _, rfl, rfl, m2, ?_, ?_⟩
            · rw [List.length_map]
              exact small1000 (by omega)
            · refine ⟨_, rfl, _, rfl, _, _, rfl, rfl, n0, ?_⟩
              have el : pre.map V.int ++ [V.int (z / n)] = (pre ++ [z / n]).map V.int := by rw [List.map_append]; rfl
              rw [el]
              have qz : Builtin.Int.intBits (z / n) ≤ 1048576 := by
                refine PyProof.Rows.intBits_le (Nat.lt_of_le_of_lt ?_ hz)
                have h0 : 0 ≤ z / n := Int.ediv_nonneg z0 (by omega)
                have h1 : z / n ≤ z := Int.ediv_le_self _ z0
                omega
              refine q _ _ G _ (hP _ (draw_end n0).1 (draw_end n0).2) (deck_rw (cells := pre ++ [z / n]) r ne ?_ upd_same (by rw [List.length_append] at h3 ⊢; exact h3) ?_ h5 h6 (by omega) h8' fun a o e z1 z2 => ?_) (.int _)
              · rw [upd_ne ne]
                exact m1
              · intro y hy
                rcases List.mem_append.mp hy with hy | hy
                · exact hp y hy
                · cases List.mem_singleton.mp hy
                  exact qz
              · rw [upd_ne z2]
                exact m3 a o e z1 z2
          · have c3 : Bt 17 69621 := by unfold Bt; decide
            have b4 : Bt 1048593 (69621 * z) := (c3.mul hz).mono (by omega)
            refine ⟨_, rfl, _, rfl, _, _, rfl, rfl, c3.mulx hz (by omega), _, _, rfl, rfl, ?_⟩
            refine draw_mix (ct := ct + 1) n0 hb ((b3.add b4 (by omega : 200016 + 1 ≤ 1048594) (by omega)).mono (by omega)) fun r1 r2 r3 => ?_
            exact q _ _ G H3 (hP r1 r2 r3) (deck_rw (cells := pre) r ne m1 m2 lp hp h5 h6 (by omega) h8' m3) (.int _)
end DL
namespace DL
open PySem PySem.Spec PyProof.Rows L2
/-! ### the deck made -/
def spDeck (K : PySem.W.Frag) : Sp := fun vs H Q _ => ∃ (a : Addr) (ns : List Int), vs = [.ref a] ∧ SqL K H a (ns.map V.int) ∧ ns.length ≤ 63 ∧ (∀ z ∈ ns, Builtin.Int.intBits z ≤ 1048576) ∧
  ∀ H' dk c, Same H H' → H dk = none → H c = none → deckInv dk c ctMax H' → Q (.ref dk) H'
def tDeck (K : PySem.W.Frag) (rList rLen : List V → Hp → VK → Prop) : TS :=
  tSeq (tAsg (tCB rList (tCons (tSl (rSlL K) (tVar 0) tNoPart (tPart (tC (.int 63)))) tNil)) (gName 1))
  (tSeq (tAsg (tOp rAddI (tC (.int 104729)) (tCB rLen (tCons (tVar 1) tNil))) (gName 2))
  (tSeq (tFor (iList K (tVar 1)) (gName 3) (tAsg (tOp rModP (tOp rAddI (tOp rMulX (tVar 2) (tC (.int 1000003))) (tVar 3)) (tC (.int 170141183460469231731687303715884105727))) (gName 2)))
  (tRet (tDisp [(tC (.str "cells"), tRevL K (tVar 1)), (tC (.str "seed"), tVar 2), (tC (.str "at"), tC (.int 0))]))))
theorem cut63 (ns : List Int) : ∃ ms : List Int, cutV (ns.map V.int) none (some 63) = ms.map V.int ∧ ms.length ≤ 63 ∧ ∀ z ∈ ms, z ∈ ns := by
  refine ⟨(ns.drop (HT.sIx ns.length 0 none)).take (HT.sIx ns.length ns.length (some 63) - HT.sIx ns.length 0 none), ?_, ?_, fun z hz => ?_⟩
  · unfold cutV
    rw [List.length_map, ← List.map_drop, ← List.map_take]
  · rw [List.length_take]
    have h1 : HT.sIx ns.length ns.length (some 63) = min 63 ns.length := HT.sIx_nat ns.length ns.length 63
    rw [h1]
    omega
  · exact List.mem_of_mem_drop (List.mem_of_mem_take hz)
theorem deck_reads {K : PySem.W.Frag} {vs : List V} {H : Hp} {Q : VK} {E : XK} {nx : L2.St → Hp → Prop} (h : spDeck K vs H Q E) :
    tDeck K (fun xs H Q => ∃ p ys, xs = [.ref p] ∧ (SqL K H p ys ∨ SqT K H p ys) ∧ ∀ l, H l = none → Q (.ref l) (upd H l (.lst ys))) (fun xs H Q => ∃ p ys, xs = [.ref p] ∧ (SqL K H p ys ∨ SqT K H p ys) ∧ Q (.int ys.length) H)
      { nx := nx, rt := Q } (vs.map some ++ [none, none, none]) H := by
  obtain ⟨a, ns, rfl, hS, hl, hb, q⟩ := h
  obtain ⟨ms, e1, l1, b1⟩ := cut63 ns
  have hb2 : ∀ z ∈ ms, Builtin.Int.intBits z ≤ 1048576 := fun z hz => hb z (b1 z hz)
  refine ⟨_, rfl, _, rfl, a, _, rfl, hS, fun p1 n1 => ⟨p1, _, rfl, .inl (SqL.of upd_same), fun c0 n2 => ?_⟩⟩
  rw [e1] at n2 ⊢
  have s2 : Same H (upd (upd H p1 (.lst (ms.map V.int))) c0 (.lst (ms.map V.int))) := (same_upd n1).trans (same_upd n2)
  have hH0 : (upd (upd H p1 (.lst (ms.map V.int))) c0 (.lst (ms.map V.int))) c0 = some (.lst (ms.map V.int)) := upd_same
  generalize upd (upd H p1 (.lst (ms.map V.int))) c0 (.lst (ms.map V.int)) = H1 at *
  refine ⟨_, rfl, c0, _, rfl, .inl (SqL.of hH0), _, _, rfl, rfl, ?_⟩
  refine ⟨_, rfl, c0, rfl, ⟨_, SqL.of hH0⟩, ?_⟩
  refine for_list (xs := ms.map V.int) (fun _ σ H' => H' = H1 ∧ ∃ (seed : Int) (o : Option V), σ = [some (.ref a), some (.ref c0), some (.int seed), o] ∧ 0 ≤ seed ∧ seed < bigM) ⟨rfl, _, none, rfl, ?_, ?_⟩ (fun i σ H' _ p => by rw [p.1]; exact SqL.of hH0) (fun i x σ H' hx p => ?_) (fun σ H' p => ?_)
  · rw [List.length_map]
    omega
  · rw [List.length_map]
    unfold bigM
    omega
  · obtain ⟨rfl, seed, o, rfl, h0, h1⟩ := p
    rw [List.getElem?_map] at hx
    obtain ⟨z, hz, rfl⟩ := Option.map_eq_some_iff.mp hx
    have bz : Bt 1048576 z := bits_of (hb2 z (List.mem_of_getElem? hz))
    have c1 : Bt 20 1000003 := by unfold Bt; decide
    refine ⟨_, rfl, _, _, rfl, rfl, (bigM_bits h0 h1).mulx c1 (by omega), _, rfl, _, _, rfl, rfl, _, _, rfl, rfl, (show (0 : Int) < 170141183460469231731687303715884105727 by decide), rfl, _, _, rfl, ?_⟩
    exact draw_end (by decide)
  · obtain ⟨rfl, seed, o, rfl, h0, h1⟩ := p
    intro dk nd
    refine ⟨_, rfl, c0, _, rfl, SqL.of ((same_upd nd) _ _ hH0), fun c nc => ⟨_, rfl, ?_⟩⟩
    have ne : dk ≠ c := fun z => by
      subst z
      rw [upd_same] at nc
      cases nc
    have ncH : H' c = none := (same_upd nd).free nc
    refine ⟨by rw [upd_ne ne]; exact upd_same, [(Sum.inr "cells", .ref c), (Sum.inr "seed", .int seed), (Sum.inr "at", .int 0)], rfl, (show (3 : Nat) ≤ 15 by decide), ?_⟩
    have mk : mergeK [] [(Sum.inr ("cells" : Str), V.ref c), (Sum.inr ("seed" : Str), .int seed), (Sum.inr ("at" : Str), .int 0)] = deckKv c seed 0 := by
      unfold mergeK
      rw [List.foldl_cons, List.foldl_cons, List.foldl_cons, List.foldl_nil]
      rw [putK_new _ (show valV ([] : List (Key × V)) (Sum.inr ("cells" : Str)) = none from rfl)]
      rw [putK_new _ (show valV ([] ++ [((Sum.inr ("cells" : Str) : Key), V.ref c)]) (Sum.inr ("seed" : Str)) = none by rw [List.nil_append, valV_neg key_cs]; rfl)]
      rw [putK_new _ (show valV ([] ++ [((Sum.inr ("cells" : Str) : Key), V.ref c)] ++ [(Sum.inr ("seed" : Str), .int seed)]) (Sum.inr ("at" : Str)) = none by
        rw [List.nil_append]
        show valV [((Sum.inr ("cells" : Str) : Key), V.ref c), (Sum.inr ("seed" : Str), .int seed)] (Sum.inr ("at" : Str)) = none
        rw [valV_neg key_ca, valV_neg key_sa]
        rfl)]
      rfl
    rw [mk]
    refine q _ dk c ?_ (s2.free nd) (s2.free ncH) ⟨ne, ms.reverse, seed, 0, upd_same, ?_, by rw [List.length_reverse]; exact l1, fun z hz => hb2 z (List.mem_reverse.mp hz), h0, h1, Int.le_refl 0, by omega⟩
    · intro b u e
      have e2 := s2 b u e
      have n1 : b ≠ dk := ne_of_none e2 nd
      have n2 : b ≠ c := ne_of_none e2 ncH
      rw [upd_ne n1, upd_ne n2, upd_ne n1]
      exact e2
    · rw [upd_ne ne.symm, upd_same, List.map_reverse]
end DL
namespace DL
open PySem PySem.Spec PyProof.Rows L2
/-! ### calls by keywords alone, in the parameters' order -/
structure CalK (P : Program) (w : World) (K : PySem.W.Frag) (mg : Str → Option Value) (base : Heap) (x : Str) (k : Nat) (ps : List Str) (c : Nat) (sp : List EV → (D → Prop) → Prop) : Prop where
  ex : ∃ f fd, FnG P w K mg base CX0 k f fd ps (spD K c sp) ∧ mg x = some (.ref f) ∧ PySem.W.keepIn K (.ref f) = true ∧ ∀ (s : Shared) (us : List Value), us.length = ps.length → BindsTo s fd ⟨[], ps.zip us⟩ (ps.zip us)
abbrev GK (X : Cx) (kws : List Keyword) (n : Nat) (m : MA) : Prop := PK X kws (tA X.K n m)
theorem pk_imp {X : Cx} {kws : List Keyword} {t t' : TA} (h : PK X kws t) (q : ∀ σ H Q, t' σ H Q → t σ H Q) : PK X kws t' := ⟨fun p pins s σ H Q I z => h.run p pins s σ H Q I (q σ H Q z)⟩
section
variable {X : Cx} {k c : Nat} {ps : List Str} {sp : List EV → (D → Prop) → Prop} {x : Str} {p pos kpos : Pos} {e : Expr} {kws : List Keyword} {m1 : MA} {me : ME} {n1 ne : Nat} {nm : Option Str}
theorem gk_nil : GK X [] 0 mNil := pk_imp pk_nil fun σ H Q h => by
  obtain ⟨W, B, G0, H0, G, env, P, R, hm, q⟩ := h
  exact q _ _ _ _ _ hm (Same.refl _) R .nil
theorem gk_cons (ha : GE X e ne me) (hr : GK X kws n1 m1) : GK X (⟨nm, e, kpos⟩ :: kws) (ne + n1) (mCons me m1) := pk_imp (pk_cons ha hr) fun σ H Q h => by
  obtain ⟨W, B, G0, H0, G, env, P, R, hm, q⟩ := h
  refine ⟨W, B + n1, G0, H0, G, env, _, R.le (by omega), hm, fun x e1 v G1 H1 p1 s1 R1 d1 => ⟨W, _, G0, H0, G1, e1, _, R1, p1, fun as e2 vs G2 H2 p2 s2 R2 d2 => ?_⟩⟩
  exact q _ e2 _ G2 H2 p2 (s1.trans s2) R2 (.cons (a := .d x) (dp_same s2 d1) d2)
theorem ge_calK (C : CalK X.prog X.w X.K X.mg X.base x k ps c sp) (r : Rm k X.A) (hg : Gl X x) (hkw : GK X kws n1 m1)
    (hall : (backToKw pos (keywordEach kws X.env)).all (·.1.isSome) = true := by rfl) (hks : (backToKw pos (keywordEach kws X.env)).filterMap (·.1) = ps := by rfl) (hdb : (x == ("__debug__" : Str)) = false := by decide)
    (hpl : ((backTo pos (starEach [] X.env)).any (·.1) || (backToKw pos (keywordEach kws X.env)).any (·.1.isNone)) = false := by rfl) : GE X (.Call (.Name x p) [] kws pos) (n1 + c) (mCall sp m1) := by
  obtain ⟨f, fd, F, hm, hk, hb⟩ := C.ex
  refine ⟨fun pins s σ H Q I h => wpAny_Call_Name_kw (ld_glob I hg hm (PySem.W.callWith_KW0 (h₀ := X.base) I.ok.mod.kin hk hall ?_ hpl) hdb)⟩
  have h1 : tCall (spD X.K c sp) [] E0 (tA X.K n1 m1) σ H Q := call_ok h
  refine thn (hkw.run pos pins s σ H _ I h1) fun us s1 ⟨vs, H1, I1, rv, q⟩ => ⟨I1.kIn, ?_⟩
  rw [hks]
  replace q : spD X.K c sp (vs ++ []) H1 Q E0 := q
  rw [List.append_nil] at q
  have n : us.length = ps.length := rv.length.symm.trans (F.len _ _ _ _ q)
  have run := F.run X.A X.stack s1 H1 ⟨[], ps.zip us⟩ us vs Q E0 r I1.env0 (hb s1 us n) rv q
  refine wpAny_call (codeAny_mono run fun res s' z => ?_)
  rcases res with err | fl
  · exact z.elim
  · cases fl with
    | ret u => exact I1.after z
    | next => exact z.elim
    | brk => exact z.elim
    | cont => exact z.elim
end
end DL
namespace DL
open PySem PySem.Spec PyProof.Rows L2
/-! ### list(text), {} -/
def strV (z : Str) : List V := z.cps.toList.map fun c => .str ⟨#[c]⟩
theorem dr_signs {K : PySem.W.Frag} {G : Hp} (z : Str) : DrAll K G (strV z) (strD z) := by
  unfold strV strD
  induction z.cps.toList with
  | nil => exact .nil
  | cons c r ih => exact .cons (.str _) ih
def dListS : List D → (D → Prop) → Prop
  | [.str z], P => z.cps.size ≤ sizeLine ∧ P (.list (strD z))
  | _, _ => False
section
variable {X : Cx}
theorem cd_listS (hc : X.calm = true) : CallR X (.type "list") (rDC X.K dListS) := by
  intro pins s σ H xs us Q I r h
  obtain ⟨G, ds, P, sG, da, hf, q⟩ := h
  unfold dListS at hf
  split at hf
  · rename_i z
    obtain ⟨v, rfl, d⟩ := all1 da
    cases dp_str d
    obtain ⟨u, rfl, ru⟩ := vals1 r
    obtain ⟨t, rfl⟩ := ru
    refine call_list_str (I.ok.hd hc) z t (fun h' tk acc cc hk hS hacc => ?_) hf.1
    have hn : H s.heap.objs.size = none := I.hok.fresh (Nat.le_refl _)
    have hlen : (strV z).length = acc.toList.length := by
      rw [strV, List.length_map, Array.length_toList, Array.length_toList, hacc.1]
    have rel : Vals (strV z) acc.toList := vals_of_at hlen fun j x u h1 h2 => by
      have e2 : acc[j]? = some u := by rw [← h2, Array.getElem?_toList]
      obtain ⟨cd, tk2, e3, e4⟩ := hacc.2 j u e2
      rw [strV, List.getElem?_map, Array.getElem?_toList, e3] at h1
      cases h1
      exact ⟨tk2, e4⟩
    refine ⟨.ref s.heap.objs.size, upd H s.heap.objs.size (.lst (strV z)), I.laid hk (Nat.le_refl _) (show ObjOk X.prog X.w _ _ _ (.lst (strV z)) from ⟨?_, acc.toList, cc, rel, ?_⟩), rfl, ?_⟩
    · rw [strV, List.length_map, Array.length_toList]
      exact hf.1
    · rw [Array.toArray_toList]
      exact hS
    · exact q _ _ _ _ hf.2 (Grow.new1 sG hn) (.lst upd_same (dr_signs z))
  · exact hf.elim
theorem ge_dict0 {pos : Pos} : GE X (.Dict [] [] pos) 0 (mC (.dict [])) := pe_imp pe_dnewK fun σ H Q h => by
  obtain ⟨W, B, G0, H0, G, env, P, R, hm, q⟩ := h
  intro p hp
  have g := Grow.new1 (o := .dK []) R.pub hp
  exact q _ env _ _ _ hm g.eg (R.grow g) (.dic (.inl upd_same) .nil)
/-! ### constants of the module -/
structure GlobD (K : PySem.W.Frag) (mg : Str → Option Value) (x : Str) (y : D) : Prop where
  ex : ∃ v u, mg x = some u ∧ RelV v u ∧ ∀ G, Dr K G v y
theorem ge_gl {x : Str} {y : D} {pos : Pos} (h : GlobD X.K X.mg x y) (hg : Gl X x) (hdb : (x == ("__debug__" : Str)) = false := by decide) : GE X (.Name x pos) 0 (mC y) := by
  obtain ⟨v, u, h1, h2, h3⟩ := h.ex
  exact ge_glob hg h1 h2 h3 hdb
end
end DL
namespace DL
open PySem PySem.Spec PyProof.Rows L2
/-! ### several targets -/
def sAsg (m : ME) (g : MG) : MS := fun E env => m env fun x e1 => g x e1 E.nx
def sPar (i j : Nat) (a : MA) : MS := fun E env => a env fun as e1 => match as with
  | [.d x, .d y] => E.nx ((e1.set i (.d x)).set j (.d y))
  | _ => False
section
variable {X : Cx} {tg e a b : Expr} {me : ME} {mg : MG} {ne n1 : Nat} {vs : List Nat} {pos : Pos} {m1 : MA}
theorem gs_asg (he : GE X e ne me) (hg : GG X tg vs mg) (hs : swapsWithSole [tg] e pos.line X.env = pure false := by rfl) (hw : swappedStores [tg] e X.env = pure none := by rfl) (h1 : (assignEach [tg] X.env).map (·.2) = [assign tg X.env] := by rfl) : GS X (.Assign [tg] e pos) ne (sAsg me mg) := ps_imp (ps_asg he hg hs hw h1) fun D σ H h => by
  obtain ⟨W, B, G0, H0, G, env, E, R, hm, q⟩ := h
  refine ⟨W, B, G0, H0, G, env, _, R, hm, fun x e1 v G1 H1 p1 s1 R1 d1 => ⟨W, B, G0, H0, G1, e1, x, _, R1, d1, p1, fun e2 σ2 G2 H2 p2 s2 R2 _ _ => ?_⟩⟩
  exact q.nx _ _ _ _ p2 (s1.trans s2) R2
theorem gs_par {i j : Nat} {x y : Str} {px py pt pt2 : Pos} {kt k2 : Nat} (hc : X.calm = true) (hN : X.N.Nodup) (hi : X.N[i]? = some x) (hj : X.N[j]? = some y) (hij : i ≠ j) (hx : X.env.scope.names.lookup x = some .local) (hy : X.env.scope.names.lookup y = some .local)
    (ha : GA X [a, b] n1 m1) (hw : swappedStores [.Tuple [.Name x px, .Name y py] kt pt] (.Tuple [a, b] k2 pt2) X.env = pure (some [x, y]))
    (hs : swapsWithSole [.Tuple [.Name x px, .Name y py] kt pt] (.Tuple [a, b] k2 pt2) pos.line X.env = pure false := by rfl) : GS X (.Assign [.Tuple [.Name x px, .Name y py] kt pt] (.Tuple [a, b] k2 pt2) pos) n1 (sPar i j m1) := ps_imp (ps_par hc hN hi hj hij hx hy ha hw hs) fun D σ H h => by
  obtain ⟨W, B, G0, H0, G, env, E, R, hm, q⟩ := h
  refine ⟨W, B, G0, H0, G, env, _, R, hm, fun as e1 us G1 H1 p1 s1 R1 a1 => ?_⟩
  split at p1
  · cases a1 with
    | cons x1 y1 =>
      cases y1 with
      | cons y1 z1 =>
        cases z1
        exact ⟨_, _, rfl, q.nx _ _ _ _ p1 s1 ((R1.set_d x1).set_d y1)⟩
  · exact p1.elim
end
end DL
namespace DL
open PySem PySem.Spec PyProof.Rows L2
/-! ### loops on data -/
/-- one turn of a comprehension: what it puts in (none: left out) -/
def lcStep (g : MG) (tt : MT) (te : ME) (vs : List Nat) (env : DEnv) (x : D) (k : Option D → Prop) : Prop := g x (wipeE env vs) fun e1 => tt e1 fun b e2 => e2 = e1 ∧ match b with
  | true => te e2 fun y e3 => e3 = e2 ∧ k (some y)
  | false => k none
section
variable {g : MG} {tt : MT} {te : ME} {vs : List Nat} {env : DEnv}
theorem lcl_cons {x : D} {xs acc : List D} {P : List D → Prop} (h : lcStep g tt te vs env x fun o => match o with
    | some y => acc.length < sizeLine ∧ mLcL g tt te vs xs (acc ++ [y]) env P
    | none => mLcL g tt te vs xs acc env P) : mLcL g tt te vs (x :: xs) acc env P := h
/-- each turn's item is a function's -/
theorem lcl_fun (f : D → Option D) : ∀ (xs acc : List D) {P : List D → Prop}, (∀ x ∈ xs, ∀ k : Option D → Prop, k (f x) → lcStep g tt te vs env x k) → acc.length + xs.length ≤ sizeLine → P (acc ++ xs.filterMap f) → mLcL g tt te vs xs acc env P
  | [], acc, P, _, _, hP => by
    rw [List.filterMap_nil, List.append_nil] at hP
    exact hP
  | x :: xs, acc, P, hx, hl, hP => by
    rw [List.length_cons] at hl
    refine lcl_cons (hx x List.mem_cons_self _ ?_)
    cases e : f x with
    | some y =>
      refine ⟨by omega, lcl_fun f xs (acc ++ [y]) (fun z hz => hx z (List.mem_cons_of_mem _ hz)) (by rw [List.length_append]; simp; omega) ?_⟩
      rw [List.filterMap_cons, e] at hP
      rw [List.append_assoc]
      exact hP
    | none =>
      refine lcl_fun f xs acc (fun z hz => hx z (List.mem_cons_of_mem _ hz)) (by omega) ?_
      rw [List.filterMap_cons, e] at hP
      exact hP
/-- each turn's item is any of some -/
theorem lcl_any (A : D → Prop) : ∀ (xs acc : List D) {P : List D → Prop}, (∀ x ∈ xs, ∀ k : Option D → Prop, (∀ y, A y → k (some y)) → lcStep g tt te vs env x k) → acc.length + xs.length ≤ sizeLine →
    (∀ ys, ys.length = xs.length → (∀ y ∈ ys, A y) → P (acc ++ ys)) → mLcL g tt te vs xs acc env P
  | [], acc, P, _, _, hP => by
    have := hP [] rfl (fun y hy => by cases hy)
    rw [List.append_nil] at this
    exact this
  | x :: xs, acc, P, hx, hl, hP => by
    rw [List.length_cons] at hl
    refine lcl_cons (hx x List.mem_cons_self _ fun y hy => ⟨by omega, ?_⟩)
    refine lcl_any A xs (acc ++ [y]) (fun z hz => hx z (List.mem_cons_of_mem _ hz)) (by rw [List.length_append]; simp; omega) fun ys h1 h2 => ?_
    rw [List.append_assoc]
    refine hP (y :: ys) (by rw [List.length_cons, List.length_cons, h1]) fun z hz => ?_
    rcases List.mem_cons.mp hz with rfl | hz
    · exact hy
    · exact h2 z hz
end
/-- a for by an invariant -/
theorem forl_inv {g : MG} {b : MS} {xs : List D} {E : DEnds} {env : DEnv} (I : Nat → DEnv → Prop) (h0 : I 0 env)
    (hs : ∀ (i : Nat) x env (E' : DEnds), xs[i]? = some x → I i env → (∀ e, I (i + 1) e → E'.nx e) → (∀ e, I (i + 1) e → E'.ct e) → (∀ e, E.nx e → E'.bk e) → E'.rt = E.rt → g x env fun e1 => b E' e1) (hd : ∀ e, I xs.length e → E.nx e) : sForL g b xs E env := by
  have key : ∀ (ys : List D) (k : Nat) (env : DEnv), xs.drop k = ys → k + ys.length = xs.length → I k env → sForL g b ys E env := by
    intro ys
    induction ys with
    | nil =>
      intro k env _ hl hI
      have e : k = xs.length := by simpa using hl
      subst e
      exact hd env hI
    | cons y r ih =>
      intro k env hk hl hI
      have hx : xs[k]? = some y := by
        have := congrArg (fun l => l[0]?) hk
        simpa using this
      have hr : xs.drop (k + 1) = r := by
        have := congrArg (fun l => l.drop 1) hk
        simpa using this
      rw [List.length_cons] at hl
      exact hs k y env { nx := sForL g b r E, rt := E.rt, bk := E.nx, ct := sForL g b r E } hx hI (fun e z => ih (k + 1) e hr (by omega) z) (fun e z => ih (k + 1) e hr (by omega) z) (fun e z => z) rfl
  exact key xs 0 env rfl (by simp) h0
theorem strD_len (z : Str) : (strD z).length = z.length := by
  rw [strD, List.length_map, Array.length_toList]
  rfl
theorem atI_lt {α : Type} {xs : List α} {i : Int} (h0 : 0 ≤ i) (h1 : i < xs.length) : ∃ x, atI xs i = some x ∧ x ∈ xs ∧ xs[i.toNat]? = some x := by
  have hl : i.toNat < xs.length := by omega
  refine ⟨xs[i.toNat], ?_, List.getElem_mem hl, List.getElem?_eq_getElem hl⟩
  unfold atI ixN
  rw [if_pos h0, if_pos h1]
  exact List.getElem?_eq_getElem hl
end DL
namespace DL
open PySem PySem.Spec PyProof.Rows L2
/-! ### a star among the targets -/
/-- i targets, the star, the others -/
def starred (i n : Nat) (xs : List V) (p : Addr) : List V := xs.take i ++ [.ref p] ++ (xs.drop i).drop (xs.length + 1 - n)
def starMid (i n : Nat) (xs : List V) : List V := (xs.drop i).take (xs.length + 1 - n)
def gStar (Sq : Hp → Addr → List V → Prop) (i n : Nat) (t : TGs) : TG := fun v σ H Q => ∃ a xs, v = .ref a ∧ Sq H a xs ∧ i < n ∧ n ≤ xs.length + 1 ∧ xs.length ≤ 16384 ∧ ∀ p, H p = none → t (starred i n xs p) σ (upd H p (.lst (starMid i n xs))) Q
theorem vals_take : ∀ (n : Nat) {xs : List V} {us : List Value}, Vals xs us → Vals (xs.take n) (us.take n)
  | 0, _, _, _ => .nil
  | _ + 1, _, _, .nil => .nil
  | n + 1, _, _, .cons r rr => .cons r (vals_take n rr)
theorem vals_drop : ∀ (n : Nat) {xs : List V} {us : List Value}, Vals xs us → Vals (xs.drop n) (us.drop n)
  | 0, _, _, r => r
  | _ + 1, _, _, .nil => .nil
  | n + 1, _, _, .cons _ rr => vals_drop n rr
section
variable {X : Cx} {es : List Expr} {pos : Pos} {kk n i : Nat} {t : TGs}
theorem pg_starL (hc : X.calm = true) (h : PGs X es t) (hn : (assignEach es X.env).length = n := by rfl) (hst : (assignEach es X.env).findIdx? (·.1) = some i := by rfl) :
    PG X (.Tuple es kk pos) (gStar (SqL X.K) i n t) := by
  refine ⟨fun pins s σ H v u Q I r hw => ?_⟩
  obtain ⟨a, xs, e1, hq, h1, h2, h3, hw⟩ := hw
  subst e1
  cases r
  obtain ⟨its, rv, p0, hz⟩ := I.list hq
  have hL : s.heap.IsList a its.toArray := p0.isList
  have hlen := rv.length
  have lt1 : a < s.heap.objs.size := by
    obtain ⟨o, ho, _⟩ := hL
    exact Heap.lt_size ho
  have hne : a ≠ s.heap.objs.size := Nat.ne_of_lt lt1
  rw [assign_Tuple]
  refine wpAny_bind (wpAny_standAt ?_)
  unfold unpack
  rw [hn, hst]
  refine wpAny_bind (wpAny_holding ?_)
  unfold unpackItems
  refine wpAny_bind ?_
  unfold notIterableAtAll
  refine wpAny_bind (wpAny_specialOf hL.typeIs PySem.F.slot_list_iter.lookup (wpAny_pure ?_))
  rw [if_neg (by decide)]
  refine wpAny_bind (wpAny_holding (wpAny_pyIter_list hL ?_))
  refine wpAny_bind (wpAny_holding (PySem.W.kun_draw hne i 0 _ _ ⟨_, Heap.get?_push_size _ rfl, rfl, rfl⟩ (hL.push _) (by rw [List.size_toArray]; omega) fun hp1 hit1 hs1 => ?_))
  have hL1 : hp1.IsList a its.toArray := (hL.push _).extBut hs1.extBut hne
  rw [Nat.zero_add] at hit1
  have b1 : s.heap.objs.size < hp1.objs.size := by
    obtain ⟨o, ho, _⟩ := hit1
    exact Heap.lt_size ho
  have b2 : a < hp1.objs.size := by
    obtain ⟨o, ho, _⟩ := hL1
    exact Heap.lt_size ho
  have tl : ((List.drop 0 its.toArray.toList).take i).length = i := by
    rw [List.drop_zero, List.length_take]
    show min i its.length = i
    omega
  rw [if_neg (by rw [tl]; omega)]
  refine wpAny_bind (wpAny_holding (PySem.W.kun_collect (s := { s with heap := hp1 }) (T := "list_iterator") (.inr (.inr (.inl rfl))) (Walks.list (A := X.A.in1) (I.ok.hd hc) s.heap.objs.size a hne its.toArray) (fun j u st => st.1.typeIs) (k := i) (by rw [List.size_toArray]; omega) ⟨hit1, hL1⟩ b1 b2 (fun hp2 tk hk => ?_) (by rw [List.size_toArray, ← hlen]; exact hz)))
  have dl : (its.toArray.toList.drop i).length = its.length - i := by
    rw [List.length_drop]
  have dm : (its.toArray.toList.drop i).length - (n - 1 - i) = xs.length + 1 - n := by
    rw [dl, hlen]
    omega
  rw [if_neg (by rw [dl]; omega), dm]
  have ke : ∀ b o, s.heap.get? b = some o → hp2.get? b = some o := fun b o e => by
    have nb : b ≠ s.heap.objs.size := Nat.ne_of_lt (Heap.lt_size e)
    exact hk b o nb (hs1.extBut b o nb (Heap.get?_push_of_some _ e))
  have I2 : Inv X pins σ H { s with heap := hp2, toks := tk } := I.kept (t' := tk) ke
  have rm : Vals (starMid i n xs) ((its.toArray.toList.drop i).take (xs.length + 1 - n)) := vals_take _ (vals_drop i rv)
  have zl : (starMid i n xs).length ≤ sizeLine := by
    unfold starMid
    rw [List.length_take, List.length_drop]
    omega
  refine wpAny_bind (wpAny_newList ?_ (by rw [← rm.length]; exact zl))
  have hfr : H hp2.objs.size = none := I2.hok.fresh (Nat.le_refl _)
  refine wpAny_pure ?_
  have I3 : Inv X pins σ (upd H hp2.objs.size (.lst (starMid i n xs))) { s with heap := hp2.push { cls := .type "list", data := .seq ((its.toArray.toList.drop i).take (xs.length + 1 - n)).toArray }, toks := tk } :=
    I2.laid (t' := tk) (fun b u e => Heap.get?_push_of_some _ e) (Nat.le_refl _) ⟨zl, _, 0, rm, Heap.get?_push_size _ rfl⟩
  exact h.run pins _ σ _ _ _ Q I3 (((vals_take i rv).append (.cons (show RelV (.ref hp2.objs.size) (.ref hp2.objs.size) from rfl) .nil)).append (vals_drop _ (vals_drop i rv))) (hw _ hfr)
theorem pg_starT (hc : X.calm = true) (h : PGs X es t) (hn : (assignEach es X.env).length = n := by rfl) (hst : (assignEach es X.env).findIdx? (·.1) = some i := by rfl) :
    PG X (.Tuple es kk pos) (gStar (SqT X.K) i n t) := by
  refine ⟨fun pins s σ H v u Q I r hw => ?_⟩
  obtain ⟨a, xs, e1, hq, h1, h2, h3, hw⟩ := hw
  subst e1
  cases r
  obtain ⟨its, rv, p0, hz⟩ := I.tuple hq
  have hL : IsTup s.heap a its.toArray := p0
  have hlen := rv.length
  have lt1 : a < s.heap.objs.size := by
    obtain ⟨o, ho, _⟩ := hL
    exact Heap.lt_size ho
  have hne : a ≠ s.heap.objs.size := Nat.ne_of_lt lt1
  rw [assign_Tuple]
  refine wpAny_bind (wpAny_standAt ?_)
  unfold unpack
  rw [hn, hst]
  refine wpAny_bind (wpAny_holding ?_)
  unfold unpackItems
  refine wpAny_bind ?_
  unfold notIterableAtAll
  refine wpAny_bind (wpAny_specialOf hL.typeIs PySem.F.slot_tuple_iter.lookup (wpAny_pure ?_))
  rw [if_neg (by decide)]
  refine wpAny_bind (wpAny_holding (iter_tuple hL ?_))
  refine wpAny_bind (wpAny_holding (draw_tuple hne i 0 _ _ ⟨_, Heap.get?_push_size _ rfl, rfl, rfl⟩ (hL.push _) (by rw [List.size_toArray]; omega) fun hp1 hit1 hs1 => ?_))
  have hL1 : IsTup hp1 a its.toArray := (hL.push _).extBut hs1.extBut hne
  rw [Nat.zero_add] at hit1
  have b1 : s.heap.objs.size < hp1.objs.size := by
    obtain ⟨o, ho, _⟩ := hit1
    exact Heap.lt_size ho
  have b2 : a < hp1.objs.size := by
    obtain ⟨o, ho, _⟩ := hL1
    exact Heap.lt_size ho
  have tl : ((List.drop 0 its.toArray.toList).take i).length = i := by
    rw [List.drop_zero, List.length_take]
    show min i its.length = i
    omega
  rw [if_neg (by rw [tl]; omega)]
  refine wpAny_bind (wpAny_holding (PySem.W.kun_collect (s := { s with heap := hp1 }) (T := "tuple_iterator") (.inr (.inr (.inr rfl))) (Walks.tuple (A := X.A.in1) (I.ok.hd hc) s.heap.objs.size a hne its.toArray) (fun j u st => st.1.typeIs) (k := i) (by rw [List.size_toArray]; omega) ⟨hit1, hL1⟩ b1 b2 (fun hp2 tk hk => ?_) (by rw [List.size_toArray, ← hlen]; exact hz)))
  have dl : (its.toArray.toList.drop i).length = its.length - i := by
    rw [List.length_drop]
  have dm : (its.toArray.toList.drop i).length - (n - 1 - i) = xs.length + 1 - n := by
    rw [dl, hlen]
    omega
  rw [if_neg (by rw [dl]; omega), dm]
  have ke : ∀ b o, s.heap.get? b = some o → hp2.get? b = some o := fun b o e => by
    have nb : b ≠ s.heap.objs.size := Nat.ne_of_lt (Heap.lt_size e)
    exact hk b o nb (hs1.extBut b o nb (Heap.get?_push_of_some _ e))
  have I2 : Inv X pins σ H { s with heap := hp2, toks := tk } := I.kept (t' := tk) ke
  have rm : Vals (starMid i n xs) ((its.toArray.toList.drop i).take (xs.length + 1 - n)) := vals_take _ (vals_drop i rv)
  have zl : (starMid i n xs).length ≤ sizeLine := by
    unfold starMid
    rw [List.length_take, List.length_drop]
    omega
  refine wpAny_bind (wpAny_newList ?_ (by rw [← rm.length]; exact zl))
  have hfr : H hp2.objs.size = none := I2.hok.fresh (Nat.le_refl _)
  refine wpAny_pure ?_
  have I3 : Inv X pins σ (upd H hp2.objs.size (.lst (starMid i n xs))) { s with heap := hp2.push { cls := .type "list", data := .seq ((its.toArray.toList.drop i).take (xs.length + 1 - n)).toArray }, toks := tk } :=
    I2.laid (t' := tk) (fun b u e => Heap.get?_push_of_some _ e) (Nat.le_refl _) ⟨zl, _, 0, rm, Heap.get?_push_size _ rfl⟩
  exact h.run pins _ σ _ _ _ Q I3 (((vals_take i rv).append (.cons (show RelV (.ref hp2.objs.size) (.ref hp2.objs.size) from rfl) .nil)).append (vals_drop _ (vals_drop i rv))) (hw _ hfr)
end
end DL
namespace DL
open PySem PySem.Spec PyProof.Rows L2
/-! ### repr and str of any data -/
def dReprA : List D → (D → Prop) → Prop
  | [x], P => (x.showable = true ∧ noDict x = true) ∧ x.depth ≤ 60 ∧ x.shown.length ≤ sizeLine ∧ P (.str x.shown)
  | _, _ => False
def dStrA : List D → (D → Prop) → Prop
  | [.int i], P => i.natAbs.log2 < 1920 ∧ P (.str (toString i))
  | [.str z], P => P (.str z)
  | [.none], P => P (.str "None")
  | _, _ => False
section
variable {X : Cx}
theorem cd_reprA (hg : X.A.guards = some []) (hu : X.A.units + 64 < cLine) : CallR X (.builtin "repr") (rDC X.K dReprA) := by
  intro pins s σ H xs us Q I r h
  obtain ⟨G, ds, P, sG, da, hf, q⟩ := h
  unfold dReprA at hf
  split at hf
  · rename_i x _
    obtain ⟨v, rfl, d⟩ := all1 da
    obtain ⟨⟨h1, h2⟩, h3, h4, hP⟩ := hf
    have d2 := dr_dp (dp_pub sG d h2) h2
    have q' := q _ _ G H hP (Grow.refl sG) (.str _)
    cases d with
    | int i =>
      obtain ⟨u, rfl, t, rfl⟩ := vals1 r
      exact PySem.P.repr_of_int (by simpa [PyData.showable] using h1) ⟨.str _, H, I.tok _, ⟨_, rfl⟩, q'⟩
    | str z =>
      obtain ⟨u, rfl, t, rfl⟩ := vals1 r
      exact PySem.P.repr_of_str ⟨.str _, H, I.tok _, ⟨_, rfl⟩, q'⟩ h4
    | bl b =>
      obtain ⟨u, rfl, r1⟩ := vals1 r
      cases r1
      exact PySem.P.repr_of_bool ⟨.str _, H, I.tok _, ⟨_, rfl⟩, q'⟩
    | non =>
      obtain ⟨u, rfl, r1⟩ := vals1 r
      cases r1
      exact PySem.P.repr_of_none ⟨.str _, H, I.tok _, ⟨_, rfl⟩, q'⟩
    | lst a b => exact repr_ref hg hu I r d2 h1 h2 h3 h4 q'
    | tup a b => exact repr_ref hg hu I r d2 h1 h2 h3 h4 q'
    | dic a b => simp [noDict] at h2
  · exact hf.elim
theorem cd_strA : CallR X (.type "str") (rDC X.K dStrA) := by
  intro pins s σ H xs us Q I r h
  obtain ⟨G, ds, P, sG, da, hf, q⟩ := h
  unfold dStrA at hf
  split at hf
  · obtain ⟨v, rfl, d⟩ := all1 da
    cases dp_int d
    exact call_str_int pins s σ H _ us Q I r ⟨_, rfl, hf.1, q _ _ G H hf.2 (Grow.refl sG) (.str _)⟩
  · obtain ⟨v, rfl, d⟩ := all1 da
    cases dp_str d
    obtain ⟨u, rfl, t, rfl⟩ := vals1 r
    exact PySem.P.str_of_str ⟨.str _, H, I, ⟨_, rfl⟩, q _ _ G H hf (Grow.refl sG) (.str _)⟩
  · obtain ⟨v, rfl, d⟩ := all1 da
    cases dp_non d
    obtain ⟨u, rfl, r1⟩ := vals1 r
    cases r1
    exact PySem.P.str_of_none ⟨.str _, H, I.tok _, ⟨_, rfl⟩, q _ _ G H hf (Grow.refl sG) (.str _)⟩
  · exact hf.elim
end
/-! ### found.extend(..) -/
def sExt (i : Nat) (m : ME) : MS := fun E env => (∃ xs, env[i]? = some (.own xs)) ∧ m env fun x e1 => match e1[i]?, x with
  | some (.mo none (.lst xs)), .list ys => xs.length + ys.length ≤ sizeLine ∧ E.nx (e1.set i (.own (xs ++ ys)))
  | _, _ => False
section
variable {X : Cx} {e : Expr} {me : ME} {ne : Nat} {pos : Pos}
theorem gs_extend {i : Nat} {x : Str} {px apos cpos : Pos} (hN : X.N[i]? = some x) (hv : Vis X.env.scope x) (he : GE X e ne me) (hd : (x == ("__debug__" : Str)) = false := by decide)
    (hcd : (x == ("__classdict__" : Str)) = false := by decide) (hbase : attributeBase (.Name x px) "extend" X.env (eval (.Name x px) X.env) = eval (.Name x px) X.env := by rfl)
    (hfew : ((backTo cpos (starEach [e] X.env)).all (fun x => !x.1) && (backToKw cpos (keywordEach [] X.env)).all (fun x => x.1.isSome) && decide ([e].length + ([] : List Keyword).length + (if ([] : List Keyword).isEmpty then 0 else 1) < 30)) = true := by rfl)
    (hline : (apos.endLine == cpos.line) = true := by rfl) (hs : starEach [e] X.env = (false, eval e X.env) :: starEach [] X.env := by rfl) (hplain : (backTo cpos (starEach ([] : List Expr) X.env)).any (·.1) = false := by rfl)
    (hsw : swapsWith (.Call (.Attribute (.Name x px) "extend" apos) [e] [] cpos) none pos.line X.env = pure false := by rfl) :
    GS X (.Expr (.Call (.Attribute (.Name x px) "extend" apos) [e] [] cpos) pos) ne (sExt i me) :=
  ps_imp (ps_expr (pe_bm PySem.F.plainAttrs_list PySem.F.slot_list_extend PySem.F.type_list_extend mt_extend (pe_var hN hv hd hcd) (pa_cons he pa_nil hs) hbase hfew hline hs hplain) hsw) fun D σ H h => by
  obtain ⟨W, B, G0, H0, G, env, E, R, ⟨⟨xs, hx⟩, hm⟩, q⟩ := h
  obtain ⟨l, vs, e1, hl, hg, h0, hmu, hq⟩ := R.get_own hx
  refine ⟨_, e1, .inl ⟨rfl, vs, SqL.of hl⟩, W, B, G0, H0, G, env, _, R, hm, fun y e2 v G2 H2 p2 s2 R2 d2 => ?_⟩
  split at p2
  · rename_i zs ys hy
    obtain ⟨l2, us, f1, hl2, hg2, h02, hmu2, hq2⟩ := R2.get_own hy
    rw [e1] at f1
    cases f1
    obtain ⟨b, ws, rfl, hb, hqb⟩ := dp_lst d2
    refine ⟨l, b, us, ws, rfl, rfl, hl2, R2.pub.lst hb, by rw [dpAll_len hq2, dpAll_len hqb]; exact p2.1, ?_⟩
    exact q.nx _ _ _ _ p2.2 s2 (R2.write hy e1 hl2 hg2 h02 hmu2 (dpAll_app hq2 hqb))
  · exact p2.elim
end
/-! ### enumerate -/
def pairs (ds : List D) : List D := ds.mapIdx fun i x => .tuple [.int (i : Int), x]
theorem itd_enum {K : PySem.W.Frag} {G : Hp} {a : Addr} {us : List V} {ds : List D} (h1 : G a = some (.lst us)) (h2 : DrAll K G us ds) : ItD K G (Ite K a) (pairs ds) := fun G1 H1 s1 s2 i => by
  have q : SqL K H1 a us := SqL.of ((s2.before s1).lst h1)
  refine ⟨fun x hx => ?_, fun hl => ?_⟩
  · unfold pairs at hx
    rw [List.getElem?_mapIdx, Option.map_eq_some_iff] at hx
    obtain ⟨y, hy, rfl⟩ := hx
    obtain ⟨v, e, d⟩ := dpAll_get h2 hy
    refine ⟨⟨us, v, q, e⟩, fun w H2 z => ?_⟩
    obtain ⟨T, u, rfl, hT, rfl, z⟩ := z
    have := z us q
    rw [e] at this
    cases this
    exact ⟨_, Grow.new1 s2 hT, .tup (SqT.of upd_same) (.cons (.int _) (.cons (dp_same (s1.trans (same_upd (s2.free hT))) d) .nil))⟩
  · refine ⟨us, q, ?_⟩
    unfold pairs at hl
    rw [List.length_mapIdx] at hl
    rw [dpAll_len h2]
    exact hl
def miEnum (a : MA) : MI := fun env P => a env fun as e1 => match as with
  | [.d (.list xs)] => P (pairs xs) e1
  | _ => False
theorem gi_enum {X : Cx} {e : Expr} {m1 : MA} {n1 : Nat} {p pos tpos : Pos} {elts : List Expr} {kk : Nat} (hg : Gl X "enumerate") (hm : X.mg "enumerate" = none) (ha : GA X [e] n1 m1) (hs : starEach [e] X.env = [(false, eval e X.env)] := by rfl) :
    GI X (.Tuple elts kk tpos) (.Call (.Name "enumerate" p) [e] [] pos) n1 (miEnum m1) := pi_imp (pi_enum hg hm ha hs) fun σ H R h => by
  obtain ⟨W, B, G0, H0, G, env, P, Rl, hm1, q⟩ := h
  refine ⟨W, B, G0, H0, G, env, _, Rl, hm1, fun as e1 us G1 H1 p1 s1 R1 a1 => ?_⟩
  split at p1
  · cases a1 with
    | cons x1 y1 =>
      cases y1
      obtain ⟨a, ws, rfl, h1, h2⟩ := dp_lst x1
      exact ⟨a, ws, rfl, SqL.of (R1.pub.lst h1), q _ _ _ _ _ p1 s1 R1 (itd_enum h1 h2)⟩
  · exact p1.elim
end DL
namespace DL
open PySem PySem.Spec PyProof.Rows L2
/-! ### a tuple times 0, times 1 -/
theorem tup_times0 (l : Addr) (items : Array Value) (n : Nat) (dd : Option Addr) (sl : Array (Option Value)) (u : Tok) (c1 : (items.isEmpty || (0 : Int) == 1) = false) :
    Meets (Builtin.«tuple.__mul__» ⟨[.ref l, .int 0 u], []⟩) (fun _ R s => s.heap.get? l = some ⟨.type "tuple", dd, .seq items n, sl⟩ ∧ R (.ok (.ret (.ref s.heap.objs.size))) { s with heap := s.heap.push { cls := .type "tuple", data := .seq #[] } }) :=
  .of_wp fun prog w A R s h => by
    obtain ⟨hp, g, d, tk, os⟩ := s
    obtain ⟨hl, h⟩ := h
    have f1 := AutoSeq1.idx_int
    wp_walk using wpAny_loadPart' hl
    repeat (first
      | (refine wpAny_ite_false (decide_eq_false (by decide)) ?_; wp_walk using wpAny_loadPart' hl)
      | (refine wpAny_ite_false (decide_eq_false (by rw [c1]; exact Bool.false_ne_true)) ?_; wp_walk using wpAny_loadPart' hl)
      | (refine wpAny_ite_true (decide_eq_true (by rfl)) ?_; wp_walk using wpAny_loadPart' hl))
    exact ⟨_, rfl, h⟩
theorem tup_times1 (l : Addr) (items : Array Value) (n : Nat) (dd : Option Addr) (sl : Array (Option Value)) (u : Tok) :
    Meets (Builtin.«tuple.__mul__» ⟨[.ref l, .int 1 u], []⟩) (fun _ R s => s.heap.get? l = some ⟨.type "tuple", dd, .seq items n, sl⟩ ∧ R (.ok (.ret (.ref l))) s) :=
  .of_wp fun prog w A R s h => by
    obtain ⟨hp, g, d, tk, os⟩ := s
    obtain ⟨hl, h⟩ := h
    have f1 := AutoSeq1.idx_int
    wp_walk using wpAny_loadPart' hl
    repeat (first
      | (refine wpAny_ite_false (decide_eq_false (by decide)) ?_; wp_walk using wpAny_loadPart' hl)
      | (refine wpAny_ite_true (decide_eq_true (by cases items.isEmpty <;> rfl)) ?_; wp_walk using wpAny_loadPart' hl))
    exact ⟨_, rfl, h⟩
def dMulT : D → D → (D → Prop) → Prop
  | .tuple xs, .int k, P => (xs ≠ [] ∧ xs.length ≤ 1000 ∧ 0 ≤ k ∧ k ≤ 1000) ∧ P (.tuple (List.replicate k.toNat xs).flatten)
  | _, _, _ => False
section
variable {X : Cx}
theorem od_mulT : OpR X (binaryOp .Mult) (rD2 X.K dMulT) := by
  intro pins s σ H x y v u Q I rx ry h
  obtain ⟨G, dx, dy, P, sG, d1, d2, hf, q⟩ := h
  unfold dMulT at hf
  split at hf
  · rename_i xs k
    obtain ⟨a, us, rfl, h1, h2⟩ := dp_tup d1
    cases dp_int d2
    obtain ⟨⟨hne, hz, k0, k1⟩, hP⟩ := hf
    have une : us ≠ [] := fun e => by
      subst e
      cases h2
      exact hne rfl
    have hT := pub_sqT sG h1
    by_cases k2 : 2 ≤ k
    · refine op_repT pins s σ H _ _ v u Q I rx ry ⟨a, _, us, rfl, rfl, hT, une, k2, k1, by rw [dpAll_len h2]; exact hz, fun p hp => ?_⟩
      exact q _ _ _ _ hP (Grow.new1 sG hp) (.tup (SqT.of upd_same) (dpAll_same (same_upd (sG.free hp)) (dpAll_flat h2 _)))
    · cases rx
      obtain ⟨t, rfl⟩ := ry
      obtain ⟨its, r, ⟨⟨cls, dd, data, sl⟩, ho, hc, n, hd⟩, hs⟩ := I.tuple hT
      simp only at hc hd
      subst hc hd
      have hk : k = 0 ∨ k = 1 := by omega
      rcases hk with rfl | rfl
      · have c1 : (its.toArray.isEmpty || (0 : Int) == 1) = false := by
          cases its with
          | nil =>
            cases r
            exact absurd rfl une
          | cons _ _ => rfl
        refine wpAny_binaryOp_repeat_ref (T := "tuple") (U := "int") (by decide) ⟨_, ho, rfl⟩ (fun s' => typeIs_int s' 0 t) noFill_tuple_mul PySem.F.fills_int_mul PySem.F.slot_int_rmul repeat_tuple PySem.F.slot_int_index.lookup
          (call_meets PySem.F.slot_int_rmul (typeIs_int s 0 t) PySem.F.entry_int_rmul (PySem.F.args_int_rmul_2 _ _) (int_rmul_tuple 0 t a its.toArray n dd sl)
            ⟨ho, rfl, ⟨_, ho, rfl⟩, call_meets PySem.F.slot_tuple_mul ⟨_, ho, rfl⟩ PySem.F.entry_tuple_mul (PySem.F.args_tuple_mul_2 _ _) (tup_times0 a its.toArray n dd sl t c1) ⟨ho, ?_⟩⟩)
        have hf2 : H s.heap.objs.size = none := I.hok.fresh (Nat.le_refl _)
        refine ⟨.ref s.heap.objs.size, _, I.laid (t' := s.toks) (o := .tup []) (fun b ob q => Heap.get?_push_of_some _ q) (Nat.le_refl _) ?_, rfl, q _ _ _ _ hP (Grow.new1 sG hf2) (.tup (SqT.of upd_same) .nil)⟩
        exact ⟨by decide, _, .nil, IsTup.new _ _⟩
      · refine wpAny_binaryOp_repeat_ref (T := "tuple") (U := "int") (by decide) ⟨_, ho, rfl⟩ (fun s' => typeIs_int s' 1 t) noFill_tuple_mul PySem.F.fills_int_mul PySem.F.slot_int_rmul repeat_tuple PySem.F.slot_int_index.lookup
          (call_meets PySem.F.slot_int_rmul (typeIs_int s 1 t) PySem.F.entry_int_rmul (PySem.F.args_int_rmul_2 _ _) (int_rmul_tuple 1 t a its.toArray n dd sl)
            ⟨ho, rfl, ⟨_, ho, rfl⟩, call_meets PySem.F.slot_tuple_mul ⟨_, ho, rfl⟩ PySem.F.entry_tuple_mul (PySem.F.args_tuple_mul_2 _ _) (tup_times1 a its.toArray n dd sl t) ⟨ho, ?_⟩⟩)
        refine ⟨.ref a, H, I, rfl, q _ _ G H hP (Grow.refl sG) ?_⟩
        have e : (List.replicate (1 : Int).toNat xs).flatten = xs := by
          show (List.replicate 1 xs).flatten = xs
          simp
        rw [e]
        exact d1
  · exact hf.elim
end
/-! ### a sum of lists that is one's own -/
def mAddF (ma mb : ME) : MF := fun env P => ma env fun x e1 => mb e1 fun y e2 => match x, y with
  | .list a, .list b => a.length + b.length ≤ sizeLine ∧ P (a ++ b) e2
  | _, _ => False
section
variable {X : Cx} {a b : Expr} {na nb : Nat} {ma mb : ME} {pos : Pos}
theorem gf_add (ha : GE X a na ma) (hb : GE X b nb mb) : GF X (.BinOp a .Add b pos) (na + nb) (mAddF ma mb) := pe_imp (pe_op op_cat ha hb) fun σ H Q h => by
  obtain ⟨W, B, G0, H0, G, env, P, R, hm, q⟩ := h
  refine ⟨W, B + nb, G0, H0, G, env, _, R.le (by omega), hm, fun x e1 v G1 H1 p1 s1 R1 d1 => ?_⟩
  refine ⟨W, B, G0, H0, G1, e1, _, R1, p1, fun y e2 u G2 H2 p2 s2 R2 d2 => ?_⟩
  split at p2
  · obtain ⟨a1, us, rfl, h1, h2⟩ := dp_lst (dp_same s2 d1)
    obtain ⟨b1, ws, rfl, h3, h4⟩ := dp_lst d2
    refine ⟨a1, b1, us, ws, rfl, rfl, R2.pub.lst h1, R2.pub.lst h3, by rw [dpAll_len h2, dpAll_len h4]; exact p2.1, fun p hp => ?_⟩
    obtain ⟨R3, f1, f2, f3, f4⟩ := R2.fresh (o := .lst (us ++ ws)) hp
    exact q _ e2 _ _ _ p2.2 (s1.trans s2) R3 ⟨_, upd_same, f1, f2, f3, f4, dpAll_app h2 h4⟩
  · exact p2.elim
end
end DL
namespace DL
open PySem PySem.Spec PyProof.Rows L2
/-! ### a list of one's own lists, beside the slots -/
def NoOwn (env : DEnv) : Prop := ∀ (i : Nat) w c, env[i]? ≠ some (.mo w c)
section
variable {K : PySem.W.Frag} {W : Wd} {B : Nat} {G0 H0 G H G' H' : Hp} {env env' : DEnv} {σ σ' : L2.St}
theorem Rel.base (R : Rel K W B G0 H0 G env σ H) (no : NoOwn env) : Rel K W B G H G env σ H :=
  { R.toRW.self with
    len := R.len
    slot := fun i e s h1 h2 => by
      have q := R.slot i e s h1 h2
      cases e with
      | un => trivial
      | d x => exact q
      | mo w c => exact absurd h1 (no i w c)
      | «at» _ => trivial
      | hd => exact q
    dis := fun i j wi ci wj cj l ne h1 => absurd h1 (no i wi ci) }
theorem Rel.rebase (R : Rel K W B G H G' env σ H') (no : NoOwn env) (r : RW W B G0 H0 G' H') : Rel K W B G0 H0 G' env σ H' :=
  { r with
    len := R.len
    slot := fun i e s h1 h2 => by
      have q := R.slot i e s h1 h2
      cases e with
      | un => trivial
      | d x => exact q
      | mo w c => exact absurd h1 (no i w c)
      | «at» _ => trivial
      | hd => exact q
    dis := fun i j wi ci wj cj l ne h1 => absurd h1 (no i wi ci) }
/-- an object that is neither published nor the caller's is written -/
theorem Rel.poke {a : Addr} {o : HO} (R : Rel K W B G0 H0 G env σ H) (no : NoOwn env) (hg : G a = none) (h0 : H0 a = none) (hm : ¬ W.mu a) : Rel K W B G0 H0 G env σ (upd H a o) where
  g0 := R.g0
  pub := fun b u e => by
    have ne : b ≠ a := fun z => by
      subst z
      rw [hg] at e
      cases e
    rw [upd_ne ne]
    exact R.pub b u e
  gm := R.gm
  inv := W.loc _ H _ (fun b m => by
    have ne : b ≠ a := fun z => by
      subst z
      exact hm m
    rw [upd_ne ne]) R.inv
  fr := fun b u e m => by
    have ne : b ≠ a := fun z => by
      subst z
      rw [h0] at e
      cases e
    rw [upd_ne ne]
    exact R.fr b u e m
  pn := R.pn
  len := R.len
  slot := fun i e s h1 h2 => by
    have q := R.slot i e s h1 h2
    cases e with
    | un => trivial
    | d x => exact q
    | mo w c => exact absurd h1 (no i w c)
    | «at» _ => trivial
    | hd => exact q
  dis := fun i j wi ci wj cj l ne h1 => absurd h1 (no i wi ci)
theorem Rel.set_un {i : Nat} {s : Option V} (R : Rel K W B G0 H0 G env σ H) (no : NoOwn env) : Rel K W B G0 H0 G (env.set i .un) (σ.set i s) H :=
  { R.toRW with
    len := by rw [List.length_set, List.length_set]; exact R.len
    slot := fun j e t h1 h2 => by
      by_cases z : i = j
      · subst z
        by_cases hl : i < env.length
        · rw [List.getElem?_set_self hl] at h1
          cases h1
          trivial
        · rw [List.getElem?_eq_none (by rw [List.length_set]; omega)] at h1
          cases h1
      · rw [List.getElem?_set_ne z] at h1 h2
        exact R.slot j e t h1 h2
    dis := fun j k wi ci wj cj l ne h1 => by
      by_cases z : i = j
      · subst z
        by_cases hl : i < env.length
        · rw [List.getElem?_set_self hl] at h1
          cases h1
        · rw [List.getElem?_eq_none (by rw [List.length_set]; omega)] at h1
          cases h1
      · rw [List.getElem?_set_ne z] at h1
        exact absurd h1 (no j wi ci) }
/-- a list that is one's own -/
structure Own1 (K : PySem.W.Frag) (W : Wd) (H0 G H : Hp) (a : Addr) (xs : List D) : Prop where
  ex : ∃ vs, H a = some (.lst vs) ∧ DrAll K G vs xs
  g : G a = none
  h0 : H0 a = none
  mu : ¬ W.mu a
theorem Own1.keep {a : Addr} {xs : List D} (h : Own1 K W H0 G H a xs) (s : Same G G') (g : G' a = none) (e : H' a = H a) : Own1 K W H0 G' H' a xs := by
  obtain ⟨vs, h1, h2⟩ := h.ex
  exact ⟨⟨vs, e.trans h1, dpAll_same s h2⟩, g, h.h0, h.mu⟩
/-- the stack: a list at l of lists -/
structure Sx (K : PySem.W.Frag) (W : Wd) (B : Nat) (G0 H0 G H : Hp) (env : DEnv) (σ : L2.St) (l : Addr) (st : List (Addr × List D)) : Prop where
  rel : Rel K W B G0 H0 G env σ H
  no : NoOwn env
  hl : H l = some (.lst (st.map fun p => .ref p.1))
  gl : G l = none
  h0 : H0 l = none
  mu : ¬ W.mu l
  nd : (l :: st.map (·.1)).Nodup
  own : ∀ p ∈ st, Own1 K W H0 G H p.1 p.2
theorem Sx.via {l : Addr} {st : List (Addr × List D)} (S : Sx K W B G0 H0 G H env σ l st) (R : Rel K W B G H G' env' σ' H') (no : NoOwn env') : Sx K W B G0 H0 G' H' env' σ' l st := by
  have kg : ∀ a o, H a = some o → G a = none → G' a = none := fun a o h1 h2 => by
    cases z : G' a with
    | none => rfl
    | some u =>
      rw [R.pn a u z h2] at h1
      cases h1
  refine ⟨R.rebase no (S.rel.toRW.trans rfl (fun a m => .inl (.inr m)) R.toRW), no, R.fr _ _ S.hl S.mu, kg _ _ S.hl S.gl, S.h0, S.mu, S.nd, fun p hp => ?_⟩
  have o := S.own p hp
  obtain ⟨vs, h1, h2⟩ := o.ex
  exact o.keep R.g0 (kg _ _ h1 o.g) ((R.fr _ _ h1 o.mu).trans h1.symm)
theorem Sx.ne {l : Addr} {st : List (Addr × List D)} (S : Sx K W B G0 H0 G H env σ l st) {p : Addr × List D} (hp : p ∈ st) : p.1 ≠ l := fun z =>
  (List.nodup_cons.mp S.nd).1 (z ▸ List.mem_map_of_mem hp)
theorem Sx.push {l p : Addr} {st : List (Addr × List D)} (S : Sx K W B G0 H0 G H env σ l st) (hp : H p = none) : Sx K W B G0 H0 G (upd (upd H p (.lst [])) l (.lst (st.map (fun q => .ref q.1) ++ [.ref p]))) env σ l (st ++ [(p, [])]) := by
  obtain ⟨R, f1, f2, f3, _⟩ := S.rel.fresh (o := .lst []) hp
  have pl : p ≠ l := fun z => by
    subst z
    rw [S.hl] at hp
    cases hp
  have np : ∀ q ∈ st, q.1 ≠ p := fun q hq z => by
    obtain ⟨vs, h1, _⟩ := (S.own q hq).ex
    rw [z, hp] at h1
    cases h1
  refine ⟨R.poke S.no S.gl S.h0 S.mu, S.no, ?_, S.gl, S.h0, S.mu, ?_, fun q hq => ?_⟩
  · rw [upd_same, List.map_append]
    rfl
  · rw [List.map_append, ← List.cons_append]
    refine List.nodup_append.mpr ⟨S.nd, by simp, fun a ha b hb z => ?_⟩
    have hb : b = p := by simpa using hb
    subst hb
    subst z
    rcases List.mem_cons.mp ha with e | e
    · exact pl e
    · obtain ⟨q, hq, e⟩ := List.mem_map.mp e
      exact np q hq e
  · rcases List.mem_append.mp hq with hq | hq
    · have o := S.own q hq
      refine o.keep (Same.refl _) o.g ?_
      rw [upd_ne (S.ne hq), upd_ne (np q hq)]
    · have e : q = (p, []) := by simpa using hq
      subst e
      refine ⟨⟨[], ?_, .nil⟩, f1, f2, f3⟩
      show upd (upd H p (.lst [])) l _ p = _
      rw [upd_ne pl, upd_same]
theorem Sx.pop {l a : Addr} {xs : List D} {st : List (Addr × List D)} (S : Sx K W B G0 H0 G H env σ l (st ++ [(a, xs)])) : Sx K W B G0 H0 G (upd H l (.lst (st.map fun q => .ref q.1))) env σ l st ∧ Own1 K W H0 G (upd H l (.lst (st.map fun q => .ref q.1))) a xs := by
  have al : a ≠ l := S.ne (p := (a, xs)) (by simp)
  refine ⟨⟨S.rel.poke S.no S.gl S.h0 S.mu, S.no, upd_same, S.gl, S.h0, S.mu, ?_, fun q hq => ?_⟩, ?_⟩
  · have := S.nd
    rw [List.map_append, ← List.cons_append] at this
    exact (List.nodup_append.mp this).1
  · have o := S.own q (List.mem_append_left _ hq)
    exact o.keep (Same.refl _) o.g (upd_ne (S.ne (List.mem_append_left _ hq)))
  · have o := S.own (a, xs) (by simp)
    exact o.keep (Same.refl _) o.g (upd_ne al)
theorem Sx.put {l a : Addr} {v : V} {x : D} {xs : List D} {vs : List V} {st : List (Addr × List D)} (S : Sx K W B G0 H0 G H env σ l (st ++ [(a, xs)])) (hv : H a = some (.lst vs)) (hd : DrAll K G vs xs) (dv : Dr K G v x) :
    Sx K W B G0 H0 G (upd H a (.lst (vs ++ [v]))) env σ l (st ++ [(a, xs ++ [x])]) := by
  have al : a ≠ l := S.ne (p := (a, xs)) (by simp)
  have o := S.own (a, xs) (by simp)
  refine ⟨S.rel.poke S.no o.g o.h0 o.mu, S.no, ?_, S.gl, S.h0, S.mu, ?_, fun q hq => ?_⟩
  · rw [upd_ne (Ne.symm al), S.hl, List.map_append, List.map_append]
    rfl
  · have := S.nd
    rw [List.map_append] at this ⊢
    exact this
  · rcases List.mem_append.mp hq with hq | hq
    · have o := S.own q (List.mem_append_left _ hq)
      refine o.keep (Same.refl _) o.g (upd_ne fun z => ?_)
      have h := S.nd
      rw [List.map_append, ← List.cons_append] at h
      exact (List.nodup_append.mp h).2.2 q.1 (List.mem_cons_of_mem _ (List.mem_map_of_mem hq)) a (by simp) z
    · have e : q = (a, xs ++ [x]) := by simpa using hq
      subst e
      exact ⟨⟨_, upd_same, dpAll_app hd (dpAll_one dv)⟩, o.g, o.h0, o.mu⟩
theorem Sx.base {l : Addr} {st : List (Addr × List D)} (S : Sx K W B G0 H0 G H env σ l st) : Rel K W B G H G env σ H := S.rel.base S.no
theorem Sx.grow {l : Addr} {st : List (Addr × List D)} (S : Sx K W B G0 H0 G H env σ l st) (g : Grow G H G' H') : Sx K W B G0 H0 G' H' env σ l st := S.via (S.base.grow g) S.no
theorem Sx.set_un {l : Addr} {i : Nat} {s : Option V} {st : List (Addr × List D)} (S : Sx K W B G0 H0 G H env σ l st) (no : NoOwn (env.set i .un)) : Sx K W B G0 H0 G H (env.set i .un) (σ.set i s) l st := { S with rel := S.rel.set_un S.no, no := no }
end
/-! ### a star at the end of targets -/
theorem pgs_star {X : Cx} {e : Expr} {es : List Expr} {t : TG} {u : TGs} {pos : Pos} (h1 : PG X e t) (h2 : PGs X es u) (hs : (assignEach (.Starred e pos :: es) X.env).map (·.2) = assign e X.env :: (assignEach es X.env).map (·.2) := by rfl) : PGs X (.Starred e pos :: es) (gCons t u) := by
  refine ⟨fun pins s σ H vs us Q I r h => ?_⟩
  obtain ⟨v, vr, e1, h⟩ := h
  subst e1
  cases r with
  | cons r rr =>
    rw [hs]
    exact assignInOrder_cons (thn (h1.run pins s σ H _ _ _ I r h) fun _ s1 ⟨σ1, H1, I1, q1⟩ => h2.run pins s1 σ1 H1 _ _ Q I1 rr q1)
theorem at_last {α : Type} (l : List α) (x : α) : atI (l ++ [x]) (-1) = some x := by
  unfold atI ixN
  have e1 : ¬ ((0 : Int) ≤ -1) := by decide
  rw [if_neg e1]
  have e2 : -((l ++ [x]).length : Int) ≤ -1 := by
    rw [List.length_append, List.length_singleton]
    omega
  rw [if_pos e2]
  have e3 : (-1 + ((l ++ [x]).length : Int)).toNat = l.length := by
    rw [List.length_append, List.length_singleton]
    omega
  show (l ++ [x])[(-1 + ((l ++ [x]).length : Int)).toNat]? = some x
  rw [e3]
  simp
end DL
namespace DL
open PySem PySem.Spec PyProof.Rows L2
/-! ### max, divmod, abs -/
def noneFree (xs : List D) : Prop := ∀ x ∈ xs, x ≠ .none
def dMax : List D → (D → Prop) → Prop
  | [.list (x :: xs)], P => (PySem.W.AlikeAll (x :: xs) ∧ noDicts (x :: xs) = true ∧ PyData.depthAll (x :: xs) ≤ 60) ∧ P (PySem.W.maxD x xs)
  | [.int i, .int j], P => P (.int (if j > i then j else i))
  | _, _ => False
def dMin : List D → (D → Prop) → Prop
  | [.int i, .int j], P => P (.int (if j < i then j else i))
  | _, _ => False
def dAbs : List D → (D → Prop) → Prop
  | [.int i], P => P (.int (if i < 0 then -i else i))
  | _, _ => False
def dDivmod : List D → (D → Prop) → Prop
  | [.int i, .int j], P => CDiv i j ∧ P (.tuple [.int (i / j), .int (i % j)])
  | _, _ => False
section
variable {X : Cx}
theorem cd_max (hc : X.calm = true) (hu : X.A.units + 64 < cLine) : CallR X (.builtin "max") (rDC X.K dMax) := by
  intro pins s σ H xs us Q I r h
  obtain ⟨G, ds, P, sG, da, hf, q⟩ := h
  unfold dMax at hf
  split at hf
  · rename_i x ys
    obtain ⟨v, rfl, d⟩ := all1 da
    obtain ⟨a, ws, rfl, h1, h2⟩ := dp_lst d
    obtain ⟨⟨ha, hn, hd⟩, hP⟩ := hf
    obtain ⟨u, rfl, r1⟩ := vals1 r
    cases r1
    have hH := sG.lst h1
    obtain ⟨its, rv, p, hz⟩ := I.list (SqL.of hH)
    have dp : DpAll X.K H ws (x :: ys) := drAll_dp (dpAll_pub sG h2 hn) hn
    obtain ⟨as, rd⟩ := Dp.readsAll I (x :: ys) ws its dp rv
    refine PySem.W.max_list_data (I.ok.hd hc) p.isList (by simpa using rd) ha (by omega) fun i v h' tk bs hv hr hk => ?_
    have hv' : its[i]? = some v := by simpa using hv
    have I' : Inv X pins σ H { s with heap := h', toks := tk } := I.kept hk
    have il : i < ws.length := by
      rw [rv.length]
      exact (List.getElem?_eq_some_iff.mp hv').1
    have hw : ws[i]? = some ws[i] := List.getElem?_eq_getElem il
    obtain ⟨z, hz2, dz⟩ := dpAll_getV h2 hw
    obtain ⟨u2, hu2, ru⟩ := rv.get hw
    rw [hv'] at hu2
    cases hu2
    have nz : noDict z = true := noDicts_mem hn (List.mem_of_getElem? hz2)
    obtain ⟨bs2, rd2⟩ := Dp.reads I' z _ _ (dr_dp (dp_pub sG dz nz) nz) ru
    have e : z = PySem.W.maxD x ys := (Reads.unique rd2 _ _ hr).1
    subst e
    exact ⟨_, H, I', ru, q _ _ G H hP (Grow.refl sG) dz⟩
  · obtain ⟨v, u, rfl, d1, d2⟩ := all2 da
    cases dp_int d1
    cases dp_int d2
    exact call_max2 hc pins s σ H _ us Q I r ⟨_, _, rfl, q _ _ G H hf (Grow.refl sG) (.int _)⟩
  · exact hf.elim
where
  noDicts_mem : ∀ {xs : List D} {x : D}, noDicts xs = true → x ∈ xs → noDict x = true
    | [], _, _, hm => by cases hm
    | y :: r, x, h, hm => by
      simp only [noDicts, Bool.and_eq_true] at h
      rcases List.mem_cons.mp hm with rfl | hm
      · exact h.1
      · exact noDicts_mem h.2 hm
theorem cd_min (hc : X.calm = true) : CallR X (.builtin "min") (rDC X.K dMin) := by
  intro pins s σ H xs us Q I r h
  obtain ⟨G, ds, P, sG, da, hf, q⟩ := h
  unfold dMin at hf
  split at hf
  · obtain ⟨v, u, rfl, d1, d2⟩ := all2 da
    cases dp_int d1
    cases dp_int d2
    exact call_min2 hc pins s σ H _ us Q I r ⟨_, _, rfl, q _ _ G H hf (Grow.refl sG) (.int _)⟩
  · exact hf.elim
theorem cd_abs : CallR X (.builtin "abs") (rDC X.K dAbs) := by
  intro pins s σ H xs us Q I r h
  obtain ⟨G, ds, P, sG, da, hf, q⟩ := h
  unfold dAbs at hf
  split at hf
  · obtain ⟨v, rfl, d1⟩ := all1 da
    cases dp_int d1
    exact call_abs pins s σ H _ us Q I r ⟨_, rfl, q _ _ G H hf (Grow.refl sG) (.int _)⟩
  · exact hf.elim
theorem cd_divmod : CallR X (.builtin "divmod") (rDC X.K dDivmod) := by
  intro pins s σ H xs us Q I r h
  obtain ⟨G, ds, P, sG, da, hf, q⟩ := h
  unfold dDivmod at hf
  split at hf
  · obtain ⟨v, u, rfl, d1, d2⟩ := all2 da
    cases dp_int d1
    cases dp_int d2
    refine call_divmod pins s σ H _ us Q I r ⟨_, _, rfl, hf.1, fun p hp => ?_⟩
    exact q _ _ _ _ hf.2 (Grow.new1 sG hp) (.tup (SqT.of upd_same) (.cons (.int _) (.cons (.int _) .nil)))
  · exact hf.elim
end
/-! ### while -/
def sWhile (nb c : Nat) (t : MT) (b : MS) : MS := fun E env => ∃ (I : Nat → DEnv → Prop) (m0 : Nat), I m0 env ∧ m0 * nb ≤ c ∧ ∀ m env, I m env → ∃ m1, m1 ≤ m ∧ t env fun k e1 => match k with
  | true => m1 + 1 ≤ m ∧ b { nx := fun e => I m1 e, rt := E.rt, bk := E.nx, ct := fun e => I m1 e } e1
  | false => E.nx e1
section
variable {X : Cx} {cnd : Expr} {body : List Stmt} {mt : MT} {ms : MS} {pos : Pos} {nt nb : Nat}
theorem gs_while (c : Nat) (hp : PassesOwn (model X.prog X.w) X.A X.env X.xe) (hc : GT X cnd nt mt) (hb : GSs X body nb ms) : GS X (.While cnd body [] pos) (c + nt) (sWhile (nt + nb) c mt ms) := ps_imp (ps_while hp hc hb) fun D σ H h => by
  obtain ⟨W, B, G0, H0, G, env, E, R, hm, q⟩ := h
  obtain ⟨Iv, m0, i0, cost, turn⟩ := hm
  refine ⟨fun m σ' H' => ∃ G' e', Same G G' ∧ Rel X.K W (B + (m * (nt + nb) + nt)) G0 H0 G' e' σ' H' ∧ Iv m e', ⟨m0, G, env, Same.refl _, R.le (by omega), i0⟩, ?_⟩
  rintro m σ' H' ⟨G', e', s', R', hI⟩
  obtain ⟨m1, hm1, ht⟩ := turn m e' hI
  refine ⟨W, B + m * (nt + nb), G0, H0, G', e', _, R'.le (by omega), ht, fun k e2 G2 H2 p2 s2 R2 => ?_⟩
  cases k with
  | true =>
    obtain ⟨hlt, p2⟩ := p2
    have hle : (m1 + 1) * (nt + nb) ≤ m * (nt + nb) := Nat.mul_le_mul_right _ hlt
    rw [Nat.add_mul, Nat.one_mul] at hle
    refine iteT ⟨fun σ4 H4 => ∃ G' e', Same G G' ∧ Rel X.K W (B + (m1 * (nt + nb) + nt)) G0 H0 G' e' σ4 H4 ∧ Iv m1 e', fun σ4 H4 h4 => ⟨m1, hlt, h4⟩, ?_⟩
    have sG : Same G G2 := s'.trans s2
    refine ⟨W, B + (m1 * (nt + nb) + nt), G0, H0, G2, e2, _, R2.le (by omega), p2, ⟨fun e5 σ5 G5 H5 p5 s5 R5 => ⟨G5, e5, sG.trans s5, R5, p5⟩, fun x e5 σ5 v G5 H5 p5 s5 R5 => q.rt x e5 σ5 v G5 H5 p5 (sG.trans s5) (R5.le (by omega)), fun e5 σ5 G5 H5 p5 s5 R5 => q.nx e5 σ5 G5 H5 p5 (sG.trans s5) (R5.le (by omega)), fun e5 σ5 G5 H5 p5 s5 R5 => ⟨G5, e5, sG.trans s5, R5, p5⟩⟩⟩
  | false => exact iteF (q.nx _ _ _ _ p2 (s'.trans s2) (R2.le (by omega)))
end
end DL
namespace DL
open PySem PySem.Spec PyProof.Rows L2
/-! ### enumerate(tuple) -/
theorem drawsT {prog : Program} {w : World} {A : Around} (ok : A.handled = none) (it l : Addr) (ne : l ≠ it) (its : Array Value) :
    Draws prog w A it [it, l] its.size (fun i v => its[i]? = some v) (fun i h => h.IsTupleIter it l i ∧ h.IsTuple l its) where
  live := fun _ _ z => by
    obtain ⟨⟨o, ho, _⟩, _⟩ := z
    exact ⟨o, ho⟩
  frame := fun _ _ _ z k => ⟨z.1.at fun o q => k it (by simp) o q, z.2.at fun o q => k l (by simp) o q⟩
  item := fun i s Q E lt z k => by
    refine RZ.nextOf_tuple_item z.1 z.2 (x := its[i]) (by simp [lt]) fun h2 a2 b2 => ?_
    exact k _ h2 s.toks (by simp [lt]) ⟨a2, z.2.extBut b2.extBut ne⟩ b2
  done := fun s Q E z k => RZ.nextOf_tuple_end ok z.1 z.2 (by simp) k
theorem enumT_new (l : Addr) (its : Array Value) (n : Nat) (dct : Option Addr) (sl : Array (Option Value)) :
    Meets (Builtin.«enumerate.__new__» ⟨[.type "enumerate", .ref l], []⟩) (fun _ R s => s.heap.get? l = some ⟨.type "tuple", dct, .seq its n, sl⟩ ∧
      R (.ok (.ret (.ref (s.heap.push { cls := .type "tuple_iterator", data := .fields #[.ref l, .int 0 0] }).objs.size)))
        { s with heap := (s.heap.push { cls := .type "tuple_iterator", data := .fields #[.ref l, .int 0 0] }).push { cls := .type "enumerate", data := .fields #[.none, .bool false, .ref s.heap.objs.size, rawInt 0, .none, .none] } }) :=
  .of_wp fun prog w A R s h => by
    obtain ⟨hp, g, d, tk, os⟩ := s
    obtain ⟨hl, h⟩ := h
    have sb := sub_enumerate
    have tp : Heap.IsTuple (Shared.heap ⟨hp, g, d, tk, os⟩) l its := ⟨_, hl, rfl, n, rfl⟩
    wp_walk using wpAny_loadPart' hl
    refine wpAny_stack_any fun st => wpAny_pure ?_
    split
    · rename_i c _ _ _ _ _
      cases (c == Value.type "enumerate")
      · wp_walk using wpAny_loadPart' hl, wpAny_pyIter_tuple tp
        exact ⟨_, rfl, h⟩
      · wp_walk using wpAny_loadPart' hl, wpAny_pyIter_tuple tp
        exact ⟨_, rfl, h⟩
    · wp_walk using wpAny_loadPart' hl, wpAny_pyIter_tuple tp
      exact ⟨_, rfl, h⟩
theorem call_enumT {prog : Program} {w : World} {A : Around} {E : Value → Shared → Prop} {s : Shared} {l : Addr} {its : Array Value} {Q : Value → Shared → Prop} (tp : s.heap.IsTuple l its)
    (h : ∀ h', IsEnum h' (s.heap.objs.size + 1) s.heap.objs.size 0 .none → h'.IsTupleIter s.heap.objs.size l 0 → (∀ b o, s.heap.get? b = some o → h'.get? b = some o) → Q (.ref (s.heap.objs.size + 1)) { s with heap := h' }) :
    wpAny (model prog w) A (call (.type "enumerate") [.ref l]) Q E s := by
  obtain ⟨⟨c, dct, dt, sl⟩, hl, hc, n, hd⟩ := tp
  simp only at hc hd
  subst hc hd
  refine callType_new F.called_enumerate (by decide) (F.typeCall_enumerate_1 _) (F.newCall_enumerate_1 _) (fun obj => F.args_object_init_2 obj _) F.entry_enumerate_new (enumT_new l its n dct sl) ⟨hl, ?_⟩
  have zs : (s.heap.push { cls := .type "tuple_iterator", data := .fields #[.ref l, .int 0 0] }).objs.size = s.heap.objs.size + 1 := Heap.size_push ..
  show _ ∧ _
  rw [zs]
  have en : IsEnum ((s.heap.push { cls := .type "tuple_iterator", data := .fields #[.ref l, .int 0 0] }).push ⟨.type "enumerate", none, .fields #[.none, .bool false, .ref s.heap.objs.size, rawInt 0, .none, .none], #[]⟩) (s.heap.objs.size + 1) s.heap.objs.size 0 .none := by
    have z := Heap.get?_push_size (s.heap.push { cls := .type "tuple_iterator", data := .fields #[.ref l, .int 0 0] }) (o := ⟨.type "enumerate", none, .fields #[.none, .bool false, .ref s.heap.objs.size, rawInt 0, .none, .none], #[]⟩) rfl
    rw [zs] at z
    exact z
  exact ⟨⟨_, en, rfl⟩, h _ en ⟨_, Heap.get?_push_of_some _ (Heap.get?_push_size _ rfl), rfl, rfl⟩ fun b o x => Heap.get?_push_of_some _ (Heap.get?_push_of_some _ x)⟩
/-- the tuple at a, each item in a new pair -/
def IteT (K : PySem.W.Frag) (a : Addr) : It :=
  ⟨fun i H => ∃ (xs : List V) (x : V), SqT K H a xs ∧ xs[i]? = some x, fun i H v H' => ∃ T x, v = .ref T ∧ H T = none ∧ H' = upd H T (.tup [.int (i : Nat), x]) ∧ ∀ xs, SqT K H a xs → xs[i]? = some x, fun i H => ∃ xs : List V, SqT K H a xs ∧ xs.length ≤ i⟩
theorem turn_enumT {P : Program} {w : World} {K : PySem.W.Frag} {elts : List Expr} {kk : Nat} {tpos : Pos} (a e it : Addr) (na : a ≠ it) (ne : a ≠ e) :
    Turn P w K (.Tuple elts kk tpos) (IteT K a) [e, it] e (fun i h => (∃ old, IsEnum h e it ((i : Nat) : Int) old) ∧ h.IsTupleIter it a i ∧ e ≠ it) where
  mem := by simp
  obj := fun i h st b hb => by
    obtain ⟨⟨old, he⟩, ⟨o, ho, hc, hd⟩, _⟩ := st
    rcases List.mem_cons.mp hb with z | z
    · rw [z]
      exact ⟨_, he, fun v q => nomatch q⟩
    · rw [List.mem_singleton.mp z]
      exact ⟨o, ho, fun v q => by rw [hd] at q; cases q⟩
  keep := fun i h h' st k => by
    obtain ⟨⟨old, he⟩, hi, hne⟩ := st
    exact ⟨⟨old, k e (by simp) _ he⟩, hi.at fun o q => k it (by simp) o q, hne⟩
  item := by
    intro X hP hw hK hc i pins s σ H E I hf st hg
    subst hP hw hK
    obtain ⟨⟨old, he⟩, hit, hne⟩ := st
    obtain ⟨xs, x, hq, hx⟩ := hg
    obtain ⟨its, rv, p, hz⟩ := I.tuple hq
    obtain ⟨u, hu, ru⟩ := rv.get hx
    have le1 : e < s.heap.objs.size := Heap.lt_size he
    have le2 : it < s.heap.objs.size := by
      obtain ⟨_, q, _⟩ := hit
      exact Heap.lt_size q
    have lt : i < its.toArray.size := by
      rw [List.size_toArray]
      exact (List.getElem?_eq_some_iff.mp hu).1
    refine wpAny_pyNext_enum_itemD (drawsT (A := X.A.in1) (I.ok.hd hc) it a na its.toArray) he ⟨hit, p⟩ lt hne (by simp [hne, Ne.symm ne]) fun y h2 tk hy ho st2 hT hsz hk => ?_
    have ey : y = u := by
      have : its.toArray[i]? = some u := by simpa using hu
      rw [this] at hy
      exact (Option.some.inj hy).symm
    subst ey
    refine ⟨_, rfl, wpAny_letOwnedTupleGo_enum (s := { s with heap := h2, toks := tk + 1 }) ho fun h3 he3 sb => ?_⟩
    have hT3 : h3.get? s.heap.objs.size = some { cls := .type "tuple", data := .seq #[.int i tk, y] } := (sb.2 _ (Nat.ne_of_gt le1)).trans hT
    have nw : ObjOk X.prog X.w (upd H s.heap.objs.size (.tup [.int (i : Nat), x])) h3 s.heap.objs.size (.tup [.int (i : Nat), x]) := ⟨by show 2 ≤ sizeLine; decide, [.int i tk, y], .cons ⟨_, rfl⟩ (.cons ru .nil), ⟨_, hT3, rfl, _, rfl⟩⟩
    have I1 : Inv X pins σ (upd H s.heap.objs.size (.tup [.int (i : Nat), x])) { s with heap := h3, toks := tk + 1 } := by
      refine I.turnedNew (ch := [e, it]) (fun b ob hb q => ?_) hf (Nat.le_refl _) nw
      have b1 : b ≠ e := fun z => hb (by simp [z])
      have b2 : b ≠ it := fun z => hb (by simp [z])
      exact (sb.2 b b1).trans (hk b ob b1 b2 q)
    refine ⟨.ref s.heap.objs.size, _, I1, rfl, ⟨_, x, rfl, I.hok.fresh (Nat.le_refl _), rfl, fun ys hy => by rw [I.tuple_inj hy hq]; exact hx⟩, ⟨⟨y, ?_⟩, st2.1.at fun o q => (sb.2 it (Ne.symm hne)).trans q, hne⟩, fun b hb => ?_⟩
    · have e1 : ((i + 1 : Nat) : Int) = (i : Int) + 1 := by omega
      rw [e1]
      exact he3
    · have lb : b < s.heap.objs.size := by
        rcases List.mem_cons.mp hb with z | z
        · rw [z]
          exact le1
        · rw [List.mem_singleton.mp z]
          exact le2
      rw [upd_ne (Nat.ne_of_lt lb)]
      exact (hf b hb).1
  done := by
    intro X hP hw hK hc i pins s σ H E I hf st hg
    subst hP hw hK
    obtain ⟨⟨old, he⟩, hit, hne⟩ := st
    obtain ⟨xs, hq, hx⟩ := hg
    obtain ⟨its, rv, p, hz⟩ := I.tuple hq
    obtain ⟨f0, f1, f2, f3, f4, f5⟩ := hf it (by simp)
    have hl := rv.length
    have D0 : Draws X.prog X.w X.A.in1 it [it, a] 0 (fun _ _ => True) (fun j h => h.IsTupleIter it a (i + j) ∧ h.IsTuple a its.toArray) :=
      { live := fun _ _ z => by
          obtain ⟨⟨o, ho, _⟩, _⟩ := z
          exact ⟨o, ho⟩
        frame := fun _ _ _ z k => ⟨z.1.at fun o q => k it (by simp) o q, z.2.at fun o q => k a (by simp) o q⟩
        item := fun j _ _ _ lt => absurd lt (Nat.not_lt_zero j)
        done := fun s Q E z k => RZ.nextOf_tuple_end (I.ok.hd hc) z.1 z.2 (by simp; omega) k }
    exact wpAny_pyNext_enum_endD D0 he ⟨hit, p⟩ fun h2 eb => ⟨rfl, I.turned (t' := s.toks) (fun b o hb q => eb b o hb q) f0 f1 f3 f4 f5⟩
  self := fun A i s Q E st h => by
    obtain ⟨⟨_, he⟩, _⟩ := st
    exact wpAny_pyIter_enum he h
def iEnumT (K : PySem.W.Frag) (ta : TA) : TI := fun σ H R => ta σ H fun vs H1 => ∃ a xs, vs = [.ref a] ∧ SqT K H1 a xs ∧ R (IteT K a) H1
theorem pi_enumT {X : Cx} {e : Expr} {ta : TA} {p pos tpos : Pos} {elts : List Expr} {kk : Nat} (hg : Gl X "enumerate") (hm : X.mg "enumerate" = none) (ha : PA X [e] ta) (hs : starEach [e] X.env = [(false, eval e X.env)] := by rfl) :
    PI X (.Tuple elts kk tpos) (.Call (.Name "enumerate" p) [e] [] pos) (iEnumT X.K ta) := by
  refine ⟨fun pins s σ H R I h => ?_⟩
  refine Call_ (ld_blt I hg hm boot_enumerate (callWith_type1 (thn (ha.run pos pins s σ H _ I h) fun us s1 ⟨vs, H1, I1, r1, q1⟩ => ?_) hs rfl))
  obtain ⟨a, xs, rfl, hq, q⟩ := q1
  obtain ⟨u, rfl, r⟩ := vals1 r1
  cases r
  obtain ⟨its, rv, tp, hz⟩ := I1.tuple hq
  have la : a < s1.heap.objs.size := by
    obtain ⟨o, ho, _⟩ := tp
    exact Heap.lt_size ho
  refine call_enumT tp fun h2 he hit hk => wpAny_pyIter_enum he ?_
  have I2 : Inv X pins σ H1 { s1 with heap := h2 } := I1.kept (t' := s1.toks) hk
  refine ⟨s1.heap.objs.size + 1, [s1.heap.objs.size + 1, s1.heap.objs.size], _, _, H1, rfl, I2, turn_enumT a (s1.heap.objs.size + 1) s1.heap.objs.size (Nat.ne_of_lt la) (Nat.ne_of_lt (Nat.lt_succ_of_lt la)), ⟨⟨.none, he⟩, hit, Nat.succ_ne_self _⟩, fun b hb => ?_, q⟩
  have lb : s1.heap.objs.size ≤ b := by
    rcases List.mem_cons.mp hb with z | z
    · rw [z]
      exact Nat.le_succ _
    · rw [List.mem_singleton.mp z]
      exact Nat.le_refl _
  exact I1.fpOk lb (I1.hok.fresh lb)
theorem itd_enumT {K : PySem.W.Frag} {G : Hp} {a : Addr} {us : List V} {ds : List D} (h1 : SqT K G a us) (h2 : DrAll K G us ds) : ItD K G (IteT K a) (pairs ds) := fun G1 H1 s1 s2 i => by
  have q : SqT K H1 a us := pub_sqT (s2.before s1) h1
  refine ⟨fun x hx => ?_, fun hl => ?_⟩
  · unfold pairs at hx
    rw [List.getElem?_mapIdx, Option.map_eq_some_iff] at hx
    obtain ⟨y, hy, rfl⟩ := hx
    obtain ⟨v, e, d⟩ := dpAll_get h2 hy
    refine ⟨⟨us, v, q, e⟩, fun w H2 z => ?_⟩
    obtain ⟨T, u, rfl, hT, rfl, z⟩ := z
    have := z us q
    rw [e] at this
    cases this
    exact ⟨_, Grow.new1 s2 hT, .tup (SqT.of upd_same) (.cons (.int _) (.cons (dp_same (s1.trans (same_upd (s2.free hT))) d) .nil))⟩
  · refine ⟨us, q, ?_⟩
    unfold pairs at hl
    rw [List.length_mapIdx] at hl
    rw [dpAll_len h2]
    exact hl
def miEnumT (a : MA) : MI := fun env P => a env fun as e1 => match as with
  | [.d (.tuple xs)] => P (pairs xs) e1
  | _ => False
theorem gi_enumT {X : Cx} {e : Expr} {m1 : MA} {n1 : Nat} {p pos tpos : Pos} {elts : List Expr} {kk : Nat} (hg : Gl X "enumerate") (hm : X.mg "enumerate" = none) (ha : GA X [e] n1 m1) (hs : starEach [e] X.env = [(false, eval e X.env)] := by rfl) :
    GI X (.Tuple elts kk tpos) (.Call (.Name "enumerate" p) [e] [] pos) n1 (miEnumT m1) := pi_imp (pi_enumT hg hm ha hs) fun σ H R h => by
  obtain ⟨W, B, G0, H0, G, env, P, Rl, hm1, q⟩ := h
  refine ⟨W, B, G0, H0, G, env, _, Rl, hm1, fun as e1 us G1 H1 p1 s1 R1 a1 => ?_⟩
  split at p1
  · cases a1 with
    | cons x1 y1 =>
      cases y1
      obtain ⟨a, ws, rfl, h1, h2⟩ := dp_tup x1
      exact ⟨a, ws, rfl, pub_sqT R1.pub h1, q _ _ _ _ _ p1 s1 R1 (itd_enumT h1 h2)⟩
  · exact p1.elim
end DL
namespace DL
open PySem PySem.Spec PyProof.Rows L2
/-! ### zip(a, b, strict=True) -/
abbrev kwS : List (Str × Value) := [("strict", .bool true)]
def zipObj (TI TO : Addr) (f0 : Value) : Obj := { cls := .type "zip", data := .fields #[f0, .bool false, .bool true, .ref TI, .ref TO] }
theorem zs_typeCall (a b : Value) : checkTypeCall "zip" ⟨[a, b], kwS⟩ = pure () := by kernel_rfl
theorem zs_newCall (a b : Value) : checkBuiltinCall "zip.__new__" ⟨[.type "zip", a, b], kwS⟩ = pure () := by kernel_rfl
theorem zs_initArgs (o a b : Value) : argsOk "object.__init__" ⟨[o, a, b], kwS⟩ := by
  unfold argsOk
  kernel_rfl
theorem zs_init (self a b : Value) : Meets (Builtin.«object.__init__» ⟨[self, a, b], kwS⟩) (fun _ R s => s.TypeIs self "zip" ∧ R (.ok (.ret .none)) s) := by
  refine Meets.of_wp fun prog w A R s hs => ?_
  obtain ⟨hT, hq⟩ := hs
  have f1 := F.called_zip.init.lookup
  have f2 := F.called_zip.made
  repeat (any_goals (first | assumption | wp_step))
  exact ⟨_, rfl, hq⟩
abbrev zsH1 (h : Heap) (l1 : Addr) : Heap := h.push { cls := .type "tuple_iterator", data := .fields #[.ref l1, .int 0 0] }
abbrev zsH2 (h : Heap) (l1 l2 : Addr) : Heap := (zsH1 h l1).push { cls := .type "tuple_iterator", data := .fields #[.ref l2, .int 0 0] }
abbrev zsH3 (h : Heap) (l1 l2 : Addr) : Heap := (zsH2 h l1 l2).push { cls := .type "tuple", data := .seq #[.ref h.objs.size, .ref (zsH1 h l1).objs.size] }
abbrev zsH4 (h : Heap) (l1 l2 : Addr) : Heap := (zsH3 h l1 l2).push { cls := .type "tuple", data := .seq #[.none, .none] }
abbrev zsH5 (h : Heap) (l1 l2 : Addr) : Heap := (zsH4 h l1 l2).push (zipObj (zsH2 h l1 l2).objs.size (zsH3 h l1 l2).objs.size .none)
theorem zs_new (l1 l2 : Addr) (xs ys : Array Value) : Meets (Builtin.«zip.__new__» ⟨[.type "zip", .ref l1, .ref l2], kwS⟩) (fun _ R s => s.heap.IsTuple l1 xs ∧ s.heap.IsTuple l2 ys ∧ R (.ok (.ret (.ref (zsH4 s.heap l1 l2).objs.size))) { s with heap := zsH5 s.heap l1 l2 }) :=
  .of_wp fun prog w A R s h => by
    obtain ⟨hp, g, d, tk, os⟩ := s
    obtain ⟨t1, t2, h⟩ := h
    have sb := sub_zip
    have T1 : Heap.IsTuple (Shared.heap ⟨hp, g, d, tk, os⟩) l1 xs := t1
    have T2 : Heap.IsTuple (Shared.heap ⟨hp.push { cls := .type "tuple_iterator", data := .fields #[.ref l1, .int 0 0] }, g, d, tk, os⟩) l2 ys := Heap.IsTuple.push t2 _
    wp_walk using wpAny_pyIter_tuple T1, wpAny_pyIter_tuple T2
    exact ⟨_, rfl, h⟩
end DL
namespace DL
open PySem PySem.Spec PyProof.Rows L2
theorem zs_call {prog : Program} {w : World} {A : Around} {E : Value → Shared → Prop} {s : Shared} {l1 l2 : Addr} {xs ys : Array Value} {Q : Value → Shared → Prop} (t1 : s.heap.IsTuple l1 xs) (t2 : s.heap.IsTuple l2 ys)
    (h : Q (.ref (zsH4 s.heap l1 l2).objs.size) { s with heap := zsH5 s.heap l1 l2 }) : wpAny (model prog w) A (call (.type "zip") [.ref l1, .ref l2] kwS) Q E s := by
  have ft := F.called_zip
  obtain ⟨c, tl, hmro⟩ := ft.mro
  have hmade := ft.made
  have hsub := ft.sub
  refine wpAny_call (codeAny_of_tree ?_)
  show wpAny _ _ (callAny (.type "zip") _) _ _ _
  refine wpAny_pure ⟨Code.quiet_builtin _ (by decide +kernel), codeAny_builtin F.entry_type_call ?_⟩
  rw [Around.under_plain (weight_type_call_type "zip" _ _) (units_type_call_type "zip" _ _)]
  have n1 := ft.notType
  have n2 := ft.canCreate
  have hct := zs_typeCall (.ref l1) (.ref l2)
  repeat (any_goals (first | assumption | wp_step))
  refine codeAny_mono (codeAny_call_builtin ft.plain F.entry_zip_new (wpAny_of_eq (zs_newCall _ _) (zs_new l1 l2 xs ys prog w A.in1 (wants (fun obj s1 => obj = .ref (zsH4 s.heap l1 l2).objs.size ∧ s1 = { s with heap := zsH5 s.heap l1 l2 }) E) s ⟨t1, t2, rfl, rfl⟩))) fun r s1 hr => ?_
  cases r with
  | error e => exact hr
  | ok fl =>
    cases fl with
    | ret obj =>
      obtain ⟨rfl, rfl⟩ := hr
      have g5 : (zsH5 s.heap l1 l2).get? (zsH4 s.heap l1 l2).objs.size = some (zipObj (zsH2 s.heap l1 l2).objs.size (zsH3 s.heap l1 l2).objs.size .none) := Heap.get?_push_size _ rfl
      have hT : Shared.TypeIs { s with heap := zsH5 s.heap l1 l2 } (.ref (zsH4 s.heap l1 l2).objs.size) "zip" := ⟨_, g5, rfl⟩
      have k1 := ft.init.lookup
      have k2 := ft.init.bind (.ref (zsH4 s.heap l1 l2).objs.size)
      repeat (any_goals (first | assumption | wp_step))
      refine codeAny_mono (codeAny_call_builtin ft.init.plain F.entry_object_init (ft.init.check _ _ _ _ _ _ _ _ hT (zs_initArgs _ _ _) (zs_init _ _ _ prog w A.in1 (wants (fun r s2 => r = .none ∧ s2 = { s with heap := zsH5 s.heap l1 l2 }) E) _ ⟨hT, rfl, rfl⟩))) fun r2 s2 hr2 => ?_
      cases r2 with
      | error e => exact hr2
      | ok f2 =>
        cases f2 with
        | ret r =>
          obtain ⟨rfl, rfl⟩ := hr2
          repeat (any_goals (first | assumption | wp_step))
        | _ => exact hr2.elim
    | _ => exact hr.elim
end DL
namespace DL
open PySem PySem.Spec PyProof.Rows L2
section
variable {prog : Program} {w : World} {A : Around} {E : Value → Shared → Prop} {s : Shared}
theorem noe_item {it l : Addr} {i : Nat} {its : Array Value} {x : Value} {Q : Option Value → Shared → Prop} (hit : s.heap.IsTupleIter it l i) (hl : s.heap.IsTuple l its) (hx : its[i]? = some x)
    (hQ : ∀ h', h'.IsTupleIter it l (i + 1) → Heap.SameBut it s.heap h' → Q (some x) { s with heap := h' }) : wpAny (model prog w) A (Builtin.SmallTypes.nextOrEnd (.ref it)) Q E s := by
  unfold Builtin.SmallTypes.nextOrEnd
  exact wpAny_bind (wpAny_attempt (RZ.nextOf_tuple_item hit hl hx fun h2 a b => wpAny_pure (hQ h2 a b)))
theorem noe_end {it l : Addr} {i : Nat} {its : Array Value} {Q : Option Value → Shared → Prop} (ok : A.handled = none) (hit : s.heap.IsTupleIter it l i) (hl : s.heap.IsTuple l its) (hx : its[i]? = none)
    (hQ : ∀ h', Heap.ExtBut it s.heap h' → Q none { s with heap := h' }) : wpAny (model prog w) A (Builtin.SmallTypes.nextOrEnd (.ref it)) Q E s := by
  unfold Builtin.SmallTypes.nextOrEnd
  refine wpAny_bind (wpAny_attempt (RZ.nextOf_tuple_end ok hit hl hx fun h2 e a b => ?_))
  obtain ⟨o, ho, hc⟩ := b
  exact wpAny_bind (wpAny_isInstance (T := "StopIteration") (b := true) ⟨o, ho, hc⟩ isSubtype_stop (wpAny_pure (hQ h2 a)))
abbrev IsZs (h : Heap) (z TI TO : Addr) (f0 : Value) : Prop := h.get? z = some { cls := .type "zip", data := .fields #[f0, .bool false, .bool true, .ref TI, .ref TO] }
theorem zs_next {z TI TO i1 i2 l1 l2 : Addr} {k1 k2 : Nat} {xs ys : Array Value} {x y a b : Value} {Q : Value → Shared → Prop} (D : ZipApart z TI TO i1 i2 l1 l2) (hz : IsZs s.heap z TI TO .none) (hTI : IsPair s.heap TI (.ref i1) (.ref i2)) (hTO : IsPair s.heap TO a b)
    (n1 : s.heap.IsTupleIter i1 l1 k1) (n2 : s.heap.IsTupleIter i2 l2 k2) (t1 : s.heap.IsTuple l1 xs) (t2 : s.heap.IsTuple l2 ys) (hx : xs[k1]? = some x) (hy : ys[k2]? = some y)
    (hQ : ∀ h', IsZs h' z TI TO (rawInt s.heap.objs.size) → IsPair h' TO x y → h'.IsTupleIter i1 l1 (k1 + 1) → h'.IsTupleIter i2 l2 (k2 + 1) → IsPair h' s.heap.objs.size x y →
      (∀ c o, c ≠ z → c ≠ TO → c ≠ i1 → c ≠ i2 → s.heap.get? c = some o → h'.get? c = some o) → Q (.ref s.heap.objs.size) { s with heap := h' }) :
    wpAny (model prog w) A (Builtin.«zip.__next__» ⟨[.ref z], []⟩) (fun fin s' => ∃ v, fin = .done (.ret v) ∧ Q v s') E s := by
  show wpAny _ _ (field (.ref z) 2 >>= _) _ _ _
  refine wpAny_bind (wpAny_field hz rfl (x := .bool true) rfl ?_)
  show wpAny _ _ (field (.ref z) 3 >>= _) _ _ _
  refine wpAny_bind (wpAny_field hz rfl (x := .ref TI) rfl (wpAny_bind (wpAny_seqItems hTI rfl ?_)))
  show wpAny _ _ (Builtin.SmallTypes.ownedTupleIsFree (.ref z) >>= _) _ _ _
  refine wpAny_bind ?_
  unfold Builtin.SmallTypes.ownedTupleIsFree
  refine wpAny_bind (wpAny_field hz rfl (x := .none) rfl (wpAny_pure ?_))
  simp only [if_true]
  refine wpAny_bind (wpAny_rule (wpAny_bind (wpAny_field hz rfl (x := .ref TO) rfl ?_)))
  refine wpAny_bind (wpAny_setField_rec hz (by simp) fun ha za sa => ?_)
  have za : IsZs ha z TI TO .ellipsis := za
  refine wpAny_bind ?_
  simp only [List.zipIdx_cons, List.zipIdx_nil, List.forIn_cons, List.forIn_nil]
  refine wpAny_bind (wpAny_bind (wpAny_onRaise ?_))
  show wpAny _ _ (Builtin.SmallTypes.nextOrEnd (.ref i1)) _ _ _
  refine noe_item (n1.extBut sa.extBut D.i1z) (t1.extBut sa.extBut D.l1z) hx fun hb nb sb => ?_
  have ob : IsPair hb TO a b := sb.extBut _ _ D.TOi1 (sa.extBut _ _ D.TOz hTO)
  refine wpAny_bind (wpAny_seqItems ob rfl (wpAny_bind (wpAny_updateSeq_pair ob fun hc oc sc => ?_)))
  have oc : IsPair hc TO x b := oc
  refine wpAny_bind (wpAny_letGo (wpAny_pure ?_))
  refine wpAny_bind (wpAny_bind (wpAny_onRaise ?_))
  show wpAny _ _ (Builtin.SmallTypes.nextOrEnd (.ref i2)) _ _ _
  refine noe_item (((n2.extBut sa.extBut D.i2z).extBut sb.extBut D.i12.symm).extBut sc.extBut D.TOi2.symm) (((t2.extBut sa.extBut D.l2z).extBut sb.extBut D.l2i1).extBut sc.extBut D.l2TO) hy fun hd nd sd => ?_
  have od : IsPair hd TO x b := sd.extBut _ _ D.TOi2 oc
  refine wpAny_bind (wpAny_seqItems od rfl (wpAny_bind (wpAny_updateSeq_pair od fun he oe se => ?_)))
  have oe : IsPair he TO x y := oe
  refine wpAny_bind (wpAny_letGo (wpAny_pure (wpAny_pure ?_)))
  refine wpAny_bind (wpAny_seqItems oe rfl (wpAny_bind (wpAny_newTuple ?_)))
  have sz : he.objs.size = s.heap.objs.size := by rw [se.1, sd.1, sc.1, sb.1, sa.1]
  have ze : IsZs he z TI TO .ellipsis := se.extBut _ _ D.TOz.symm (sd.extBut _ _ D.i2z.symm (sc.extBut _ _ D.TOz.symm (sb.extBut _ _ D.i1z.symm za)))
  have ke : ∀ c o, c ≠ z → c ≠ TO → c ≠ i1 → c ≠ i2 → s.heap.get? c = some o → he.get? c = some o := fun c o c1 c2 c3 c4 q => se.extBut _ _ c2 (sd.extBut _ _ c4 (sc.extBut _ _ c2 (sb.extBut _ _ c3 (sa.extBut _ _ c1 q))))
  have ne1 : he.IsTupleIter i1 l1 (k1 + 1) := ((nb.extBut sc.extBut D.TOi1.symm).extBut sd.extBut D.i12).extBut se.extBut D.TOi1.symm
  have ne2 : he.IsTupleIter i2 l2 (k2 + 1) := nd.extBut se.extBut D.TOi2.symm
  have zl : z < he.objs.size := Heap.lt_size ze
  show wpAny _ _ (Builtin.SmallTypes.ownedTupleHandOut (.ref z) (.ref he.objs.size) >>= _) _ _ _
  refine wpAny_bind ?_
  unfold Builtin.SmallTypes.ownedTupleHandOut
  have zf : IsZs (he.push { cls := .type "tuple", data := .seq #[x, y] }) z TI TO .ellipsis := Heap.get?_push_of_some _ ze
  refine wpAny_bind (wpAny_setField_rec zf (by simp) fun hg zg sg => ?_)
  have zg : IsZs hg z TI TO (rawInt he.objs.size) := zg
  refine wpAny_setField_rec zg (by simp) fun hh zh sh => ?_
  have zh : IsZs hh z TI TO (rawInt he.objs.size) := zh
  have up : ∀ c o, c ≠ z → he.get? c = some o → hh.get? c = some o := fun c o c1 q => sh.extBut _ _ c1 (sg.extBut _ _ c1 (Heap.get?_push_of_some _ q))
  have pr : IsPair hh he.objs.size x y := sh.extBut _ _ (Nat.ne_of_gt zl) (sg.extBut _ _ (Nat.ne_of_gt zl) (Heap.get?_push_size _ rfl))
  rw [sz] at zh pr
  refine wpAny_pure ⟨_, rfl, ?_⟩
  show Q (.ref he.objs.size) _
  rw [sz]
  exact hQ hh zh (up _ _ D.TOz oe) (ne1.at fun o q => up _ o D.i1z q) (ne2.at fun o q => up _ o D.i2z q) pr fun c o c1 c2 c3 c4 q => up c o c1 (ke c o c1 c2 c3 c4 q)
end
end DL
namespace DL
open PySem PySem.Spec PyProof.Rows L2
section
variable {prog : Program} {w : World} {A : Around} {E : Value → Shared → Prop} {s : Shared}
/-- both come to their end -/
theorem zs_end {z TI TO i1 i2 l1 l2 : Addr} {k1 k2 : Nat} {xs ys : Array Value} {a b : Value} {Q : Fin → Shared → Prop} (ok : A.handled = none) (D : ZipApart z TI TO i1 i2 l1 l2) (hz : IsZs s.heap z TI TO .none) (hTI : IsPair s.heap TI (.ref i1) (.ref i2))
    (n1 : s.heap.IsTupleIter i1 l1 k1) (n2 : s.heap.IsTupleIter i2 l2 k2) (t1 : s.heap.IsTuple l1 xs) (t2 : s.heap.IsTuple l2 ys) (hx : xs[k1]? = none) (hy : ys[k2]? = none) (hTO : IsPair s.heap TO a b)
    (hE : ∀ h' e, (∀ c o, c ≠ z → c ≠ i1 → c ≠ i2 → s.heap.get? c = some o → h'.get? c = some o) → (∃ o, h'.get? e = some o ∧ o.cls = .type "StopIteration") → E (.ref e) { s with heap := h' }) :
    wpAny (model prog w) A (Builtin.«zip.__next__» ⟨[.ref z], []⟩) Q E s := by
  show wpAny _ _ (field (.ref z) 2 >>= _) _ _ _
  refine wpAny_bind (wpAny_field hz rfl (x := .bool true) rfl ?_)
  show wpAny _ _ (field (.ref z) 3 >>= _) _ _ _
  refine wpAny_bind (wpAny_field hz rfl (x := .ref TI) rfl (wpAny_bind (wpAny_seqItems hTI rfl ?_)))
  show wpAny _ _ (Builtin.SmallTypes.ownedTupleIsFree (.ref z) >>= _) _ _ _
  refine wpAny_bind ?_
  unfold Builtin.SmallTypes.ownedTupleIsFree
  refine wpAny_bind (wpAny_field hz rfl (x := .none) rfl (wpAny_pure ?_))
  simp only [if_true]
  refine wpAny_bind (wpAny_rule (wpAny_bind (wpAny_field hz rfl (x := .ref TO) rfl ?_)))
  refine wpAny_bind (wpAny_setField_rec hz (by simp) fun ha za sa => ?_)
  have za : IsZs ha z TI TO .ellipsis := za
  refine wpAny_bind ?_
  simp only [List.zipIdx_cons, List.zipIdx_nil, List.forIn_cons, List.forIn_nil]
  refine wpAny_bind (wpAny_bind (wpAny_onRaise ?_))
  show wpAny _ _ (Builtin.SmallTypes.nextOrEnd (.ref i1)) _ _ _
  refine noe_end ok (n1.extBut sa.extBut D.i1z) (t1.extBut sa.extBut D.l1z) hx fun hb eb => ?_
  have zb : IsZs hb z TI TO .ellipsis := eb _ _ D.i1z.symm za
  refine wpAny_bind (wpAny_setField_rec zb (by simp) fun hc zc sc => ?_)
  have up : ∀ c o, c ≠ z → c ≠ i1 → s.heap.get? c = some o → hc.get? c = some o := fun c o c1 c2 q => sc.extBut _ _ c1 (eb _ _ c2 (sa.extBut _ _ c1 q))
  have N2 : hc.IsTupleIter i2 l2 k2 := n2.at fun o q => up i2 o D.i2z D.i12.symm q
  have T2 : hc.IsTuple l2 ys := t2.at fun o q => up l2 o D.l2z D.l2i1 q
  refine wpAny_bind ?_
  refine wpAny_bind ?_
  simp only [List.drop_succ_cons, List.drop_zero, List.zipIdx_cons, List.zipIdx_nil, List.forIn_cons, List.forIn_nil]
  refine wpAny_bind (wpAny_bind (noe_end ok N2 T2 hy fun hd ed => ?_))
  refine wpAny_ite_false (decide_eq_false (by simp)) (wpAny_pure (wpAny_pure ?_))
  refine wpAny_bind (wpAny_rule ?_)
  show wpAny _ _ (newExc (.type "StopIteration") [] >>= _) _ _ _
  refine wpAny_bind ?_
  simp only [newExc, newTuple]
  refine wpAny_bind (wpAny_newObj_type (wpAny_bind (m := firstArgMember _ _) (wpAny_of_eq (a := Value.none) (by first | rfl | (simp only [firstArgMember]; rfl)) (wpAny_newObj_type ?_ (by size_fits)))) (by size_fits))
  simp only [raiseNew]
  refine wpAny_bind (wpAny_handled ?_)
  rw [ok]
  refine wpAny_bind (wpAny_pure (wpAny_throw ?_))
  exact hE _ _ (fun c o c1 c2 c3 q => Heap.get?_push_of_some _ (Heap.get?_push_of_some _ (ed _ _ c3 (up c o c1 c2 q)))) ⟨_, Heap.get?_push_size _ rfl, rfl⟩
theorem zs_go {elts : List Expr} {x1 : Nat} {pos : Pos} {z TI TO T : Addr} {Q : Unit → Shared → Prop} (hz : IsZs s.heap z TI TO (rawInt T)) (hQ : ∀ h', IsZs h' z TI TO .none → Heap.SameBut z s.heap h' → Q () { s with heap := h' }) :
    wpAny (model prog w) A (letOwnedTupleGo (.Tuple elts x1 pos) (.ref z) (.ref T)) Q E s := by
  unfold letOwnedTupleGo
  refine wpAny_bind (wpAny_load hz ?_)
  refine wpAny_ite_true (decide_eq_true (by simp)) ?_
  exact wpAny_bind (wpAny_rule (wpAny_setField_rec hz (by simp) fun h2 a b => hQ h2 a b))
theorem zs_iter {z TI TO : Addr} {f0 : Value} {Q : Value → Shared → Prop} (hz : IsZs s.heap z TI TO f0) (h : Q (.ref z) s) : wpAny (model prog w) A (pyIter (.ref z)) Q E s := by
  have hT : s.TypeIs (.ref z) "zip" := ⟨_, hz, rfl⟩
  refine wpAny_pyIter_slot hT F.slot_zip_iter (wpAny_call_entry F.slot_zip_iter hT F.entry_zip_iter ?_ (F.args_zip_iter_1 _))
  exact wpAny_pure ⟨_, rfl, "zip", _, hT, F.slot_zip_next.lookup, h⟩
end
end DL
namespace DL
open PySem PySem.Spec PyProof.Rows L2
section
variable {prog : Program} {w : World} {A : Around} {E : Value → Shared → Prop} {s : Shared}
theorem zs_pyNext {z TI TO i1 i2 l1 l2 : Addr} {k1 k2 : Nat} {xs ys : Array Value} {x y a b : Value} {Q : Option Value → Shared → Prop} (D : ZipApart z TI TO i1 i2 l1 l2) (hz : IsZs s.heap z TI TO .none) (hTI : IsPair s.heap TI (.ref i1) (.ref i2)) (hTO : IsPair s.heap TO a b)
    (n1 : s.heap.IsTupleIter i1 l1 k1) (n2 : s.heap.IsTupleIter i2 l2 k2) (t1 : s.heap.IsTuple l1 xs) (t2 : s.heap.IsTuple l2 ys) (hx : xs[k1]? = some x) (hy : ys[k2]? = some y)
    (hQ : ∀ h', IsZs h' z TI TO (rawInt s.heap.objs.size) → IsPair h' TO x y → h'.IsTupleIter i1 l1 (k1 + 1) → h'.IsTupleIter i2 l2 (k2 + 1) → IsPair h' s.heap.objs.size x y →
      (∀ c o, c ≠ z → c ≠ TO → c ≠ i1 → c ≠ i2 → s.heap.get? c = some o → h'.get? c = some o) → Q (some (.ref s.heap.objs.size)) { s with heap := h' }) : wpAny (model prog w) A (pyNext (.ref z)) Q E s := by
  have hT : s.TypeIs (.ref z) "zip" := ⟨_, hz, rfl⟩
  unfold pyNext
  exact wpAny_bind (wpAny_attempt (wpAny_callSpecial?_slot (name := Str.ofString "__next__") hT F.slot_zip_next (wpAny_call_entry F.slot_zip_next hT F.entry_zip_next (zs_next D hz hTI hTO n1 n2 t1 t2 hx hy fun h2 a1 a2 a3 a4 a5 a6 => wpAny_pure (hQ h2 a1 a2 a3 a4 a5 a6)) (F.args_zip_next_1 _))))
theorem zs_pyEnd {z TI TO i1 i2 l1 l2 : Addr} {k1 k2 : Nat} {xs ys : Array Value} {a b : Value} {Q : Option Value → Shared → Prop} (ok : A.handled = none) (D : ZipApart z TI TO i1 i2 l1 l2) (hz : IsZs s.heap z TI TO .none) (hTI : IsPair s.heap TI (.ref i1) (.ref i2)) (hTO : IsPair s.heap TO a b)
    (n1 : s.heap.IsTupleIter i1 l1 k1) (n2 : s.heap.IsTupleIter i2 l2 k2) (t1 : s.heap.IsTuple l1 xs) (t2 : s.heap.IsTuple l2 ys) (hx : xs[k1]? = none) (hy : ys[k2]? = none)
    (hQ : ∀ h', (∀ c o, c ≠ z → c ≠ i1 → c ≠ i2 → s.heap.get? c = some o → h'.get? c = some o) → Q none { s with heap := h' }) : wpAny (model prog w) A (pyNext (.ref z)) Q E s := by
  have hT : s.TypeIs (.ref z) "zip" := ⟨_, hz, rfl⟩
  unfold pyNext
  refine wpAny_bind (wpAny_attempt (wpAny_callSpecial?_slot (name := Str.ofString "__next__") hT F.slot_zip_next (wpAny_call_entry F.slot_zip_next hT F.entry_zip_next (zs_end ok D hz hTI n1 n2 t1 t2 hx hy hTO fun h2 e k q => ?_) (F.args_zip_next_1 _))))
  obtain ⟨o, ho, hc⟩ := q
  exact wpAny_bind (wpAny_isInstance (T := "StopIteration") (b := true) ⟨o, ho, hc⟩ isSubtype_stop (wpAny_pure (hQ _ k)))
end
/-- the tuples at a and b, of one length -/
def ItzS (K : PySem.W.Frag) (a b : Addr) : It :=
  ⟨fun i H => ∃ (xs ys : List V) (x y : V), SqT K H a xs ∧ SqT K H b ys ∧ xs[i]? = some x ∧ ys[i]? = some y, fun i H v H' => ∃ T x y, v = .ref T ∧ H T = none ∧ H' = upd H T (.tup [x, y]) ∧ (∀ xs, SqT K H a xs → xs[i]? = some x) ∧ ∀ ys, SqT K H b ys → ys[i]? = some y,
    fun i H => ∃ xs ys : List V, SqT K H a xs ∧ SqT K H b ys ∧ xs.length ≤ i ∧ ys.length ≤ i⟩
theorem turn_zipS {P : Program} {w : World} {K : PySem.W.Frag} {elts : List Expr} {kk : Nat} {tpos : Pos} {a b z TI TO i1 i2 : Addr} (D : ZipApart z TI TO i1 i2 a b) :
    Turn P w K (.Tuple elts kk tpos) (ItzS K a b) [z, TI, TO, i1, i2] z (fun i h => IsZs h z TI TO .none ∧ IsPair h TI (.ref i1) (.ref i2) ∧ (∃ x y, IsPair h TO x y) ∧ h.IsTupleIter i1 a i ∧ h.IsTupleIter i2 b i) where
  mem := by simp
  obj := fun i h st c hc => by
    obtain ⟨hz, hTI, ⟨x, y, hTO⟩, ⟨o1, e1, _, d1⟩, ⟨o2, e2, _, d2⟩⟩ := st
    simp only [List.mem_cons, List.not_mem_nil, or_false] at hc
    rcases hc with rfl | rfl | rfl | rfl | rfl
    · exact ⟨_, hz, fun v q => nomatch q⟩
    · exact ⟨_, hTI, fun v q => nomatch q⟩
    · exact ⟨_, hTO, fun v q => nomatch q⟩
    · exact ⟨o1, e1, fun v q => by rw [d1] at q; cases q⟩
    · exact ⟨o2, e2, fun v q => by rw [d2] at q; cases q⟩
  keep := fun i h h' st k => by
    obtain ⟨hz, hTI, ⟨x, y, hTO⟩, n1, n2⟩ := st
    exact ⟨k z (by simp) _ hz, k TI (by simp) _ hTI, ⟨x, y, k TO (by simp) _ hTO⟩, n1.at fun o q => k i1 (by simp) o q, n2.at fun o q => k i2 (by simp) o q⟩
  item := by
    intro X hP hw hK hc i pins s σ H E I hf st hg
    subst hP hw hK
    obtain ⟨hz, hTI, ⟨x0, y0, hTO⟩, n1, n2⟩ := st
    obtain ⟨xs, ys, x, y, hqx, hqy, hx, hy⟩ := hg
    obtain ⟨its, rv, t1, _⟩ := I.tuple hqx
    obtain ⟨its2, rv2, t2, _⟩ := I.tuple hqy
    obtain ⟨u, hu, ru⟩ := rv.get hx
    obtain ⟨u2, hu2, ru2⟩ := rv2.get hy
    have zl : z < s.heap.objs.size := Heap.lt_size hz
    have lts : ∀ c ∈ [z, TI, TO, i1, i2], c < s.heap.objs.size := fun c hcm => by
      simp only [List.mem_cons, List.not_mem_nil, or_false] at hcm
      rcases hcm with rfl | rfl | rfl | rfl | rfl
      · exact zl
      · exact Heap.lt_size hTI
      · exact Heap.lt_size hTO
      · obtain ⟨_, q, _⟩ := n1
        exact Heap.lt_size q
      · obtain ⟨_, q, _⟩ := n2
        exact Heap.lt_size q
    refine zs_pyNext D hz hTI hTO n1 n2 t1 t2 (x := u) (y := u2) (by simpa using hu) (by simpa using hu2) fun h2 z2 o2 m1 m2 hT hk => ?_
    refine ⟨_, rfl, zs_go (s := { s with heap := h2 }) z2 fun h3 z3 sb => ?_⟩
    have hT3 : h3.get? s.heap.objs.size = some { cls := .type "tuple", data := .seq #[u, u2] } := (sb.2 _ (Nat.ne_of_gt zl)).trans hT
    have nw : ObjOk X.prog X.w (upd H s.heap.objs.size (.tup [x, y])) h3 s.heap.objs.size (.tup [x, y]) := ⟨by show 2 ≤ sizeLine; decide, [u, u2], .cons ru (.cons ru2 .nil), ⟨_, hT3, rfl, _, rfl⟩⟩
    have I1 : Inv X pins σ (upd H s.heap.objs.size (.tup [x, y])) { s with heap := h3 } := by
      refine I.turnedNew (t' := s.toks) (ch := [z, TI, TO, i1, i2]) (fun c o hb q => ?_) hf (Nat.le_refl _) nw
      simp only [List.mem_cons, List.not_mem_nil, or_false, not_or] at hb
      exact (sb.2 c hb.1).trans (hk c o hb.1 hb.2.2.1 hb.2.2.2.1 hb.2.2.2.2 q)
    refine ⟨.ref s.heap.objs.size, _, I1, rfl, ⟨_, x, y, rfl, I.hok.fresh (Nat.le_refl _), rfl, fun l hl => by rw [I.tuple_inj hl hqx]; exact hx, fun l hl => by rw [I.tuple_inj hl hqy]; exact hy⟩, ⟨z3, ?_, ⟨u, u2, ?_⟩, ?_, ?_⟩, fun c hcm => ?_⟩
    · exact (sb.2 _ D.TIz).trans (hk _ _ D.TIz D.TITO D.TIi1 D.TIi2 hTI)
    · exact (sb.2 _ D.TOz).trans o2
    · exact m1.at fun o q => (sb.2 _ D.i1z).trans q
    · exact m2.at fun o q => (sb.2 _ D.i2z).trans q
    · rw [upd_ne (Nat.ne_of_lt (lts c hcm))]
      exact (hf c hcm).1
  done := by
    intro X hP hw hK hc i pins s σ H E I hf st hg
    subst hP hw hK
    obtain ⟨hz, hTI, ⟨x0, y0, hTO⟩, n1, n2⟩ := st
    obtain ⟨xs, ys, hqx, hqy, e1, e2⟩ := hg
    obtain ⟨its, rv, t1, _⟩ := I.tuple hqx
    obtain ⟨its2, rv2, t2, _⟩ := I.tuple hqy
    have l1 := rv.length
    have l2 := rv2.length
    refine zs_pyEnd (I.ok.hd hc) D hz hTI hTO n1 n2 t1 t2 (by simp; omega) (by simp; omega) fun h2 hk => ⟨rfl, ?_⟩
    refine I.turnedL (t' := s.toks) (ch := [z, TI, TO, i1, i2]) (fun c o hb q => ?_) hf
    simp only [List.mem_cons, List.not_mem_nil, or_false, not_or] at hb
    exact hk c o hb.1 hb.2.2.2.1 hb.2.2.2.2 q
  self := fun A i s Q E st h => zs_iter st.1 h
end DL
namespace DL
open PySem PySem.Spec PyProof.Rows L2
theorem cw_typeK {M : Model} {A : Around} {E : Value → Shared → Prop} {s : Shared} {env : Env} {pos : Pos} {T : String} {e : Expr} {rest : List Expr} {kws : List Keyword} {Q : Value → Shared → Prop}
    (h : wpAny M A (spliced (backTo pos (starEach (e :: rest) env))) (fun vs s1 => wpAny M A (evalAll ((backToKw pos (keywordEach kws env)).map (·.2))) (fun kvs s2 => wpAny M A (call (.type T) vs (((backToKw pos (keywordEach kws env)).filterMap (·.1)).zip kvs)) Q E s2) E s1) E s)
    (he : backTo pos (starEach (e :: rest) env) = (false, eval e env) :: backTo pos (starEach rest env)) (hpl : (backTo pos (starEach (e :: rest) env)).any (·.1) = false) (hall : (backToKw pos (keywordEach kws env)).all (·.1.isSome) = true) (hkw : (backToKw pos (keywordEach kws env)).any (·.1.isNone) = false) :
    wpAny M A (callWith pos (.type T) [] (backTo pos (starEach (e :: rest) env)) (backToKw pos (keywordEach kws env))) Q E s := by
  unfold callWith
  have h2 : wpAny M A (evalArgs (.type T) true (backTo pos (starEach (e :: rest) env)) (backToKw pos (keywordEach kws env))) (fun a s1 => wpAny M A (call (.type T) ([] ++ a.pos) a.kw) Q E s1) E s := by
    rw [he] at h ⊢
    exact evalArgs_kwB hall h
  refine wpAny_bind (wpAny_holding (wpAny_mono h2 (fun a s1 h1 => wpAny_bind (wpAny_standAt ?_)) fun _ _ x => x))
  simp only [hpl, hkw, Bool.or_false]
  exact wpAny_bind (wpAny_pure (wpAny_bind (wpAny_mono h1 (fun r s2 hr => wpAny_bind (wpAny_holding (wpAny_point (wpAny_pure hr)))) fun _ _ x => x)))
def iZipS (K : PySem.W.Frag) (ta : TA) : TI := fun σ H R => ta σ H fun vs H1 => ∃ a b xs ys, vs = [.ref a, .ref b] ∧ SqT K H1 a xs ∧ SqT K H1 b ys ∧ R (ItzS K a b) H1
theorem pi_zipS {X : Cx} {e e2 : Expr} {ta : TA} {p pos tpos kp kp2 : Pos} {elts : List Expr} {kk j : Nat} (hg : Gl X "zip") (hm : X.mg "zip" = none) (ha : PA X [e, e2] ta)
    (he : backTo pos (starEach [e, e2] X.env) = (false, eval e X.env) :: backTo pos (starEach [e2] X.env) := by rfl) (hpl : (backTo pos (starEach [e, e2] X.env)).any (·.1) = false := by rfl) :
    PI X (.Tuple elts kk tpos) (.Call (.Name "zip" p) [e, e2] [⟨some "strict", .Constant (.bool true) j kp, kp2⟩] pos) (iZipS X.K ta) := by
  refine ⟨fun pins s σ H R I h => ?_⟩
  refine wpAny_Call_Name_kw (ld_blt I hg hm boot_zip ?_)
  refine cw_typeK (thn (ha.run pos pins s σ H _ I h) fun us s1 ⟨vs, H1, I1, r1, q1⟩ => ?_) he hpl rfl rfl
  have hk : PK X [⟨some "strict", .Constant (.bool true) j kp, kp2⟩] (tCons (tC (.bl true)) tNil) := pk_cons pe_bl pk_nil
  refine thn (hk.run pos pins s1 σ H1 (fun zs H2 => zs = [.bl true] ∧ H2 = H1) I1 ⟨rfl, rfl⟩) fun ws s2 ⟨zs, H2, I2, r2, q2⟩ => ?_
  obtain ⟨rfl, rfl⟩ := q2
  obtain ⟨u, rfl, ru⟩ := r2.one
  cases ru
  obtain ⟨a, b, xs, ys, rfl, hqx, hqy, q⟩ := q1
  cases r1 with
  | cons ra rr =>
    cases rr with
    | cons rb rr =>
      cases rr
      cases ra
      cases rb
      obtain ⟨its, rv, t1, _⟩ := I2.tuple hqx
      obtain ⟨its2, rv2, t2, _⟩ := I2.tuple hqy
      have la : a < s2.heap.objs.size := by
        obtain ⟨o, ho, _⟩ := t1
        exact Heap.lt_size ho
      have lb : b < s2.heap.objs.size := by
        obtain ⟨o, ho, _⟩ := t2
        exact Heap.lt_size ho
      show wpAny _ _ (call (.type "zip") [.ref a, .ref b] kwS) _ _ _
      refine zs_call t1 t2 ?_
      have z1 : (zsH1 s2.heap a).objs.size = s2.heap.objs.size + 1 := Heap.size_push ..
      have z2 : (zsH2 s2.heap a b).objs.size = s2.heap.objs.size + 2 := by rw [Heap.size_push, z1]
      have z3 : (zsH3 s2.heap a b).objs.size = s2.heap.objs.size + 3 := by rw [Heap.size_push, z2]
      have z4 : (zsH4 s2.heap a b).objs.size = s2.heap.objs.size + 4 := by rw [Heap.size_push, z3]
      have g5 : IsZs (zsH5 s2.heap a b) (zsH4 s2.heap a b).objs.size (zsH2 s2.heap a b).objs.size (zsH3 s2.heap a b).objs.size .none := Heap.get?_push_size _ rfl
      have g4 : IsPair (zsH5 s2.heap a b) (zsH3 s2.heap a b).objs.size .none .none := Heap.get?_push_of_some _ (Heap.get?_push_size _ rfl)
      have g3 : IsPair (zsH5 s2.heap a b) (zsH2 s2.heap a b).objs.size (.ref s2.heap.objs.size) (.ref (zsH1 s2.heap a).objs.size) := Heap.get?_push_of_some _ (Heap.get?_push_of_some _ (Heap.get?_push_size _ rfl))
      have g2 : (zsH5 s2.heap a b).IsTupleIter (zsH1 s2.heap a).objs.size b 0 := ⟨_, Heap.get?_push_of_some _ (Heap.get?_push_of_some _ (Heap.get?_push_of_some _ (Heap.get?_push_size _ rfl))), rfl, rfl⟩
      have g1 : (zsH5 s2.heap a b).IsTupleIter s2.heap.objs.size a 0 := ⟨_, Heap.get?_push_of_some _ (Heap.get?_push_of_some _ (Heap.get?_push_of_some _ (Heap.get?_push_of_some _ (Heap.get?_push_size _ rfl)))), rfl, rfl⟩
      have kp5 : ∀ c o, s2.heap.get? c = some o → (zsH5 s2.heap a b).get? c = some o := fun c o q => Heap.get?_push_of_some _ (Heap.get?_push_of_some _ (Heap.get?_push_of_some _ (Heap.get?_push_of_some _ (Heap.get?_push_of_some _ q))))
      rw [z2, z3, z4] at g5
      rw [z3] at g4
      rw [z2, z1] at g3
      rw [z1] at g2
      rw [z4]
      refine zs_iter g5 ?_
      have I3 : Inv X pins σ H2 { s2 with heap := zsH5 s2.heap a b } := I2.kept (t' := s2.toks) kp5
      refine ⟨s2.heap.objs.size + 4, [s2.heap.objs.size + 4, s2.heap.objs.size + 2, s2.heap.objs.size + 3, s2.heap.objs.size, s2.heap.objs.size + 1], _, _, H2, rfl, I3, turn_zipS (PySem.W.ktu_apart s2.heap.objs.size a b la lb), ⟨g5, g3, ⟨_, _, g4⟩, g1, g2⟩, fun c hcm => ?_, q⟩
      have le : s2.heap.objs.size ≤ c := by
        simp only [List.mem_cons, List.not_mem_nil, or_false] at hcm
        rcases hcm with rfl | rfl | rfl | rfl | rfl
        · exact Nat.le_add_right _ _
        · exact Nat.le_add_right _ _
        · exact Nat.le_add_right _ _
        · exact Nat.le_refl _
        · exact Nat.le_add_right _ _
      exact I2.fpOk le (I2.hok.fresh le)
/-! ### zip at the level of data -/
def zipD (xs ys : List D) : List D := List.zipWith (fun x y => .tuple [x, y]) xs ys
theorem zipD_get {xs ys : List D} {i : Nat} {v : D} (h : (zipD xs ys)[i]? = some v) : ∃ x y, xs[i]? = some x ∧ ys[i]? = some y ∧ v = .tuple [x, y] := by
  unfold zipD at h
  rw [List.getElem?_zipWith] at h
  cases hx : xs[i]? with
  | none => rw [hx] at h; cases h
  | some x =>
    cases hy : ys[i]? with
    | none => rw [hx, hy] at h; cases h
    | some y =>
      rw [hx, hy] at h
      exact ⟨x, y, rfl, rfl, (Option.some.inj h).symm⟩
theorem itd_zipS {K : PySem.W.Frag} {G : Hp} {a b : Addr} {us ws : List V} {xs ys : List D} (h1 : SqT K G a us) (h2 : DrAll K G us xs) (k1 : SqT K G b ws) (k2 : DrAll K G ws ys) (hl : xs.length = ys.length) : ItD K G (ItzS K a b) (zipD xs ys) := fun G1 H1 s1 s2 i => by
  have q := pub_sqT (s2.before s1) h1
  have r := pub_sqT (s2.before s1) k1
  refine ⟨fun v hv => ?_, fun hle => ?_⟩
  · obtain ⟨x, y, hx, hy, rfl⟩ := zipD_get hv
    obtain ⟨u, eu, du⟩ := dpAll_get h2 hx
    obtain ⟨t, et, dt⟩ := dpAll_get k2 hy
    refine ⟨⟨us, ws, u, t, q, r, eu, et⟩, fun v2 H2 z => ?_⟩
    obtain ⟨T, x2, y2, rfl, hT, rfl, z1, z2⟩ := z
    have e1 := z1 us q
    have e2 := z2 ws r
    rw [eu] at e1
    rw [et] at e2
    cases e1
    cases e2
    have sg := s1.trans (same_upd (o := .tup [u, t]) (s2.free hT))
    exact ⟨_, Grow.new1 s2 hT, .tup (SqT.of upd_same) (.cons (dp_same sg du) (.cons (dp_same sg dt) .nil))⟩
  · unfold zipD at hle
    rw [List.length_zipWith] at hle
    exact ⟨us, ws, q, r, by rw [dpAll_len h2]; omega, by rw [dpAll_len k2]; omega⟩
theorem itd_zipT {K : PySem.W.Frag} {G : Hp} {a b : Addr} {us ws : List V} {xs ys : List D} (h1 : SqT K G a us) (h2 : DrAll K G us xs) (k1 : SqT K G b ws) (k2 : DrAll K G ws ys) : ItD K G (RZ.ItzT K a b) (zipD xs ys) := fun G1 H1 s1 s2 i => by
  have q := pub_sqT (s2.before s1) h1
  have r := pub_sqT (s2.before s1) k1
  refine ⟨fun v hv => ?_, fun hle => ?_⟩
  · obtain ⟨x, y, hx, hy, rfl⟩ := zipD_get hv
    obtain ⟨u, eu, du⟩ := dpAll_get h2 hx
    obtain ⟨t, et, dt⟩ := dpAll_get k2 hy
    refine ⟨⟨us, ws, u, t, q, r, eu, et⟩, fun v2 H2 z => ?_⟩
    obtain ⟨T, x2, y2, rfl, hT, rfl, z1, z2⟩ := z
    have e1 := z1 us q
    have e2 := z2 ws r
    rw [eu] at e1
    rw [et] at e2
    cases e1
    cases e2
    have sg := s1.trans (same_upd (o := .tup [u, t]) (s2.free hT))
    exact ⟨_, Grow.new1 s2 hT, .tup (SqT.of upd_same) (.cons (dp_same sg du) (.cons (dp_same sg dt) .nil))⟩
  · unfold zipD at hle
    rw [List.length_zipWith] at hle
    refine ⟨us, ws, q, r, ?_⟩
    rw [dpAll_len h2, dpAll_len k2]
    omega
def miZipS (a : MA) : MI := fun env P => a env fun as e1 => match as with
  | [.d (.tuple xs), .d (.tuple ys)] => xs.length = ys.length ∧ P (zipD xs ys) e1
  | _ => False
def miZipT (a : MA) : MI := fun env P => a env fun as e1 => match as with
  | [.d (.tuple xs), .d (.tuple ys)] => P (zipD xs ys) e1
  | _ => False
section
variable {X : Cx} {e e2 : Expr} {m1 : MA} {n1 : Nat} {p pos tpos kp kp2 : Pos} {elts : List Expr} {kk j : Nat}
theorem gi_zipS (hg : Gl X "zip") (hm : X.mg "zip" = none) (ha : GA X [e, e2] n1 m1) (he : backTo pos (starEach [e, e2] X.env) = (false, eval e X.env) :: backTo pos (starEach [e2] X.env) := by rfl) (hpl : (backTo pos (starEach [e, e2] X.env)).any (·.1) = false := by rfl) :
    GI X (.Tuple elts kk tpos) (.Call (.Name "zip" p) [e, e2] [⟨some "strict", .Constant (.bool true) j kp, kp2⟩] pos) n1 (miZipS m1) := pi_imp (pi_zipS hg hm ha he hpl) fun σ H R h => by
  obtain ⟨W, B, G0, H0, G, env, P, Rl, hm1, q⟩ := h
  refine ⟨W, B, G0, H0, G, env, _, Rl, hm1, fun as e1 us G1 H1 p1 s1 R1 a1 => ?_⟩
  split at p1
  · cases a1 with
    | cons x1 y1 =>
      cases y1 with
      | cons y1 z1 =>
        cases z1
        obtain ⟨a, ws, rfl, h1, h2⟩ := dp_tup x1
        obtain ⟨b, vs, rfl, k1, k2⟩ := dp_tup y1
        exact ⟨a, b, ws, vs, rfl, pub_sqT R1.pub h1, pub_sqT R1.pub k1, q _ _ _ _ _ p1.2 s1 R1 (itd_zipS h1 h2 k1 k2 p1.1)⟩
  · exact p1.elim
theorem gi_zipT (hg : Gl X "zip") (hm : X.mg "zip" = none) (ha : GA X [e, e2] n1 m1) (hs : starEach [e, e2] X.env = (false, eval e X.env) :: starEach [e2] X.env := by rfl) (hpl : (backTo pos (starEach [e2] X.env)).any (·.1) = false := by rfl) :
    GI X (.Tuple elts kk tpos) (.Call (.Name "zip" p) [e, e2] [] pos) n1 (miZipT m1) := pi_imp (RZ.pi_zipA hg hm ha hs hpl) fun σ H R h => by
  obtain ⟨W, B, G0, H0, G, env, P, Rl, hm1, q⟩ := h
  refine ⟨W, B, G0, H0, G, env, _, Rl, hm1, fun as e1 us G1 H1 p1 s1 R1 a1 => ?_⟩
  split at p1
  · cases a1 with
    | cons x1 y1 =>
      cases y1 with
      | cons y1 z1 =>
        cases z1
        obtain ⟨a, ws, rfl, h1, h2⟩ := dp_tup x1
        obtain ⟨b, vs, rfl, k1, k2⟩ := dp_tup y1
        exact ⟨a, b, ws, vs, rfl, .inr ⟨pub_sqT R1.pub h1, pub_sqT R1.pub k1, q _ _ _ _ _ p1 s1 R1 (itd_zipT h1 h2 k1 k2)⟩⟩
  · exact p1.elim
end
end DL
namespace DL
open PySem PySem.Spec PyProof.Rows L2
/-! ### a built-in with keywords -/
def rDCK (K : PySem.W.Frag) (f : List D → List D → (D → Prop) → Prop) : List V → List V → Hp → VK → Prop := fun xs zs H Q => ∃ (G : Hp) (ds es : List D) (P : D → Prop), Pub G H ∧ DrAll K G xs ds ∧ DrAll K G zs es ∧ f ds es P ∧ ∀ z v G' H', P z → Grow G H G' H' → Dr K G' v z → Q v H'
def mCBK (f : List D → List D → (D → Prop) → Prop) (a k : MA) : ME := fun env P => a env fun as e1 => mDats as fun ds => k e1 fun ks e2 => mDats ks fun es => f ds es fun z => P z e2
def dMaxK : List D → List D → (D → Prop) → Prop
  | [.list []], [d], P => P d
  | [.list (x :: xs)], [_], P => (PySem.W.AlikeAll (x :: xs) ∧ noDicts (x :: xs) = true ∧ PyData.depthAll (x :: xs) ≤ 60) ∧ P (PySem.W.maxD x xs)
  | _, _, _ => False
section
variable {X : Cx} {x : Str} {p pos : Pos} {e : Expr} {es : List Expr} {kws : List Keyword} {id : String} {ks : List Str} {m1 mk : MA} {n1 nk : Nat} {f : List D → List D → (D → Prop) → Prop}
theorem ge_callBK (hc : CallRK X (.builtin id) ks (rDCK X.K f)) (hg : Gl X x) (hm : X.mg x = none) (hv : bootBuiltins x = some (.builtin id)) (ha : GA X (e :: es) n1 m1) (hk : GK X kws nk mk) (hn : x ≠ "__name__" := by decide) (hdb : (x == ("__debug__" : Str)) = false := by decide)
    (he : backTo pos (starEach (e :: es) X.env) = (false, eval e X.env) :: backTo pos (starEach es X.env) := by rfl) (hpl : (backTo pos (starEach (e :: es) X.env)).any (·.1) = false := by rfl)
    (hall : (backToKw pos (keywordEach kws X.env)).all (·.1.isSome) = true := by rfl) (hnone : (backToKw pos (keywordEach kws X.env)).any (·.1.isNone) = false := by rfl) (hks : (backToKw pos (keywordEach kws X.env)).filterMap (·.1) = ks := by rfl) :
    GE X (.Call (.Name x p) (e :: es) kws pos) (n1 + nk) (mCBK f m1 mk) := pe_imp (pe_callBK hc hg hm hv ha hk hn hdb he hpl hall hnone hks) fun σ H Q h => by
  obtain ⟨W, B, G0, H0, G, env, P, R, hm, q⟩ := h
  refine ⟨W, B + nk, G0, H0, G, env, _, R.le (by omega), hm, fun as e1 us G1 H1 p1 s1 R1 a1 => ?_⟩
  obtain ⟨ds, hd, p1⟩ := mDats_ok p1
  have da := dats_ok a1 hd
  refine ⟨W, B, G0, H0, G1, e1, _, R1, p1, fun as2 e2 us2 G2 H2 p2 s2 R2 a2 => ?_⟩
  obtain ⟨es2, hd2, p2⟩ := mDats_ok p2
  have da2 := dats_ok a2 hd2
  exact ⟨G2, ds, es2, _, R2.pub, dpAll_same s2 da, da2, p2, fun z v G3 H3 p3 g3 d3 => q z e2 v G3 H3 p3 ((s1.trans s2).trans g3.eg) (R2.grow g3) d3⟩
theorem cd_maxK (hc : X.calm = true) (hu : X.A.units + 64 < cLine) : CallRK X (.builtin "max") ["default"] (rDCK X.K dMaxK) := by
  intro pins s σ H xs zs us ws Q I r r2 h
  obtain ⟨G, ds, es, P, sG, da, da2, hf, q⟩ := h
  unfold dMaxK at hf
  split at hf
  · obtain ⟨v, rfl, d⟩ := all1 da
    obtain ⟨v2, rfl, d2⟩ := all1 da2
    obtain ⟨a, vs, rfl, h1, h2⟩ := dp_lst d
    obtain ⟨u, rfl, r1⟩ := vals1 r
    obtain ⟨u2, rfl, r3⟩ := vals1 r2
    cases r1
    cases h2
    obtain ⟨its, rv, pl, hz⟩ := I.list (SqL.of (sG.lst h1))
    cases rv
    refine PySem.W.max_list_default (I.ok.hd hc) pl.isList (xs := []) (as := []) .nil ⟨(fun x hx => by cases hx), (fun x hx => by cases hx)⟩ (by simp only [PyData.depthAll]; omega) (fun _ h' tk hk => ?_) (fun y ys i v h' tk bs e => by cases e)
    exact ⟨_, H, I.kept hk, r3, q _ _ G H hf (Grow.refl sG) d2⟩
  · rename_i x ys d0
    obtain ⟨v, rfl, d⟩ := all1 da
    obtain ⟨v2, rfl, d2⟩ := all1 da2
    obtain ⟨a, vs, rfl, h1, h2⟩ := dp_lst d
    obtain ⟨⟨ha, hn, hd⟩, hP⟩ := hf
    obtain ⟨u, rfl, r1⟩ := vals1 r
    obtain ⟨u2, rfl, r3⟩ := vals1 r2
    cases r1
    obtain ⟨its, rv, pl, hz⟩ := I.list (SqL.of (sG.lst h1))
    have dp : DpAll X.K H vs (x :: ys) := drAll_dp (dpAll_pub sG h2 hn) hn
    obtain ⟨as, rd⟩ := Dp.readsAll I (x :: ys) vs its dp rv
    refine PySem.W.max_list_default (I.ok.hd hc) pl.isList (by simpa using rd) ha (by omega) (fun z => by cases z) (fun y zs i v h' tk bs e hv hr hk => ?_)
    cases e
    have hv' : its[i]? = some v := by simpa using hv
    have I' : Inv X pins σ H { s with heap := h', toks := tk } := I.kept hk
    have il : i < vs.length := by
      rw [rv.length]
      exact (List.getElem?_eq_some_iff.mp hv').1
    have hw : vs[i]? = some vs[i] := List.getElem?_eq_getElem il
    obtain ⟨z, hz2, dz⟩ := dpAll_getV h2 hw
    obtain ⟨u3, hu3, ru⟩ := rv.get hw
    rw [hv'] at hu3
    cases hu3
    have nz : noDict z = true := cd_max.noDicts_mem hn (List.mem_of_getElem? hz2)
    obtain ⟨bs2, rd2⟩ := Dp.reads I' z _ _ (dr_dp (dp_pub sG dz nz) nz) ru
    have e : z = PySem.W.maxD x ys := (Reads.unique rd2 _ _ hr).1
    subst e
    exact ⟨_, H, I', ru, q _ _ G H hP (Grow.refl sG) dz⟩
  · exact hf.elim
end
end DL
namespace DL
open PySem PySem.Spec PyProof.Rows L2
/-! ### a dict displayed, with texts as keys -/
abbrev Ent := Str × Nat × ME
def dispT (K : PySem.W.Frag) (ms : List Ent) : List (TE × TE) := ms.map fun t => (tC (.str t.1), tD K t.2.1 t.2.2)
def dispN : List Ent → Nat
  | [] => 0
  | t :: r => t.2.1 + dispN r
def mKvs : List Ent → DEnv → (List (Str × D) → DEnv → Prop) → Prop
  | [], env, P => P [] env
  | t :: r, env, P => t.2.2 env fun x e1 => mKvs r e1 fun kvs e2 => P ((t.1, x) :: kvs) e2
def kvD (kvs : List (Str × D)) : List (D × D) := kvs.map fun p => (.str p.1, p.2)
def mDict (ms : List Ent) : ME := fun env P => mKvs ms env fun kvs e1 => P (.dict (kvD kvs)) e1
section
variable {K : PySem.W.Frag} {W : Wd} {G0 H0 : Hp} {σ : L2.St}
theorem drkv_same {G G' : Hp} (s : Same G G') : ∀ {vs : List (Key × V)} {ds : List (D × D)}, DrKv K G vs ds → DrKv K G' vs ds := fun h => dpKv_same s h
theorem pairs_ok : ∀ (ms : List Ent) (B : Nat) (G H : Hp) (env : DEnv) (P : List (Str × D) → DEnv → Prop) (Q : List (V × V) → Hp → Prop), Rel K W (B + dispN ms) G0 H0 G env σ H → mKvs ms env P →
    (∀ kvs env' G' H' (vs : List (Key × V)), P kvs env' → Same G G' → Rel K W B G0 H0 G' env' σ H' → DrKv K G' vs (kvD kvs) → vs.map (·.1) = ms.map (fun t => Sum.inr t.1) → Q (vs.map fun p => (kV p.1, p.2)) H') → tPairs (dispT K ms) σ H Q
  | [], B, G, H, env, P, Q, R, hm, q => q [] env G H [] hm (Same.refl _) R .nil rfl
  | t :: r, B, G, H, env, P, Q, R, hm, q => by
    have e : B + dispN (t :: r) = (B + dispN r) + t.2.1 := by
      rw [dispN]
      omega
    rw [e] at R
    refine ⟨W, B + dispN r, G0, H0, G, env, _, R, hm, fun x e1 v G1 H1 p1 s1 R1 d1 => ?_⟩
    refine pairs_ok r B G1 H1 e1 _ _ R1 p1 fun kvs e2 G2 H2 vs p2 s2 R2 dv hk => ?_
    exact q ((t.1, x) :: kvs) e2 G2 H2 ((Sum.inr t.1, v) :: vs) p2 (s1.trans s2) R2 (.cons (dp_same s2 d1) dv) (by rw [List.map_cons, List.map_cons, hk])
/-- an object of one's own is written and published -/
theorem Rel.pubO {B : Nat} {G H : Hp} {env : DEnv} {p : Addr} {o : HO} (R : Rel K W B G0 H0 G env σ H) (hg : G p = none) (h0 : H0 p = none) (hm : ¬ W.mu p) (ho : ∀ (i : Nat) l w c, env[i]? = some (.mo w c) → σ[i]? = some (some (.ref l)) → l ≠ p) :
    Rel K W B G0 H0 (upd G p o) env σ (upd H p o) := by
  have sg : Same G (upd G p o) := same_upd hg
  refine { g0 := R.g0.trans sg, pub := fun a u e => ?_, gm := fun a m => ?_, inv := W.loc _ H _ (fun a m => ?_) R.inv, fr := fun a u e m => ?_, pn := fun a u e e0 => ?_, len := R.len, slot := fun i e s h1 h2 => ?_, dis := R.dis }
  · by_cases z : a = p
    · subst z
      rw [upd_same] at e ⊢
      exact e
    · rw [upd_ne z] at e ⊢
      exact R.pub a u e
  · have z : a ≠ p := fun z => hm (z ▸ m)
    rw [upd_ne z]
    exact R.gm a m
  · have z : a ≠ p := fun z => hm (z ▸ m)
    rw [upd_ne z]
  · have z : a ≠ p := fun z => by
      subst z
      rw [h0] at e
      cases e
    rw [upd_ne z]
    exact R.fr a u e m
  · by_cases z : a = p
    · subst z
      exact h0
    · rw [upd_ne z] at e
      exact R.pn a u e e0
  · have q := R.slot i e s h1 h2
    cases e with
    | un => trivial
    | d x =>
      obtain ⟨v, e1, q1⟩ := q
      exact ⟨v, e1, dp_same sg q1⟩
    | mo w c =>
      obtain ⟨l, e1, n1, o1, q1⟩ := q
      subst e1
      have z : l ≠ p := ho i l w c h1 h2
      exact ⟨l, rfl, by rw [upd_ne z]; exact n1, o1, scok_later sg (fun u hu => by rw [upd_ne z]; exact hu) q1⟩
    | hd => exact q
    | «at» _ => trivial
end
end DL
namespace DL
open PySem PySem.Spec PyProof.Rows L2
theorem val_none {kvs : List (Key × V)} {k : Key} (h : k ∉ kvs.map (·.1)) : valV kvs k = none := by
  unfold valV
  rw [List.find?_eq_none.mpr fun p hp => ?_]
  · rfl
  · simp only [decide_eq_true_eq]
    exact fun z => h (z ▸ List.mem_map_of_mem hp)
theorem merge_new : ∀ (more kvs : List (Key × V)), ((kvs ++ more).map (·.1)).Nodup → mergeK kvs more = kvs ++ more
  | [], kvs, _ => by simp [mergeK]
  | m :: r, kvs, h => by
    have hn : m.1 ∉ kvs.map (·.1) := fun hm => by
      rw [List.map_append] at h
      exact (List.nodup_append.mp h).2.2 m.1 hm m.1 (by simp) rfl
    show mergeK (putK kvs m.1 m.2) r = _
    rw [putK_new m.2 (val_none hn), merge_new r (kvs ++ [(m.1, m.2)]) (by rw [List.append_assoc]; exact h), List.append_assoc]
    rfl
section
variable {X : Cx} {pos : Pos} {keys : List (Option Expr)} {values : List Expr}
theorem ge_disp (ms : List Ent) (h : PPs X pos keys values (dispT X.K ms)) (hall : keys.all (·.isSome) = true) (hl : keys.length = values.length) (h0 : keys ≠ []) (h15 : keys.length ≤ 15) (nd : (ms.map (·.1)).Nodup) (hk : ms.length ≤ 15) :
    GE X (.Dict keys values pos) (dispN ms) (mDict ms) := pe_imp (pe_disp h hall hl h0 h15) fun σ H Q h => by
  obtain ⟨W, B, G0, H0, G, env, P, R, hm, q⟩ := h
  intro p hp
  obtain ⟨R1, f1, f2, f3, f4⟩ := R.fresh (o := .dK []) hp
  have R2 := R1.guard upd_same f1 f4
  have g0 : G0 p = none := R.g0.free f1
  refine pairs_ok ms B G _ env _ _ R2 hm fun kvs e1 G1 H1 vs p1 s1 R3 dv ek => ?_
  obtain ⟨R4, hp4, gp4, ho4⟩ := R3.unguard f3 g0 f2
  have vl : vs.length = ms.length := by
    have := congrArg List.length ek
    simpa using this
  refine ⟨hp4, vs, rfl, by omega, ?_⟩
  have em : mergeK [] vs = vs := by
    refine merge_new vs [] ?_
    rw [List.nil_append, ek]
    have e2 : (ms.map fun t => (Sum.inr t.1 : Key)) = (ms.map (·.1)).map Sum.inr := by
      rw [List.map_map]
      rfl
    rw [e2]
    exact List.Pairwise.map _ (fun a b z w => z (Sum.inr.inj w)) nd
  rw [em]
  have sg : Same G1 (upd G1 p (.dK vs)) := same_upd gp4
  exact q _ e1 _ _ _ p1 (s1.trans sg) (R4.pubO gp4 f2 f3 ho4) (.dic (.inl upd_same) (drkv_same sg dv))
theorem dget_rd {H : Hp} {a : Addr} {kvs : List (Key × V)} {k : Key} (e : Rd H a (.dK kvs)) : DGet H a (kV k) (valV kvs k) := .inl ⟨kvs, k, e, rfl, rfl⟩
/-- d.get(k, x) -/
def getD : List (D × D) → Str → Option D
  | [], _ => none
  | (.str z, v) :: r, k => if z = k then some v else getD r k
  | _ :: r, k => getD r k
def fGet : D → List D → (D → Prop) → Prop
  | .dict kvs, [.str k, d], P => P ((getD kvs k).getD d)
  | _, _, _ => False
theorem get_v {K : PySem.W.Frag} {G : Hp} (k : Str) : ∀ {vs : List (Key × V)} {ds : List (D × D)}, DrKv K G vs ds → (∃ v d, valV vs (Sum.inr k) = some v ∧ getD ds k = some d ∧ Dr K G v d) ∨ (valV vs (Sum.inr k) = none ∧ getD ds k = none)
  | _, _, .nil => .inr ⟨rfl, rfl⟩
  | _, _, .cons (k := .inl i) (v := v) (vs := vs) (d := d) (ds := ds) a r => by
    have e1 : valV ((Sum.inl i, v) :: vs) (Sum.inr k) = valV vs (Sum.inr k) := by
      unfold valV
      rw [List.find?_cons_of_neg (by simp)]
    have e2 : getD ((keyD (.inl i), d) :: ds) k = getD ds k := rfl
    rw [e1, e2]
    exact get_v k r
  | _, _, .cons (k := .inr z) (v := v) (vs := vs) (d := d) (ds := ds) a r => by
    by_cases h : z = k
    · subst h
      refine .inl ⟨v, d, ?_, ?_, a⟩
      · exact valV_pos rfl
      · show (if z = z then some d else _) = _
        rw [if_pos rfl]
    · have e1 : valV ((Sum.inr z, v) :: vs) (Sum.inr k) = valV vs (Sum.inr k) := by
        unfold valV
        rw [List.find?_cons_of_neg (by simp [h])]
      have e2 : getD ((keyD (.inr z), d) :: ds) k = getD ds k := by
        show (if z = k then some d else getD ds k) = _
        rw [if_neg h]
      rw [e1, e2]
      exact get_v k r
theorem md_get (hu : X.A.units + 64 < cLine) : MtR X "dict.get" (rDM X.K fGet) := by
  intro pins s σ H x xs v us Q I rx rs h
  obtain ⟨G, d, ds, P, sG, dd, da, hf, q⟩ := h
  unfold fGet at hf
  split at hf
  · rename_i kvs k d0
    obtain ⟨a, vs, rfl, h1, h2⟩ := dp_dic dd
    obtain ⟨u1, u2, rfl, d1, d2⟩ := all2 da
    cases dp_str d1
    cases rx
    cases rs with
    | cons r1 rr =>
      cases rr with
      | cons r2 rr =>
        cases rr
        refine d_get2 (by omega) I (dget_rd (k := Sum.inr k) (sG.dk h1)) r1 r2 fun w s' I' rw' => ?_
        rcases get_v k h2 with ⟨w1, e1, g1, g2, g3⟩ | ⟨g1, g2⟩
        · rw [g1] at rw'
          rw [g2] at hf
          exact ⟨_, H, I', rw', q _ _ G H hf (Grow.refl sG) g3⟩
        · rw [g1] at rw'
          rw [g2] at hf
          exact ⟨_, H, I', rw', q _ _ G H hf (Grow.refl sG) d2⟩
  · exact hf.elim
end
end DL
namespace DL
open PySem PySem.Spec PyProof.Rows L2
/-! ### calls with keywords, in any order, with defaults that fill up -/
structure CalN (P : Program) (w : World) (K : PySem.W.Frag) (mg : Str → Option Value) (base : Heap) (x : Str) (k n : Nat) (ks : List Str) (c : Nat) (gE : List EV → List EV → List EV) (sp : List EV → (D → Prop) → Prop) : Prop where
  ex : ∃ (f : Addr) (fd : FuncData) (ps : List Str) (g : List Value → List Value → List Value) (gV : List V → List V → List V), FnG P w K mg base CX0 k f fd ps (spD K c sp) ∧ mg x = some (.ref f) ∧ PySem.W.keepIn K (.ref f) = true ∧ KBn K fd ps n ks g gV ∧
    ∀ (W : Wk) (G : Hp) (vs zs : List V) (as bs : List EV), ArgsOk K W G vs as → ArgsOk K W G zs bs → as.length = n → bs.length = ks.length → ArgsOk K W G (gV vs zs) (gE as bs)
def mCallN (n m : Nat) (gE : List EV → List EV → List EV) (sp : List EV → (D → Prop) → Prop) (a k : MA) : ME := fun env P => a env fun as e1 => k e1 fun bs e2 => as.length = n ∧ bs.length = m ∧ sp (gE as bs) fun z => P z e2
section
variable {X : Cx} {k n c : Nat} {ks : List Str} {gE : List EV → List EV → List EV} {sp : List EV → (D → Prop) → Prop} {x : Str} {p pos : Pos} {e : Expr} {es : List Expr} {kws : List Keyword} {m1 m2 : MA} {n1 n2 : Nat}
theorem runN {f : Addr} {fd : FuncData} {ps : List Str} {g : List Value → List Value → List Value} {gV : List V → List V → List V} {pins : List (Addr × Obj)} {σ : L2.St} {H : Hp} {s : Shared} {Q : VK} {us ws : List Value} {vs zs : List V} {spv : Sp} (F : FnG X.prog X.w X.K X.mg X.base CX0 k f fd ps spv) (r : Rm k X.A) (hb : KBn X.K fd ps n ks g gV)
    (I : Inv X pins σ H s) (r1 : Vals vs us) (r2 : Vals zs ws) (l1 : vs.length = n) (l2 : zs.length = ks.length) (h : spv (gV vs zs) H Q E0) : wpAny (model X.prog X.w) X.A (call (.ref f) us (ks.zip ws)) (EP X pins σ Q) X.xe s := by
  have run := F.run X.A X.stack s H ⟨us, ks.zip ws⟩ (g us ws) (gV vs zs) Q E0 r I.env0 (hb.to s us ws I.kIn (r1.length.symm.trans l1) (r2.length.symm.trans l2)) (hb.rel r1 r2) h
  refine wpAny_call (codeAny_mono run fun res s' z => ?_)
  rcases res with err | fl
  · exact z.elim
  · cases fl with
    | ret u => exact I.after z
    | next => exact z.elim
    | brk => exact z.elim
    | cont => exact z.elim
theorem ge_calN (C : CalN X.prog X.w X.K X.mg X.base x k n ks c gE sp) (r : Rm k X.A) (hg : Gl X x) (ha : GA X (e :: es) n1 m1) (hkw : GK X kws n2 m2)
    (hall : (backToKw pos (keywordEach kws X.env)).all (·.1.isSome) = true := by rfl) (hks : (backToKw pos (keywordEach kws X.env)).filterMap (·.1) = ks := by rfl) (hdb : (x == ("__debug__" : Str)) = false := by decide)
    (he : starEach (e :: es) X.env = (false, eval e X.env) :: starEach es X.env := by rfl) (hpl : ((backTo pos (starEach (e :: es) X.env)).any (·.1) || (backToKw pos (keywordEach kws X.env)).any (·.1.isNone)) = false := by rfl) :
    GE X (.Call (.Name x p) (e :: es) kws pos) (n1 + (n2 + c)) (mCallN n ks.length gE sp m1 m2) := by
  obtain ⟨f, fd, ps, g, gV, F, hm, hk, hb, hA⟩ := C.ex
  refine ⟨fun pins s σ H Q I h => wpAny_Call_Name_kw (ld_glob I hg hm ?_ hdb)⟩
  have h1 : tA X.K n1 m1 σ H fun vs H1 => tA X.K n2 m2 σ H1 fun zs H2 => vs.length = n ∧ zs.length = ks.length ∧ spD X.K c sp (gV vs zs) H2 Q E0 := by
    obtain ⟨W, B, G0, H0, G, env, P, R, hm, q⟩ := h
    refine ⟨W, B + (n2 + c), G0, H0, G, env, _, R.le (by omega), hm, fun as e1 vs G1 H1 p1 s1 R1 a1 => ?_⟩
    refine ⟨W, B + c, G0, H0, G1, e1, _, R1.le (by omega), p1, fun bs e2 zs G2 H2 p2 s2 R2 a2 => ?_⟩
    obtain ⟨l1, l2, p3⟩ := p2
    refine ⟨by rw [args_len a1]; exact l1, by rw [args_len a2]; exact l2, W.dk, B, G2, _, _, R2.toRW.self0, hA W.dk G2 vs zs as bs (args_same s2 a1) a2 l1 l2, p3, fun x v G3 H3 p4 r3 d3 => q x e2 v G3 H3 p4 ((s1.trans s2).trans r3.g0) (R2.after r3) d3⟩
  refine PySem.W.callWith_KW (h₀ := X.base) I.ok.mod.kin hk hall (thn (ha.run pos pins s σ H _ I h1) fun us s1 ⟨vs, H1, I1, rv, q⟩ => ?_) hpl he
  refine thn (hkw.run pos pins s1 σ H1 _ I1 q) fun ws s2 ⟨zs, H2, I2, rz, l1, l2, q2⟩ => ⟨I2.kIn, ?_⟩
  rw [hks]
  exact runN F r hb I2 rv rz l1 l2 q2
theorem ge_calN0 (C : CalN X.prog X.w X.K X.mg X.base x k 0 ks c gE sp) (r : Rm k X.A) (hg : Gl X x) (hkw : GK X kws n2 m2)
    (hall : (backToKw pos (keywordEach kws X.env)).all (·.1.isSome) = true := by rfl) (hks : (backToKw pos (keywordEach kws X.env)).filterMap (·.1) = ks := by rfl) (hdb : (x == ("__debug__" : Str)) = false := by decide)
    (hpl : ((backTo pos (starEach [] X.env)).any (·.1) || (backToKw pos (keywordEach kws X.env)).any (·.1.isNone)) = false := by rfl) :
    GE X (.Call (.Name x p) [] kws pos) (n2 + c) (mCallN 0 ks.length gE sp mNil m2) := by
  obtain ⟨f, fd, ps, g, gV, F, hm, hk, hb, hA⟩ := C.ex
  refine ⟨fun pins s σ H Q I h => wpAny_Call_Name_kw (ld_glob I hg hm (PySem.W.callWith_KW0 (h₀ := X.base) I.ok.mod.kin hk hall ?_ hpl) hdb)⟩
  have h1 : tA X.K n2 m2 σ H fun zs H2 => zs.length = ks.length ∧ spD X.K c sp (gV [] zs) H2 Q E0 := by
    obtain ⟨W, B, G0, H0, G, env, P, R, hm, q⟩ := h
    refine ⟨W, B + c, G0, H0, G, env, _, R.le (by omega), hm, fun bs e2 zs G2 H2 p2 s2 R2 a2 => ?_⟩
    obtain ⟨l1, l2, p3⟩ := p2
    exact ⟨by rw [args_len a2]; exact l2, W.dk, B, G2, _, _, R2.toRW.self0, hA W.dk G2 [] zs [] bs .nil a2 rfl l2, p3, fun x v G3 H3 p4 r3 d3 => q x e2 v G3 H3 p4 (s2.trans r3.g0) (R2.after r3) d3⟩
  refine thn (hkw.run pos pins s σ H _ I h1) fun ws s2 ⟨zs, H2, I2, rz, l2, q2⟩ => ⟨I2.kIn, ?_⟩
  rw [hks]
  exact runN (us := []) (vs := []) F r hb I2 .nil rz rfl l2 q2
end
end DL
namespace DL
open PySem PySem.Spec PyProof.Rows L2
/-! ### an own list that is lent for one expression of a plain worth -/
def hideV : EV → EV
  | .mo _ _ => .un
  | e => e
def hide (env : DEnv) : DEnv := env.map hideV
theorem hide_get {env : DEnv} {i : Nat} {e : EV} (h : (hide env)[i]? = some e) : (∃ w c, env[i]? = some (.mo w c) ∧ e = .un) ∨ (env[i]? = some e ∧ ∀ w c, e ≠ .mo w c) := by
  unfold hide at h
  rw [List.getElem?_map] at h
  cases z : env[i]? with
  | none =>
    rw [z] at h
    cases h
  | some u =>
    rw [z] at h
    cases u with
    | mo w c =>
      cases h
      exact .inl ⟨w, c, rfl, rfl⟩
    | «at» _ =>
      cases h
      exact .inr ⟨rfl, fun w c z => by cases z⟩
    | un =>
      cases h
      exact .inr ⟨rfl, fun w c z => by cases z⟩
    | d x =>
      cases h
      exact .inr ⟨rfl, fun w c z => by cases z⟩
    | hd =>
      cases h
      exact .inr ⟨rfl, fun w c z => by cases z⟩
theorem hide_len (env : DEnv) : (hide env).length = env.length := by
  unfold hide
  rw [List.length_map]
theorem hide_no (env : DEnv) : NoOwn (hide env) := fun i w c h => by
  rcases hide_get h with ⟨_, _, _, z⟩ | ⟨_, z⟩
  · cases z
  · exact z w c rfl
section
variable {K : PySem.W.Frag} {W : Wd} {B B' : Nat} {G0 H0 G H G' G2 H' : Hp} {env env' : DEnv} {σ : L2.St}
theorem Rel.hide (R : Rel K W B G0 H0 G env σ H) : Rel K W B G0 H0 G (DL.hide env) σ H :=
  { R.toRW with
    len := by rw [hide_len]; exact R.len
    slot := fun i e s h1 h2 => by
      rcases hide_get h1 with ⟨w, c, _, rfl⟩ | ⟨z, _⟩
      · trivial
      · exact R.slot i e s z h2
    dis := fun i j wi ci wj cj l ne h1 => absurd h1 (hide_no env i wi ci) }
/-- nothing lent goes on -/
theorem Rel.base0 (R : Rel K W B G0 H0 G env σ H) (no : NoOwn env) : Rel K (.of W.dk) B G H G env σ H :=
  { R.toRW.self0 with
    len := R.len
    slot := fun i e s h1 h2 => by
      have q := R.slot i e s h1 h2
      cases e with
      | un => trivial
      | d x => exact q
      | mo w c => exact absurd h1 (no i w c)
      | «at» _ => trivial
      | hd => exact q
    dis := fun i j wi ci wj cj l ne h1 => absurd h1 (no i wi ci) }
/-- behind it: what was published meanwhile is forgotten -/
theorem Rel.back (R : Rel K W B G0 H0 G env σ H) (q : RW (.of W.dk) B' G' H G2 H') : Rel K W B' G0 H0 G env σ H' := by
  have keep : ∀ a o, H a = some o → ¬ W.dk.mu a → H' a = some o := fun a o h m => q.fr a o h fun z => m (of_mu.mp z)
  exact
  { g0 := R.g0
    pub := fun a o h => by
      have nm : ¬ W.dk.mu a := fun m => by
        rw [R.gm a (.inl m)] at h
        cases h
      exact keep a _ (R.pub a o h) nm
    gm := R.gm
    inv := ⟨q.inv.1, R.inv.2.1, fun a m => by
      obtain ⟨o, h⟩ := R.inv.2.2 a m
      exact ⟨o, keep a o h (R.inv.2.1 a m)⟩⟩
    fr := fun a o h m => keep a o (R.fr a o h m) fun z => m (.inl z)
    pn := R.pn
    len := R.len
    slot := fun i e s h1 h2 => by
      have z := R.slot i e s h1 h2
      cases e with
      | un => trivial
      | d x => exact z
      | mo w c =>
        obtain ⟨l, e1, hg, ho, hq⟩ := z
        subst e1
        exact ⟨l, rfl, hg, ho, scok_later (Same.refl _) (fun u hu => keep l u hu (R.mo_ndk h1 h2)) hq⟩
      | hd => exact z
      | «at» _ => trivial
    dis := R.dis }
end
theorem flat_dr {K : PySem.W.Frag} {G G' : Hp} {v : V} {x : D} (h : flatD x = true) (d : Dr K G v x) : Dr K G' v x := by
  cases d with
  | non => exact .non
  | bl b => exact .bl b
  | int i => exact .int i
  | str z => exact .str z
  | lst _ _ => cases h
  | tup _ _ => cases h
  | dic _ _ => cases h
def mLend (i : Nat) (m : ME) : ME := fun env P => ∃ xs, env[i]? = some (.own xs) ∧ m ((hide env).set i (.d (.list xs))) fun x _ => flatD x = true ∧ P x env
theorem ge_lend (i : Nat) {X : Cx} {e : Expr} {n : Nat} {m : ME} (h : GE X e n m) : GE X e n (mLend i m) := pe_imp h fun σ H Q h => by
  obtain ⟨W, B, G0, H0, G, env, P, R, ⟨xs, hx, hm⟩, q⟩ := h
  obtain ⟨l, vs, e1, hl, hg, h0, hmu, hq⟩ := R.get_own hx
  obtain ⟨R2, d2, s2⟩ := R.publish hx e1 hl hg h0 hmu hq
  have R3 := R2.hide
  have il : i < env.length := (List.getElem?_eq_some_iff.mp hx).1
  have ee : hide (env.set i (.d (.list xs))) = (hide env).set i (.d (.list xs)) := by
    unfold hide
    rw [List.map_set]
    rfl
  rw [ee] at R3
  have no : NoOwn ((hide env).set i (.d (.list xs))) := ee ▸ hide_no _
  have R4 := R3.base0 no
  refine ⟨.of W.dk, B, _, _, _, _, _, R4, hm, fun x e' v G' H' p1 s1 R5 d5 => ?_⟩
  exact q x env v G H' p1.2 (Same.refl _) (R.back R5.toRW) (flat_dr p1.1 d5)
/-! ### two targets, the first an own list -/
def sParF (i j kb : Nat) (mf : MF) : MS := fun E env => mf env fun xs e1 => match e1[kb]? with
  | some (.d y) => E.nx ((e1.set i (.own xs)).set j (.d y))
  | _ => False
theorem gs_parF {X : Cx} {a : Expr} {n1 : Nat} {mf : MF} {pos : Pos} {i j kb : Nat} {x y z : Str} {px py pz pt pt2 : Pos} {kt k2 : Nat} (hc : X.calm = true) (hN : X.N.Nodup) (hi : X.N[i]? = some x) (hj : X.N[j]? = some y) (hij : i ≠ j) (hx : X.env.scope.names.lookup x = some .local) (hy : X.env.scope.names.lookup y = some .local)
    (ha : GF X a n1 mf) (hk : X.N[kb]? = some z) (hv : Vis X.env.scope z) (hw : swappedStores [.Tuple [.Name x px, .Name y py] kt pt] (.Tuple [a, .Name z pz] k2 pt2) X.env = pure (some [x, y]))
    (hd : (z == ("__debug__" : Str)) = false := by decide) (hcd : (z == ("__classdict__" : Str)) = false := by decide) (he : starEach [a, .Name z pz] X.env = (false, eval a X.env) :: starEach [.Name z pz] X.env := by rfl) (he2 : starEach [.Name z pz] X.env = (false, eval (.Name z pz) X.env) :: starEach [] X.env := by rfl)
    (hs : swapsWithSole [.Tuple [.Name x px, .Name y py] kt pt] (.Tuple [a, .Name z pz] k2 pt2) pos.line X.env = pure false := by rfl) : GS X (.Assign [.Tuple [.Name x px, .Name y py] kt pt] (.Tuple [a, .Name z pz] k2 pt2) pos) n1 (sParF i j kb mf) :=
  ps_imp (ps_par hc hN hi hj hij hx hy (pa_cons ha (pa_cons (pe_var hk hv hd hcd) pa_nil he2) he) hw hs) fun D σ H h => by
  obtain ⟨W, B, G0, H0, G, env, E, R, hm, q⟩ := h
  refine ⟨W, B, G0, H0, G, env, _, R, hm, fun xs e1 p G1 H1 p1 s1 R1 f1 => ?_⟩
  split at p1
  · obtain ⟨v, ev, dv⟩ := R1.get_d (by assumption)
    exact ⟨v, ev, _, _, rfl, q.nx _ _ _ _ p1 s1 ((R1.set_own f1).set_d dv)⟩
  · exact p1.elim
end DL
namespace DL
open PySem PySem.Spec PyProof.Rows L2
/-! ### an own list published ahead of a statement -/
def sPub (i : Nat) (ms : MS) : MS := fun E env => match env[i]? with
  | some (.mo none (.lst xs)) => ms E (env.set i (.d (.list xs)))
  | _ => ms E env
theorem gs_pub (i : Nat) {X : Cx} {st : Stmt} {n : Nat} {ms : MS} (h : GS X st n ms) : GS X st n (sPub i ms) := ps_imp h fun D σ H h => by
  obtain ⟨W, B, G0, H0, G, env, E, R, hm, q⟩ := h
  unfold sPub at hm
  split at hm
  · obtain ⟨l, vs, e1, hl, hg, h0, hmu, hq⟩ := R.get_own (by assumption)
    obtain ⟨R2, d2, s2⟩ := R.publish (by assumption) e1 hl hg h0 hmu hq
    exact ⟨W, B, G0, H0, _, _, E, R2, hm, q.later s2⟩
  · exact ⟨W, B, G0, H0, G, env, E, R, hm, q⟩
end DL
namespace DL
open PySem PySem.Spec PyProof.Rows L2
/-! ### small data and their texts -/
mutual
def nods : D → Nat
  | .list xs => nodsA xs + 1
  | .tuple xs => nodsA xs + 1
  | _ => 1
def nodsA : List D → Nat
  | [] => 0
  | x :: r => nods x + nodsA r
end
mutual
def sml : D → Bool
  | .none => true
  | .bool _ => true
  | .int i => decide (i.natAbs < 2 ^ 24)
  | .str z => decide (z.cps.size ≤ 24) && z.cps.toList.all fun c => decide (c < 16 ^ 8)
  | .list xs => smlA xs
  | .tuple xs => smlA xs
  | .dict _ => false
def smlA : List D → Bool
  | [] => true
  | x :: r => sml x && smlA r
end
mutual
theorem sml_show : ∀ x : D, sml x = true → x.showable = true ∧ noDict x = true ∧ x.leavesShort 13 = true ∧ x.weight + 1 ≤ 26 * nods x
  | .none, _ => ⟨rfl, rfl, rfl, by simp [PyData.weight, nods]⟩
  | .bool _, _ => ⟨rfl, rfl, rfl, by simp [PyData.weight, nods]⟩
  | .int i, h => by
    have h : i.natAbs < 2 ^ 24 := by simpa [sml] using h
    have l : i.natAbs.log2 ≤ 23 := by
      by_cases z : i.natAbs = 0
      · rw [z]
        decide
      · have := (Nat.log2_lt z (k := 24)).mpr h
        omega
    refine ⟨?_, rfl, ?_, ?_⟩
    · simp only [PyData.showable, decide_eq_true_eq]
      omega
    · simp only [PyData.leavesShort]
      exact decide_eq_true (PyData.shown_int_le (Nat.lt_trans h (by decide)))
    · simp only [PyData.weight, nods]
      split <;> omega
  | .str z, h => by
    simp only [sml, Bool.and_eq_true, decide_eq_true_eq] at h
    refine ⟨rfl, rfl, h.2, ?_⟩
    simp only [PyData.weight, nods]
    omega
  | .tuple xs, h => by
    obtain ⟨h1, h2, h3, h4⟩ := smlA_show xs (by simpa [sml] using h)
    refine ⟨by simpa [PyData.showable] using h1, by simpa [noDict] using h2, by simpa [PyData.leavesShort] using h3, ?_⟩
    simp only [PyData.weight, nods]
    omega
  | .list xs, h => by
    obtain ⟨h1, h2, h3, h4⟩ := smlA_show xs (by simpa [sml] using h)
    refine ⟨by simpa [PyData.showable] using h1, by simpa [noDict] using h2, by simpa [PyData.leavesShort] using h3, ?_⟩
    simp only [PyData.weight, nods]
    omega
  | .dict _, h => by simp [sml] at h
theorem smlA_show : ∀ xs : List D, smlA xs = true → PyData.showableAll xs = true ∧ noDicts xs = true ∧ PyData.leavesShortAll 13 xs = true ∧ PyData.weightAll xs ≤ 26 * nodsA xs
  | [], _ => ⟨rfl, rfl, rfl, by simp [PyData.weightAll]⟩
  | x :: r, h => by
    simp only [smlA, Bool.and_eq_true] at h
    obtain ⟨a1, a2, a3, a4⟩ := sml_show x h.1
    obtain ⟨b1, b2, b3, b4⟩ := smlA_show r h.2
    refine ⟨by simp [PyData.showableAll, a1, b1], by simp [noDicts, a2, b2], by simp [PyData.leavesShortAll, a3, b3], ?_⟩
    simp only [PyData.weightAll, nodsA]
    omega
end
/-- what repr asks -/
theorem sml_repr {x : D} (h : sml x = true) (hd : x.depth ≤ 60) (hn : nods x ≤ 40000) : (x.showable = true ∧ noDict x = true) ∧ x.depth ≤ 60 ∧ x.shown.length ≤ sizeLine := by
  obtain ⟨h1, h2, h3, h4⟩ := sml_show x h
  refine ⟨⟨h1, h2⟩, hd, PyData.shown_fits (by decide) (by decide) h3 ?_⟩
  have : (2 : Nat) ^ 20 = 1048576 := by decide
  omega
/-- small, not deep, few parts -/
def Sm (d n : Nat) (x : D) : Prop := sml x = true ∧ x.depth ≤ d ∧ nods x ≤ n
def SmA (d n : Nat) (xs : List D) : Prop := smlA xs = true ∧ PyData.depthAll xs ≤ d ∧ nodsA xs ≤ n
theorem Sm.repr {d n : Nat} {x : D} (h : Sm d n x) (hd : d ≤ 60) (hn : n ≤ 40000) : (x.showable = true ∧ noDict x = true) ∧ x.depth ≤ 60 ∧ x.shown.length ≤ sizeLine :=
  sml_repr h.1 (Nat.le_trans h.2.1 hd) (Nat.le_trans h.2.2 hn)
theorem Sm.le {d n d' n' : Nat} {x : D} (h : Sm d n x) (hd : d ≤ d') (hn : n ≤ n') : Sm d' n' x := ⟨h.1, Nat.le_trans h.2.1 hd, Nat.le_trans h.2.2 hn⟩
theorem SmA.le {d n d' n' : Nat} {x : List D} (h : SmA d n x) (hd : d ≤ d') (hn : n ≤ n') : SmA d' n' x := ⟨h.1, Nat.le_trans h.2.1 hd, Nat.le_trans h.2.2 hn⟩
theorem sm_int {i : Int} (h : i.natAbs < 2 ^ 24) : Sm 0 1 (.int i) := ⟨by simpa [sml] using h, by simp [PyData.depth], by simp [nods]⟩
theorem sm_none : Sm 0 1 .none := ⟨rfl, by simp [PyData.depth], by simp [nods]⟩
theorem sm_bool {b : Bool} : Sm 0 1 (.bool b) := ⟨rfl, by simp [PyData.depth], by simp [nods]⟩
theorem sm_nil {d n : Nat} : SmA d n [] := ⟨rfl, by simp [PyData.depthAll], by simp [nodsA]⟩
theorem sm_cons {d n m : Nat} {x : D} {xs : List D} (h : Sm d n x) (t : SmA d m xs) : SmA d (n + m) (x :: xs) :=
  ⟨by rw [smlA, h.1, t.1]; rfl, by rw [PyData.depthAll]; exact Nat.max_le.mpr ⟨h.2.1, t.2.1⟩, by rw [nodsA]; exact Nat.add_le_add h.2.2 t.2.2⟩
theorem sm_tup {d n : Nat} {xs : List D} (h : SmA d n xs) : Sm (d + 1) (n + 1) (.tuple xs) :=
  ⟨by rw [sml]; exact h.1, by rw [PyData.depth]; exact Nat.add_le_add_right h.2.1 1, by rw [nods]; exact Nat.add_le_add_right h.2.2 1⟩
theorem sm_lst {d n : Nat} {xs : List D} (h : SmA d n xs) : Sm (d + 1) (n + 1) (.list xs) :=
  ⟨by rw [sml]; exact h.1, by rw [PyData.depth]; exact Nat.add_le_add_right h.2.1 1, by rw [nods]; exact Nat.add_le_add_right h.2.2 1⟩
theorem sm_all {d n : Nat} : ∀ {xs : List D}, (∀ x ∈ xs, Sm d n x) → SmA d (n * xs.length) xs
  | [], _ => sm_nil
  | x :: xs, h => by
    have := sm_cons (h x List.mem_cons_self) (sm_all (xs := xs) fun y hy => h y (List.mem_cons_of_mem _ hy))
    refine this.le (Nat.le_refl _) ?_
    rw [List.length_cons, Nat.mul_add]
    omega
end DL
namespace DL
open PySem PySem.Spec PyProof.Rows L2
/-! ### x += e, whole numbers -/
def sAugI (i : Nat) (m : ME) : MS := fun E env => match env[i]? with
  | some (.d (.int a)) => m env fun y e1 => match y with
    | .int b => E.nx (e1.set i (.d (.int (a + b))))
    | _ => False
  | _ => False
theorem gs_augI {X : Cx} {i : Nat} {x : Str} {e : Expr} {ne : Nat} {me : ME} {pos pos' : Pos} (hN : X.N.Nodup) (hi : X.N[i]? = some x) (hx : Loc X.env.scope x) (he : GE X e ne me)
    (hf : X.fn x = true ∨ X.env.scope.names.lookup x = some .local := by first | exact .inl rfl | exact .inr rfl) :
    GS X (.AugAssign (.Name x pos') .Add e pos) ne (sAugI i me) := ps_imp (ps_aug hN hi hx he ip_add hf) fun D σ H h => by
  obtain ⟨W, B, G0, H0, G, env, E, R, hm, q⟩ := h
  unfold sAugI at hm
  split at hm
  · rename_i a ea
    obtain ⟨v, ev, dv⟩ := R.get_d ea
    cases dp_int dv
    refine ⟨_, ev, W, B, G0, H0, G, env, _, R, hm, fun y e1 u G1 H1 p1 s1 R1 d1 => ?_⟩
    cases y with
    | int b =>
      cases dp_int d1
      exact ⟨a, b, rfl, rfl, q.nx _ _ _ _ p1 s1 (R1.set_d (.int _))⟩
    | _ => exact p1.elim
  · exact hm.elim
/-! ### t[::-1] -/
section
variable {prog : Program} {w : World} {A : Around} {E : Value → Shared → Prop} {s : Shared}
theorem rev_adjust (n : Nat) : Builtin.Slice.sliceAdjust none none (-1) (n : Int) = ((n : Int) - 1, -1) := by
  unfold Builtin.Slice.sliceAdjust
  have h1 : ((-1 : Int) < 0) := by omega
  simp only [h1, if_true]
theorem rev_places (n : Nat) : Builtin.Slice.slicePlaces ((n : Int) - 1) (-1) (-1) = n := by
  unfold Builtin.Slice.slicePlaces
  have h1 : ¬ ((-1 : Int) > 0) := by omega
  simp only [h1, if_false]
  have e : (-(-1) : Int) = 1 := by decide
  rw [e, Int.ediv_one]
  split <;> omega
theorem fm_congr {α β : Type} {f g : α → Option β} : ∀ {l : List α}, (∀ x ∈ l, f x = g x) → l.filterMap f = l.filterMap g
  | [], _ => rfl
  | x :: l, h => by
    rw [List.filterMap_cons, List.filterMap_cons, h x List.mem_cons_self, fm_congr (l := l) fun y hy => h y (List.mem_cons_of_mem _ hy)]
theorem rev_pick (xs : Array Value) : ((List.range xs.size).filterMap fun (m : Nat) => xs[(((xs.size : Int) - 1) + (m : Int) * (-1)).toNat]?).toArray = xs.toList.reverse.toArray := by
  have h2 : (List.range xs.size).filterMap (fun (m : Nat) => xs[(((xs.size : Int) - 1) + (m : Int) * (-1)).toNat]?) = ((List.range xs.size).map fun k => xs.size - 1 - k).filterMap (xs[·]?) := by
    rw [List.filterMap_map]
    refine fm_congr fun m hm => ?_
    have := List.mem_range.mp hm
    show xs[_]? = xs[xs.size - 1 - m]?
    rw [show (((xs.size : Int) - 1) + (m : Int) * (-1)).toNat = xs.size - 1 - m by omega]
  rw [h2, PySem.W.krv_range, List.filterMap_reverse, PySem.W.krv_all]
theorem sliceApplied_rev {sl : Addr} {vs : Value} {n : Nat} {Q : Int × Int × Nat → Shared → Prop} (hs : s.heap.IsSliceOf sl .none .none vs) (ps : IsPart vs (some (-1)))
    (h : Q ((n : Int) - 1, -1, n) s) : wpAny (model prog w) A (Builtin.Slice.sliceApplied (.ref sl) (pure (n : Int))) Q E s := by
  obtain ⟨os, hos, hcs, hds⟩ := id hs
  unfold Builtin.Slice.sliceApplied Builtin.Slice.sliceFields
  refine wpAny_bind (wpAny_bind (wpAny_field hos hds (x := .none) rfl (wpAny_bind (wpAny_field hos hds (x := .none) rfl (wpAny_bind (wpAny_field hos hds (x := vs) rfl (wpAny_pure ?_)))))))
  refine wpAny_bind (HT.slicePart_ ps ?_)
  show wpAny _ _ (if ((-1 : Int) == 0) = true then _ else _) _ _ s
  rw [if_neg (by decide)]
  refine wpAny_bind (HT.slicePart_ .none (wpAny_bind (HT.slicePart_ .none (wpAny_bind (wpAny_pure ?_)))))
  show wpAny _ _ (match Builtin.Slice.sliceAdjust none none (-1) (n : Int) with | (lo, hi) => pure (lo, (-1 : Int), Builtin.Slice.slicePlaces lo hi (-1))) _ _ s
  rw [rev_adjust n]
  show wpAny _ _ (pure ((n : Int) - 1, (-1 : Int), Builtin.Slice.slicePlaces ((n : Int) - 1) (-1) (-1))) _ _ s
  rw [rev_places]
  exact wpAny_pure h
theorem getItem_tuple_rev {t sl : Addr} {items : Array Value} {vs : Value} {Q : Value → Shared → Prop} (ht : IsTup s.heap t items) (hs : s.heap.IsSliceOf sl .none .none vs) (ps : IsPart vs (some (-1)))
    (h : Q (.ref s.heap.objs.size) { s with heap := s.heap.push { cls := .type "tuple", data := .seq items.toList.reverse.toArray } }) (hsz : items.size ≤ sizeLine) : wpAny (model prog w) A (getItem (.ref t) (.ref sl)) Q E s := by
  have htake : sizeOk (.seq items.toList.reverse.toArray) := by
    show items.toList.reverse.toArray.size ≤ sizeLine
    rw [List.size_toArray, List.length_reverse, Array.length_toList]
    exact hsz
  obtain ⟨os, hos, hcs, hds⟩ := id hs
  have hTs : s.TypeIs (.ref sl) "slice" := ⟨os, hos, hcs⟩
  unfold getItem
  try with_reducible refine wpAny_holding ?_
  first | refine wpAny_bind (wpAny_pure ?_) | skip
  refine wpAny_bind (wpAny_sequenceKey ht.typeIs (by decide) ?_)
  refine wpAny_bind (wpAny_callSpecial?_slot (name := Str.ofString "__getitem__") ht.typeIs PyProof.Rows.slot_tuple_getitem
    (wpAny_call_entry PyProof.Rows.slot_tuple_getitem ht.typeIs entry_tuple_getitem ?_ (args_tuple_getitem _ _)))
  show wpAny _ _ (Builtin.Tuple.tupleItemsOf (.ref t) >>= _) _ _ s
  refine wpAny_bind (tupleItemsOf_ ht ?_)
  refine wpAny_bind (wpAny_typeOf hTs ?_)
  rw [if_pos (by decide)]
  refine wpAny_bind (sliceApplied_rev hs ps ?_)
  have hno : ¬ ((((items.size : Int) - 1) == 0 && (-1 : Int) == 1 && items.size == items.size) = true) := by
    intro q
    rw [Bool.and_eq_true, Bool.and_eq_true] at q
    exact absurd (eq_of_beq q.1.2) (by decide)
  show wpAny _ _ (if (((items.size : Int) - 1) == 0 && (-1 : Int) == 1 && items.size == items.size) = true then _ else _) _ _ s
  rw [if_neg hno]
  dsimp only
  rw [rev_pick]
  first
    | exact wpAny_bind (m := Builtin.Tuple.tupleExact _) (wpAny_newObj_type (wpAny_pure ⟨_, rfl, wpAny_pure h⟩) htake)
    | exact wpAny_bind (m := Builtin.Tuple.tupleExact _) (wpAny_newObj_type (wpAny_bind (wpAny_pure (wpAny_pure ⟨_, rfl, wpAny_pure h⟩))) htake)
    | exact wpAny_bind (wpAny_bind (m := Builtin.Tuple.tupleExact _) (wpAny_newObj_type (wpAny_pure (wpAny_pure ⟨_, rfl, wpAny_pure h⟩)) htake))
    | exact wpAny_bind (wpAny_bind (m := Builtin.Tuple.tupleExact _) (wpAny_newObj_type (wpAny_pure ⟨_, rfl, wpAny_pure h⟩) htake))
end
def dRevT : D → (D → Prop) → Prop
  | .tuple xs, P => P (.tuple xs.reverse)
  | _, _ => False
def tRevT (K : PySem.W.Frag) (te : TE) : TE := fun σ H Q => te σ H fun x H1 => ∃ a xs, x = .ref a ∧ SqT K H1 a xs ∧ ∀ p, H1 p = none → Q (.ref p) (upd H1 p (.tup xs.reverse))
section
variable {X : Cx} {e : Expr} {pos : Pos}
theorem pe_revT {te : TE} {k : Nat} {p1 p2 p3 : Pos} (he : PE X e te) : PE X (.Subscript e (.Slice none none (some (.UnaryOp .USub (.Constant (.int 1) k p1) p2)) p3) pos) (tRevT X.K te) := by
  refine ⟨fun pins s σ H Q I h => ?_⟩
  refine Subscript_ (thn (he.run pins s σ H _ I h) fun v s1 ⟨x, H1, I1, r1, q1⟩ => ?_)
  obtain ⟨a, xs, ex, hx, q⟩ := q1
  subst ex
  cases r1
  have hst : PO X (some (.UnaryOp .USub (.Constant (.int 1) k p1) p2)) (tPart (tUn (rU fun i => .int (-i)) (tC (.int 1)))) := po_some (pe_un un_neg pe_int)
  refine wpAny_Slice (thn (po_none.run pins s1 σ H1 (fun o H2 => o = none ∧ H2 = H1) I1 ⟨rfl, rfl⟩) fun vl s2 ⟨l, H2, I2, pl, el, e2⟩ => ?_)
  subst el e2
  refine thn (po_none.run pins s2 σ H2 (fun o H3 => o = none ∧ H3 = H2) I2 ⟨rfl, rfl⟩) fun vu s3 ⟨u, H3, I3, pu, eu, e3⟩ => ?_
  subst eu e3
  refine thn (hst.run pins s3 σ H3 (fun o H4 => o = some (-1) ∧ H4 = H3) I3 ⟨1, rfl, -1, rfl, rfl, rfl⟩) fun vs s4 ⟨o, H4, I4, ps, eo, e4⟩ => ?_
  subst eo e4
  cases pl
  cases pu
  have I5 : Inv X pins σ H4 { s4 with heap := s4.heap.push { cls := .type "slice", data := .fields #[.none, .none, vs] } } := I4.kept (t' := s4.toks) fun b ob q => Heap.get?_push_of_some _ q
  obtain ⟨its, r, ht, hz⟩ := I5.tuple hx
  have hlen : its.toArray.size = xs.length := by rw [List.size_toArray]; exact r.length.symm
  show wpAny (model X.prog X.w) X.A (subscriptTail e (.Slice none none (some (.UnaryOp .USub (.Constant (.int 1) k p1) p2)) p3) (.ref a) (.ref s4.heap.objs.size)) (EP X pins σ Q) X.xe { s4 with heap := s4.heap.push { cls := .type "slice", data := .fields #[.none, .none, vs] } }
  refine tail_any (ops := [.ref a, .ref s4.heap.objs.size]) ht.typeIs (PyProof.Rows.slot_tuple_getitem.lookup) ?_ (by with_unfolding_all rfl)
  refine getItem_tuple_rev ht (Heap.IsSliceOf.new _ .none .none vs) ps ?_ (by rw [hlen]; exact hz)
  refine ⟨.ref _, _, I5.laid (t' := s4.toks) (o := .tup xs.reverse) (fun b ob q => Heap.get?_push_of_some _ q) (Nat.le_refl _) ?_, rfl, q _ (I5.hok.fresh (Nat.le_refl _))⟩
  exact ⟨by rw [List.length_reverse]; exact hz, _, r.reverse, IsTup.new _ _⟩
theorem ge_revT {k ne : Nat} {me : ME} {p1 p2 p3 : Pos} (he : GE X e ne me) : GE X (.Subscript e (.Slice none none (some (.UnaryOp .USub (.Constant (.int 1) k p1) p2)) p3) pos) ne (mUn dRevT me) := pe_imp (pe_revT he) fun σ H Q h => by
  obtain ⟨W, B, G0, H0, G, env, P, R, hm, q⟩ := h
  refine ⟨W, B, G0, H0, G, env, _, R, hm, fun x e1 v G1 H1 p1 s1 R1 d1 => ?_⟩
  cases x with
  | tuple xs =>
    obtain ⟨a, ws, rfl, h1, h2⟩ := dp_tup d1
    refine ⟨a, ws, rfl, pub_sqT R1.pub h1, fun p hp => ?_⟩
    have g := Grow.new1 (o := .tup ws.reverse) R1.pub hp
    exact q _ e1 _ _ _ p1 (s1.trans g.eg) (R1.grow g) (.tup (SqT.of upd_same) (dpAll_same g.eg (dpAll_rev h2)))
  | _ => exact p1.elim
end
end DL
namespace DL
open PySem PySem.Spec PyProof.Rows L2
/-! ### repr of data with dicts -/
mutual
def noLst : D → Bool
  | .list _ => false
  | .tuple xs => noLstA xs
  | .dict ks => noLstK ks
  | _ => true
def noLstA : List D → Bool
  | [] => true
  | x :: r => noLst x && noLstA r
def noLstK : List (D × D) → Bool
  | [] => true
  | (_, x) :: r => noLst x && noLstK r
end
theorem key_reads {P : Program} {w : World} {h : Heap} {k : Key} {u : Value} (r : (mixKind P w).is k u = true) : Reads h u (keyD k) [] := by
  rcases keyIs_shape r with ⟨i, t, rfl, rfl⟩ | ⟨x, t, rfl, rfl⟩
  · exact Reads.int i t
  · exact Reads.str x t
section
variable {X : Cx} {pins : List (Addr × Obj)} {σ : L2.St} {H : Hp} {s : Shared}
mutual
theorem dr_reads {G : Hp} (I : Inv X pins σ H s) (sP : Pub G H) : ∀ (d : D) (v : V) (u : Value), (H sysModules = none ∨ noLst d = true) → Dr X.K G v d → RelV v u → ∃ as, Reads s.heap u d as ∧ sysModules ∉ as
  | .none, _, _, _, h, r => by
    cases h
    cases r
    exact ⟨_, Reads.none, by simp⟩
  | .bool b, _, _, _, h, r => by
    cases h
    cases r
    exact ⟨_, Reads.bool b, by simp⟩
  | .int i, _, _, _, h, r => by
    cases h
    obtain ⟨t, rfl⟩ := r
    exact ⟨_, Reads.int i t, by simp⟩
  | .str x, _, _, _, h, r => by
    cases h
    obtain ⟨t, rfl⟩ := r
    exact ⟨_, Reads.str x t, by simp⟩
  | .list ds, _, _, hs, h, r => by
    cases h with
    | lst hg ha =>
      cases r
      have hs : H sysModules = none := hs.resolve_right (by simp [noLst])
      obtain ⟨its, rv, ⟨o, n, ho, hc, _, hd⟩, _⟩ := I.list (SqL.of (sP.lst hg))
      obtain ⟨as, hr, hn⟩ := dr_readsA I sP ds _ its (.inl hs) ha rv
      refine ⟨_, Reads.list ho hc hd hr, fun z => ?_⟩
      rcases List.mem_cons.mp z with z | z
      · rw [← z, sP.free hs] at hg
        cases hg
      · exact hn z
  | .tuple ds, _, _, hs, h, r => by
    cases h with
    | tup hg ha =>
      cases r
      obtain ⟨its, rv, ⟨o, ho, hc, n, hd⟩, _⟩ := I.tuple (pub_sqT sP hg)
      obtain ⟨as, hr, hn⟩ := dr_readsA I sP ds _ its (hs.imp id fun z => by simpa [noLst] using z) ha rv
      exact ⟨_, Reads.tuple ho hc hd hr, hn⟩
  | .dict ds, _, _, hs, h, r => by
    cases h with
    | dic hg ha =>
      cases r
      obtain ⟨hz, hS, vs, rv, o, es, ep, ho, hx, hd, hk, hp, hn⟩ := rd_of I.hok (sP.dk hg)
      obtain ⟨as, q1, n1, bs, q2, n2⟩ := dr_readsK I sP ds _ vs es.toList (hs.imp id fun z => by simpa [noLst] using z) ha rv hp
      refine ⟨_, Reads.dict ho hx.1 hd q1 q2, fun z => ?_⟩
      rcases List.mem_append.mp z with z | z
      · rcases List.mem_cons.mp z with z | z
        · rw [← z] at hS
          exact absurd hS (by decide)
        · exact n1 z
      · exact n2 z
theorem dr_readsA {G : Hp} (I : Inv X pins σ H s) (sP : Pub G H) : ∀ (ds : List D) (vs : List V) (us : List Value), (H sysModules = none ∨ noLstA ds = true) → DrAll X.K G vs ds → Vals vs us → ∃ as, ReadsAll s.heap us ds as ∧ sysModules ∉ as
  | [], _, _, _, h, r => by
    cases h
    cases r
    exact ⟨_, ReadsAll.nil, by simp⟩
  | d :: ds, _, _, hs, h, r => by
    cases h with
    | cons h1 h2 =>
      cases r with
      | cons r1 r2 =>
        have hs1 : (H sysModules = none ∨ noLst d = true) ∧ (H sysModules = none ∨ noLstA ds = true) := by
          rcases hs with z | z
          · exact ⟨.inl z, .inl z⟩
          · simp only [noLstA, Bool.and_eq_true] at z
            exact ⟨.inr z.1, .inr z.2⟩
        obtain ⟨as, q1, n1⟩ := dr_reads I sP d _ _ hs1.1 h1 r1
        obtain ⟨bs, q2, n2⟩ := dr_readsA I sP ds _ _ hs1.2 h2 r2
        refine ⟨_, ReadsAll.cons q1 q2, fun z => ?_⟩
        rcases List.mem_append.mp z with z | z
        · exact n1 z
        · exact n2 z
theorem dr_readsK {G : Hp} (I : Inv X pins σ H s) (sP : Pub G H) : ∀ (ds : List (D × D)) (kvs : List (Key × V)) (vs : List (Key × Value)) (es : List DictEntry), (H sysModules = none ∨ noLstK ds = true) → DrKv X.K G kvs ds → KV kvs vs → Pairs (mixKind X.prog X.w) es vs →
    ∃ as, ReadsAll s.heap (es.map (·.key)) (ds.map (·.1)) as ∧ sysModules ∉ as ∧ ∃ bs, ReadsAll s.heap (es.map (·.val)) (ds.map (·.2)) bs ∧ sysModules ∉ bs
  | [], _, _, _, _, h, r, p => by
    cases h
    cases r
    cases p
    exact ⟨_, ReadsAll.nil, by simp, _, ReadsAll.nil, by simp⟩
  | (k, d) :: ds, _, _, _, hs, h, r, p => by
    cases h with
    | cons h1 h2 =>
      cases r with
      | cons r1 r2 =>
        cases p with
        | cons p1 p2 p3 =>
          have hs1 : (H sysModules = none ∨ noLst d = true) ∧ (H sysModules = none ∨ noLstK ds = true) := by
            rcases hs with z | z
            · exact ⟨.inl z, .inl z⟩
            · simp only [noLstK, Bool.and_eq_true] at z
              exact ⟨.inr z.1, .inr z.2⟩
          obtain ⟨bs, q2, n2⟩ := dr_reads I sP d _ _ hs1.1 h1 (p2 ▸ r1.2)
          obtain ⟨as', q1', n1', bs', q2', n2'⟩ := dr_readsK I sP ds _ _ _ hs1.2 h2 r2 p3
          refine ⟨_, ReadsAll.cons (key_reads (r1.1 ▸ p1)) q1', fun z => ?_, _, ReadsAll.cons q2 q2', fun z => ?_⟩
          · rcases List.mem_append.mp z with z | z
            · cases z
            · exact n1' z
          · rcases List.mem_append.mp z with z | z
            · exact n2 z
            · exact n2' z
end
end
/-- repr of any data: without dicts, or without lists -/
def dReprD : List D → (D → Prop) → Prop
  | [x], P => (x.showable = true ∧ (noDict x = true ∨ noLst x = true)) ∧ x.depth ≤ 60 ∧ x.shown.length ≤ sizeLine ∧ P (.str x.shown)
  | _, _ => False
section
variable {X : Cx}
theorem cd_reprD (hg : X.A.guards = some []) (hu : X.A.units + 64 < cLine) : CallR X (.builtin "repr") (rDC X.K dReprD) := by
  intro pins s σ H xs us Q I r h
  obtain ⟨G, ds, P, sG, da, hf, q⟩ := h
  unfold dReprD at hf
  split at hf
  · obtain ⟨v, rfl, d⟩ := all1 da
    obtain ⟨⟨h1, h2⟩, h3, h4, hP⟩ := hf
    rcases h2 with h2 | h2
    · exact cd_reprA hg hu pins s σ H _ us Q I r ⟨G, _, P, sG, .cons d .nil, ⟨⟨h1, h2⟩, h3, h4, hP⟩, q⟩
    have q' := q _ _ G H hP (Grow.refl sG) (.str _)
    have go : ∀ a, v = .ref a → wpAny (model X.prog X.w) X.A (call (.builtin "repr") us) (EP X pins σ Q) X.xe s := fun a ev => by
      subst ev
      obtain ⟨u, rfl, r1⟩ := vals1 r
      obtain ⟨as, rd, hn⟩ := dr_reads I sG _ _ _ (.inr h2) d r1
      cases r1
      refine repr_of_reads' rd h1 (fun _ => hn) hg (by omega) (fun b o e => e) (fun h' t tk hk => ?_) h4
      exact ⟨.str _, H, I.kept hk, ⟨_, rfl⟩, q'⟩
    cases d with
    | int i =>
      obtain ⟨u, rfl, t, rfl⟩ := vals1 r
      exact PySem.P.repr_of_int (by simpa [PyData.showable] using h1) ⟨.str _, H, I.tok _, ⟨_, rfl⟩, q'⟩
    | str z =>
      obtain ⟨u, rfl, t, rfl⟩ := vals1 r
      exact PySem.P.repr_of_str ⟨.str _, H, I.tok _, ⟨_, rfl⟩, q'⟩ h4
    | bl b =>
      obtain ⟨u, rfl, r1⟩ := vals1 r
      cases r1
      exact PySem.P.repr_of_bool ⟨.str _, H, I.tok _, ⟨_, rfl⟩, q'⟩
    | non =>
      obtain ⟨u, rfl, r1⟩ := vals1 r
      cases r1
      exact PySem.P.repr_of_none ⟨.str _, H, I.tok _, ⟨_, rfl⟩, q'⟩
    | lst a b => exact go _ rfl
    | tup a b => exact go _ rfl
    | dic a b => exact go _ rfl
  · exact hf.elim
end
end DL
namespace DL
open PySem PySem.Spec PyProof.Rows L2
/-! ### zip of two things of any sort: lists, tuples, texts -/
/-- one of the parts: Co: what it walks over stands in the heap, St: its iterator -/
structure Wlk (it : Addr) (ls : List Addr) (n : Nat) (Y : Nat → Value → Prop) (Co : Heap → Prop) (St : Nat → Heap → Prop) : Prop where
  keep : ∀ {k : Nat} {h h' : Heap}, St k h → (∀ o, h.get? it = some o → h'.get? it = some o) → St k h'
  keepC : ∀ {h h' : Heap}, Co h → (∀ c ∈ ls, ∀ o, h.get? c = some o → h'.get? c = some o) → Co h'
  obj : ∀ {k : Nat} {h : Heap}, St k h → ∃ o fs, h.get? it = some o ∧ o.data = .fields fs
  item : ∀ {prog : Program} {w : World} {A : Around} {E : Value → Shared → Prop} {s : Shared} {k : Nat} {Q : Value → Shared → Prop}, St k s.heap → Co s.heap → k < n →
    (∀ v h' tk, Y k v → St (k + 1) h' → Heap.SameBut it s.heap h' → Q v { s with heap := h', toks := tk }) → wpAny (model prog w) A (Builtin.SmallTypes.nextOf (.ref it)) Q E s
  done : ∀ {prog : Program} {w : World} {A : Around} {E : Value → Shared → Prop} {s : Shared} {k : Nat} {Q : Value → Shared → Prop}, A.handled = none → St k s.heap → Co s.heap → n ≤ k →
    (∀ h' e, Heap.ExtBut it s.heap h' → (∃ o, h'.get? e = some o ∧ o.cls = .type "StopIteration") → E (.ref e) { s with heap := h' }) → wpAny (model prog w) A (Builtin.SmallTypes.nextOf (.ref it)) Q E s
theorem wk_tup {it l : Addr} {its : Array Value} : Wlk it [l] its.size (fun k v => its[k]? = some v) (fun h => h.IsTuple l its) (fun k h => h.IsTupleIter it l k) where
  keep := fun st e => st.at e
  keepC := fun co e => co.at (e l (by simp))
  obj := fun ⟨o, h1, _, h2⟩ => ⟨o, _, h1, h2⟩
  item := fun {prog w A E s k Q} st co hk hQ => RZ.nextOf_tuple_item st co (Array.getElem?_eq_getElem hk) fun h' a b => hQ _ h' s.toks (Array.getElem?_eq_getElem hk) a b
  done := fun ok st co hk hE => RZ.nextOf_tuple_end ok st co (Array.getElem?_eq_none hk) hE
theorem wk_lst {it l : Addr} {its : Array Value} : Wlk it [l] its.size (fun k v => its[k]? = some v) (fun h => h.IsList l its) (fun k h => h.IsListIter it l k) where
  keep := fun st e => st.at e
  keepC := fun co e => co.at (e l (by simp))
  obj := fun ⟨o, h1, _, h2⟩ => ⟨o, _, h1, h2⟩
  item := fun {prog w A E s k Q} st co hk hQ => wpAny_nextOf_list_item st co (Array.getElem?_eq_getElem hk) fun h' a b => hQ _ h' s.toks (Array.getElem?_eq_getElem hk) a b
  done := fun ok st co hk hE => wpAny_nextOf_list_end ok st co (Array.getElem?_eq_none hk) hE
theorem wk_asc {it : Addr} {x : Str} {t : Tok} : Wlk it [] x.cps.size (fun k v => ∃ c u, x.cps[k]? = some c ∧ v = .str ⟨#[c]⟩ u) (fun _ => True) (fun k h => h.IsStrIter it "str_ascii_iterator" x t k) where
  keep := fun ⟨o, h1, h2⟩ e => ⟨o, e o h1, h2⟩
  keepC := fun _ _ => trivial
  obj := fun ⟨o, h1, _, h2⟩ => ⟨o, _, h1, h2⟩
  item := fun {prog w A E s k Q} st co hk hQ => wpAny_nextOf_ascii_item st (Array.getElem?_eq_getElem hk) fun h' a b => hQ _ h' _ ⟨_, _, Array.getElem?_eq_getElem hk, rfl⟩ a b
  done := fun ok st co hk hE => wpAny_nextOf_ascii_end ok st (Array.getElem?_eq_none hk) hE
theorem wk_wid {it : Addr} {x : Str} {t : Tok} : Wlk it [] x.cps.size (fun k v => ∃ c u, x.cps[k]? = some c ∧ v = .str ⟨#[c]⟩ u) (fun _ => True) (fun k h => h.IsStrIter it "str_iterator" x t k) where
  keep := fun ⟨o, h1, h2⟩ e => ⟨o, e o h1, h2⟩
  keepC := fun _ _ => trivial
  obj := fun ⟨o, h1, _, h2⟩ => ⟨o, _, h1, h2⟩
  item := fun {prog w A E s k Q} st co hk hQ => wpAny_nextOf_wide_item st (Array.getElem?_eq_getElem hk) fun h' a b => hQ _ h' _ ⟨_, _, Array.getElem?_eq_getElem hk, rfl⟩ a b
  done := fun ok st co hk hE => wpAny_nextOf_wide_end ok st (Array.getElem?_eq_none hk) hE
/-- the five new objects, and what is walked over, stand apart -/
structure Ap (z TI TO i1 i2 : Addr) (ls : List Addr) : Prop where
  d : TI ≠ z ∧ TO ≠ z ∧ i1 ≠ z ∧ i2 ≠ z ∧ TI ≠ TO ∧ TI ≠ i1 ∧ TI ≠ i2 ∧ TO ≠ i1 ∧ TO ≠ i2 ∧ i1 ≠ i2
  l : ∀ c ∈ ls, c ≠ z ∧ c ≠ TO ∧ c ≠ i1 ∧ c ≠ i2
section
variable {prog : Program} {w : World} {A : Around} {E : Value → Shared → Prop} {s : Shared} {z TI TO i1 i2 : Addr} {ls1 ls2 : List Addr} {n1 n2 : Nat} {Y1 Y2 : Nat → Value → Prop} {C1 C2 : Heap → Prop} {S1 S2 : Nat → Heap → Prop}
theorem zn_next {k : Nat} {a b : Value} {Q : Value → Shared → Prop} (W1 : Wlk i1 ls1 n1 Y1 C1 S1) (W2 : Wlk i2 ls2 n2 Y2 C2 S2) (D : Ap z TI TO i1 i2 (ls1 ++ ls2)) (hz : IsZip s.heap z TI TO .none) (hTI : IsPair s.heap TI (.ref i1) (.ref i2)) (hTO : IsPair s.heap TO a b)
    (m1 : S1 k s.heap) (m2 : S2 k s.heap) (c1 : C1 s.heap) (c2 : C2 s.heap) (l1 : k < n1) (l2 : k < n2)
    (hQ : ∀ x y h' tk, Y1 k x → Y2 k y → IsZip h' z TI TO (rawInt s.heap.objs.size) → IsPair h' TO x y → S1 (k + 1) h' → S2 (k + 1) h' → IsPair h' s.heap.objs.size x y →
      (∀ c o, c ≠ z → c ≠ TO → c ≠ i1 → c ≠ i2 → s.heap.get? c = some o → h'.get? c = some o) → Q (.ref s.heap.objs.size) { s with heap := h', toks := tk }) :
    wpAny (model prog w) A (Builtin.«zip.__next__» ⟨[.ref z], []⟩) (fun fin s' => ∃ v, fin = .done (.ret v) ∧ Q v s') E s := by
  obtain ⟨d1, d2, d3, d4, d5, d6, d7, d8, d9, d10⟩ := D.d
  have dl1 := fun c hc => D.l c (List.mem_append_left _ hc)
  have dl2 := fun c hc => D.l c (List.mem_append_right _ hc)
  show wpAny _ _ (field (.ref z) 2 >>= _) _ _ _
  refine wpAny_bind (wpAny_field hz rfl (x := .bool false) rfl ?_)
  show wpAny _ _ (field (.ref z) 3 >>= _) _ _ _
  refine wpAny_bind (wpAny_field hz rfl (x := .ref TI) rfl (wpAny_bind (wpAny_seqItems hTI rfl ?_)))
  show wpAny _ _ (Builtin.SmallTypes.ownedTupleIsFree (.ref z) >>= _) _ _ _
  refine wpAny_bind ?_
  unfold Builtin.SmallTypes.ownedTupleIsFree
  refine wpAny_bind (wpAny_field hz rfl (x := .none) rfl (wpAny_pure ?_))
  simp only [if_true]
  refine wpAny_bind (wpAny_rule (wpAny_bind (wpAny_field hz rfl (x := .ref TO) rfl ?_)))
  refine wpAny_bind (wpAny_setField_rec hz (by simp) fun ha za sa => ?_)
  have za : IsZip ha z TI TO .ellipsis := za
  refine wpAny_bind ?_
  simp only [List.zipIdx_cons, List.zipIdx_nil, List.forIn_cons, List.forIn_nil]
  refine wpAny_bind (wpAny_bind (wpAny_onRaise ?_))
  show wpAny _ _ (Builtin.SmallTypes.nextOf (.ref i1) >>= _) _ _ _
  refine wpAny_bind (W1.item (s := { s with heap := ha }) (W1.keep m1 fun o q => sa.extBut _ _ d3 q) (W1.keepC c1 fun c hc o q => sa.extBut _ _ (dl1 c hc).1 q) l1 fun x hb tb yx nb sb => wpAny_pure ?_)
  have sb : Heap.SameBut i1 ha hb := sb
  have ob : IsPair hb TO a b := sb.extBut _ _ d8 (sa.extBut _ _ d2 hTO)
  refine wpAny_bind (wpAny_seqItems ob rfl (wpAny_bind (wpAny_updateSeq_pair ob fun hc oc sc => ?_)))
  have oc : IsPair hc TO x b := oc
  refine wpAny_bind (wpAny_letGo (wpAny_pure ?_))
  refine wpAny_bind (wpAny_bind (wpAny_onRaise ?_))
  show wpAny _ _ (Builtin.SmallTypes.nextOf (.ref i2) >>= _) _ _ _
  refine wpAny_bind (W2.item (s := { s with heap := hc, toks := tb }) (W2.keep m2 fun o q => sc.extBut _ _ d9.symm (sb.extBut _ _ d10.symm (sa.extBut _ _ d4 q))) (W2.keepC c2 fun c hcm o q => sc.extBut _ _ (dl2 c hcm).2.1 (sb.extBut _ _ (dl2 c hcm).2.2.1 (sa.extBut _ _ (dl2 c hcm).1 q))) l2 fun y hd td yy nd sd => wpAny_pure ?_)
  have sd : Heap.SameBut i2 hc hd := sd
  have od : IsPair hd TO x b := sd.extBut _ _ d9 oc
  refine wpAny_bind (wpAny_seqItems od rfl (wpAny_bind (wpAny_updateSeq_pair od fun he oe se => ?_)))
  have oe : IsPair he TO x y := oe
  refine wpAny_bind (wpAny_letGo (wpAny_pure (wpAny_pure ?_)))
  refine wpAny_bind (wpAny_seqItems oe rfl (wpAny_bind (wpAny_newTuple ?_)))
  have sz : he.objs.size = s.heap.objs.size := by rw [se.1, sd.1, sc.1, sb.1, sa.1]
  have ze : IsZip he z TI TO .ellipsis := se.extBut _ _ d2.symm (sd.extBut _ _ d4.symm (sc.extBut _ _ d2.symm (sb.extBut _ _ d3.symm za)))
  have ke : ∀ c o, c ≠ z → c ≠ TO → c ≠ i1 → c ≠ i2 → s.heap.get? c = some o → he.get? c = some o := fun c o c1 c2 c3 c4 q => se.extBut _ _ c2 (sd.extBut _ _ c4 (sc.extBut _ _ c2 (sb.extBut _ _ c3 (sa.extBut _ _ c1 q))))
  have zl : z < he.objs.size := Heap.lt_size ze
  show wpAny _ _ (Builtin.SmallTypes.ownedTupleHandOut (.ref z) (.ref he.objs.size) >>= _) _ _ _
  refine wpAny_bind ?_
  unfold Builtin.SmallTypes.ownedTupleHandOut
  have zf : IsZip (he.push { cls := .type "tuple", data := .seq #[x, y] }) z TI TO .ellipsis := Heap.get?_push_of_some _ ze
  refine wpAny_bind (wpAny_setField_rec zf (by simp) fun hg zg sg => ?_)
  have zg : IsZip hg z TI TO (rawInt he.objs.size) := zg
  refine wpAny_setField_rec zg (by simp) fun hh zh sh => ?_
  have zh : IsZip hh z TI TO (rawInt he.objs.size) := zh
  have up : ∀ c o, c ≠ z → he.get? c = some o → hh.get? c = some o := fun c o c1 q => sh.extBut _ _ c1 (sg.extBut _ _ c1 (Heap.get?_push_of_some _ q))
  have pr : IsPair hh he.objs.size x y := sh.extBut _ _ (Nat.ne_of_gt zl) (sg.extBut _ _ (Nat.ne_of_gt zl) (Heap.get?_push_size _ rfl))
  rw [sz] at zh pr
  refine wpAny_pure ⟨_, rfl, ?_⟩
  show Q (.ref he.objs.size) _
  rw [sz]
  exact hQ x y hh td yx yy zh (up _ _ d2 oe) (W1.keep nb fun o q => up _ _ d3 (se.extBut _ _ d8.symm (sd.extBut _ _ d10 (sc.extBut _ _ d8.symm q)))) (W2.keep nd fun o q => up _ _ d4 (se.extBut _ _ d9.symm q)) pr fun c o c1 c2 c3 c4 q => up c o c1 (ke c o c1 c2 c3 c4 q)
theorem zn_end {k : Nat} {a b : Value} {Q : Fin → Shared → Prop} (ok : A.handled = none) (W1 : Wlk i1 ls1 n1 Y1 C1 S1) (W2 : Wlk i2 ls2 n2 Y2 C2 S2) (D : Ap z TI TO i1 i2 (ls1 ++ ls2)) (hz : IsZip s.heap z TI TO .none) (hTI : IsPair s.heap TI (.ref i1) (.ref i2)) (hTO : IsPair s.heap TO a b)
    (m1 : S1 k s.heap) (m2 : S2 k s.heap) (c1 : C1 s.heap) (c2 : C2 s.heap) (hend : n1 ≤ k ∨ n2 ≤ k)
    (hE : ∀ h' e tk, (∀ c o, c ≠ z → c ≠ TO → c ≠ i1 → c ≠ i2 → s.heap.get? c = some o → h'.get? c = some o) → (∃ o, h'.get? e = some o ∧ o.cls = .type "StopIteration") → E (.ref e) { s with heap := h', toks := tk }) :
    wpAny (model prog w) A (Builtin.«zip.__next__» ⟨[.ref z], []⟩) Q E s := by
  obtain ⟨d1, d2, d3, d4, d5, d6, d7, d8, d9, d10⟩ := D.d
  have dl1 := fun c hc => D.l c (List.mem_append_left _ hc)
  have dl2 := fun c hc => D.l c (List.mem_append_right _ hc)
  show wpAny _ _ (field (.ref z) 2 >>= _) _ _ _
  refine wpAny_bind (wpAny_field hz rfl (x := .bool false) rfl ?_)
  show wpAny _ _ (field (.ref z) 3 >>= _) _ _ _
  refine wpAny_bind (wpAny_field hz rfl (x := .ref TI) rfl (wpAny_bind (wpAny_seqItems hTI rfl ?_)))
  show wpAny _ _ (Builtin.SmallTypes.ownedTupleIsFree (.ref z) >>= _) _ _ _
  refine wpAny_bind ?_
  unfold Builtin.SmallTypes.ownedTupleIsFree
  refine wpAny_bind (wpAny_field hz rfl (x := .none) rfl (wpAny_pure ?_))
  simp only [if_true]
  refine wpAny_bind (wpAny_rule (wpAny_bind (wpAny_field hz rfl (x := .ref TO) rfl ?_)))
  refine wpAny_bind (wpAny_setField_rec hz (by simp) fun ha za sa => ?_)
  have za : IsZip ha z TI TO .ellipsis := za
  refine wpAny_bind ?_
  simp only [List.zipIdx_cons, List.zipIdx_nil, List.forIn_cons, List.forIn_nil]
  refine wpAny_bind (wpAny_bind (wpAny_onRaise ?_))
  show wpAny _ _ (Builtin.SmallTypes.nextOf (.ref i1) >>= _) _ _ _
  have M1 : S1 k ha := W1.keep m1 fun o q => sa.extBut _ _ d3 q
  have K1 : C1 ha := W1.keepC c1 fun c hc o q => sa.extBut _ _ (dl1 c hc).1 q
  by_cases l1 : n1 ≤ k
  · refine wpAny_bind (W1.done (s := { s with heap := ha }) ok M1 K1 l1 fun hb e eb st => ?_)
    obtain ⟨oe, hoe, hce⟩ := st
    have zb : IsZip hb z TI TO .ellipsis := eb _ _ d3.symm za
    have ez : e ≠ z := fun q => by
      subst q
      rw [zb] at hoe
      cases hoe
      simp at hce
    exact wpAny_setField_rec zb (by simp) fun hc _ sc => hE hc e s.toks (fun c o q1 _ q3 _ x => sc.extBut _ _ q1 (eb _ _ q3 (sa.extBut _ _ q1 x))) ⟨oe, sc.extBut _ _ ez hoe, hce⟩
  · have l2 : n2 ≤ k := by omega
    refine wpAny_bind (W1.item (s := { s with heap := ha }) M1 K1 (by omega) fun x hb tb yx nb sb => wpAny_pure ?_)
    have sb : Heap.SameBut i1 ha hb := sb
    have ob : IsPair hb TO a b := sb.extBut _ _ d8 (sa.extBut _ _ d2 hTO)
    refine wpAny_bind (wpAny_seqItems ob rfl (wpAny_bind (wpAny_updateSeq_pair ob fun hc oc sc => ?_)))
    refine wpAny_bind (wpAny_letGo (wpAny_pure ?_))
    refine wpAny_bind (wpAny_bind (wpAny_onRaise ?_))
    show wpAny _ _ (Builtin.SmallTypes.nextOf (.ref i2) >>= _) _ _ _
    refine wpAny_bind (W2.done (s := { s with heap := hc, toks := tb }) ok (W2.keep m2 fun o q => sc.extBut _ _ d9.symm (sb.extBut _ _ d10.symm (sa.extBut _ _ d4 q))) (W2.keepC c2 fun c hcm o q => sc.extBut _ _ (dl2 c hcm).2.1 (sb.extBut _ _ (dl2 c hcm).2.2.1 (sa.extBut _ _ (dl2 c hcm).1 q))) l2 fun hd e ed st => ?_)
    obtain ⟨oe, hoe, hce⟩ := st
    have zd : IsZip hd z TI TO .ellipsis := ed _ _ d4.symm (sc.extBut _ _ d2.symm (sb.extBut _ _ d3.symm za))
    have ez : e ≠ z := fun q => by
      subst q
      rw [zd] at hoe
      cases hoe
      simp at hce
    exact wpAny_setField_rec zd (by simp) fun he _ se => hE he e tb (fun c o q1 q2 q3 q4 x => se.extBut _ _ q1 (ed _ _ q4 (sc.extBut _ _ q2 (sb.extBut _ _ q3 (sa.extBut _ _ q1 x))))) ⟨oe, se.extBut _ _ ez hoe, hce⟩
end
end DL
namespace DL
open PySem PySem.Spec PyProof.Rows L2
/-- iter(v) is one new object -/
structure ItOf (v : Value) (ob : Obj) (Cn : Heap → Prop) : Prop where
  run : ∀ {prog : Program} {w : World} {A : Around} {E : Value → Shared → Prop} {s : Shared} {Q : Value → Shared → Prop}, Cn s.heap → Q (.ref s.heap.objs.size) { s with heap := s.heap.push ob } → wpAny (model prog w) A (pyIter v) Q E s
  push : ∀ {h : Heap} (o : Obj), Cn h → Cn (h.push o)
theorem io_tup {l : Addr} {its : Array Value} : ItOf (.ref l) { cls := .type "tuple_iterator", data := .fields #[.ref l, .int 0 0] } (fun h => h.IsTuple l its) := ⟨fun c q => wpAny_pyIter_tuple c q, fun o c => Heap.IsTuple.push c o⟩
theorem io_lst {l : Addr} {its : Array Value} : ItOf (.ref l) { cls := .type "list_iterator", data := .fields #[.ref l, .int 0 0] } (fun h => h.IsList l its) := ⟨fun c q => wpAny_pyIter_list c q, fun o c => Heap.IsList.push c o⟩
theorem io_asc {x : Str} {t : Tok} (ha : x.cps.all (· < 128) = true) : ItOf (.str x t) { cls := .type "str_ascii_iterator", data := .fields #[.str x t, .int 0 0] } (fun _ => True) := ⟨fun _ q => wpAny_pyIter_ascii ha q, fun _ _ => trivial⟩
theorem io_wid {x : Str} {t : Tok} (ha : x.cps.all (· < 128) = false) : ItOf (.str x t) { cls := .type "str_iterator", data := .fields #[.str x t, .int 0 0] } (fun _ => True) := ⟨fun _ q => wpAny_pyIter_wide ha q, fun _ _ => trivial⟩
abbrev znH1 (h : Heap) (o1 : Obj) : Heap := h.push o1
abbrev znH2 (h : Heap) (o1 o2 : Obj) : Heap := (znH1 h o1).push o2
abbrev znH3 (h : Heap) (o1 o2 : Obj) : Heap := (znH2 h o1 o2).push { cls := .type "tuple", data := .seq #[.ref h.objs.size, .ref (znH1 h o1).objs.size] }
abbrev znH4 (h : Heap) (o1 o2 : Obj) : Heap := (znH3 h o1 o2).push { cls := .type "tuple", data := .seq #[.none, .none] }
abbrev znH5 (h : Heap) (o1 o2 : Obj) : Heap := (znH4 h o1 o2).push { cls := .type "zip", data := .fields #[.none, .bool false, .bool false, .ref (znH2 h o1 o2).objs.size, .ref (znH3 h o1 o2).objs.size] }
theorem zn_new {v1 v2 : Value} {o1 o2 : Obj} {C1 C2 : Heap → Prop} (I1 : ItOf v1 o1 C1) (I2 : ItOf v2 o2 C2) : Meets (Builtin.«zip.__new__» ⟨[.type "zip", v1, v2], []⟩) (fun _ R s => C1 s.heap ∧ C2 s.heap ∧ R (.ok (.ret (.ref (znH4 s.heap o1 o2).objs.size))) { s with heap := znH5 s.heap o1 o2 }) :=
  .of_wp fun prog w A R s h => by
    obtain ⟨hp, g, d, tk, os⟩ := s
    obtain ⟨t1, t2, h⟩ := h
    have sb := sub_zip
    have T1 : C1 (Shared.heap ⟨hp, g, d, tk, os⟩) := t1
    have T2 : C2 (Shared.heap ⟨hp.push o1, g, d, tk, os⟩) := I2.push o1 t2
    wp_walk using I1.run T1, I2.run T2
    exact ⟨_, rfl, h⟩
section
variable {prog : Program} {w : World} {A : Around} {E : Value → Shared → Prop} {s : Shared} {v1 v2 : Value} {o1 o2 : Obj} {C1 C2 : Heap → Prop}
theorem zn_call {Q : Value → Shared → Prop} (I1 : ItOf v1 o1 C1) (I2 : ItOf v2 o2 C2) (c1 : C1 s.heap) (c2 : C2 s.heap)
    (h : ∀ h', IsZip h' (s.heap.objs.size + 4) (s.heap.objs.size + 2) (s.heap.objs.size + 3) .none → IsPair h' (s.heap.objs.size + 2) (.ref s.heap.objs.size) (.ref (s.heap.objs.size + 1)) → IsPair h' (s.heap.objs.size + 3) .none .none →
      h'.get? s.heap.objs.size = some o1 → h'.get? (s.heap.objs.size + 1) = some o2 → (∀ c o, s.heap.get? c = some o → h'.get? c = some o) → Q (.ref (s.heap.objs.size + 4)) { s with heap := h' }) (f1 : o1.isFreed = false) (f2 : o2.isFreed = false) :
    wpAny (model prog w) A (call (.type "zip") [v1, v2]) Q E s := by
  refine callType_new F.called_zip (by decide) (F.typeCall_zip_2 _ _) (F.newCall_zip_2 _ _) (fun obj => F.args_object_init_3 obj _ _) F.entry_zip_new (zn_new I1 I2) ⟨c1, c2, ?_⟩
  have z1 : (znH1 s.heap o1).objs.size = s.heap.objs.size + 1 := Heap.size_push ..
  have z2 : (znH2 s.heap o1 o2).objs.size = s.heap.objs.size + 2 := by rw [Heap.size_push, z1]
  have z3 : (znH3 s.heap o1 o2).objs.size = s.heap.objs.size + 3 := by rw [Heap.size_push, z2]
  have z4 : (znH4 s.heap o1 o2).objs.size = s.heap.objs.size + 4 := by rw [Heap.size_push, z3]
  have g5 : IsZip (znH5 s.heap o1 o2) (znH4 s.heap o1 o2).objs.size (znH2 s.heap o1 o2).objs.size (znH3 s.heap o1 o2).objs.size .none := Heap.get?_push_size _ rfl
  have g4 : IsPair (znH5 s.heap o1 o2) (znH3 s.heap o1 o2).objs.size .none .none := Heap.get?_push_of_some _ (Heap.get?_push_size _ rfl)
  have g3 : IsPair (znH5 s.heap o1 o2) (znH2 s.heap o1 o2).objs.size (.ref s.heap.objs.size) (.ref (znH1 s.heap o1).objs.size) := Heap.get?_push_of_some _ (Heap.get?_push_of_some _ (Heap.get?_push_size _ rfl))
  have g2 : (znH5 s.heap o1 o2).get? (znH1 s.heap o1).objs.size = some o2 := Heap.get?_push_of_some _ (Heap.get?_push_of_some _ (Heap.get?_push_of_some _ (Heap.get?_push_size _ f2)))
  have g1 : (znH5 s.heap o1 o2).get? s.heap.objs.size = some o1 := Heap.get?_push_of_some _ (Heap.get?_push_of_some _ (Heap.get?_push_of_some _ (Heap.get?_push_of_some _ (Heap.get?_push_size _ f1))))
  have kp5 : ∀ c o, s.heap.get? c = some o → (znH5 s.heap o1 o2).get? c = some o := fun c o q => Heap.get?_push_of_some _ (Heap.get?_push_of_some _ (Heap.get?_push_of_some _ (Heap.get?_push_of_some _ (Heap.get?_push_of_some _ q))))
  show _ ∧ _
  rw [z2, z3, z4] at g5
  rw [z3] at g4
  rw [z2, z1] at g3
  rw [z1] at g2
  rw [z4]
  exact ⟨⟨_, g5, rfl⟩, h _ g5 g3 g4 g1 g2 kp5⟩
variable {z TI TO i1 i2 : Addr} {ls1 ls2 : List Addr} {n1 n2 : Nat} {Y1 Y2 : Nat → Value → Prop} {D1 D2 : Heap → Prop} {S1 S2 : Nat → Heap → Prop}
theorem zn_pyNext {k : Nat} {a b : Value} {Q : Option Value → Shared → Prop} (W1 : Wlk i1 ls1 n1 Y1 D1 S1) (W2 : Wlk i2 ls2 n2 Y2 D2 S2) (D : Ap z TI TO i1 i2 (ls1 ++ ls2)) (hz : IsZip s.heap z TI TO .none) (hTI : IsPair s.heap TI (.ref i1) (.ref i2)) (hTO : IsPair s.heap TO a b)
    (m1 : S1 k s.heap) (m2 : S2 k s.heap) (c1 : D1 s.heap) (c2 : D2 s.heap) (l1 : k < n1) (l2 : k < n2)
    (hQ : ∀ x y h' tk, Y1 k x → Y2 k y → IsZip h' z TI TO (rawInt s.heap.objs.size) → IsPair h' TO x y → S1 (k + 1) h' → S2 (k + 1) h' → IsPair h' s.heap.objs.size x y →
      (∀ c o, c ≠ z → c ≠ TO → c ≠ i1 → c ≠ i2 → s.heap.get? c = some o → h'.get? c = some o) → Q (some (.ref s.heap.objs.size)) { s with heap := h', toks := tk }) : wpAny (model prog w) A (pyNext (.ref z)) Q E s := by
  have hT : s.TypeIs (.ref z) "zip" := ⟨_, hz, rfl⟩
  unfold pyNext
  exact wpAny_bind (wpAny_attempt (wpAny_callSpecial?_slot (name := Str.ofString "__next__") hT F.slot_zip_next (wpAny_call_entry F.slot_zip_next hT F.entry_zip_next (zn_next W1 W2 D hz hTI hTO m1 m2 c1 c2 l1 l2 fun x y h2 tk a1 a2 a3 a4 a5 a6 a7 a8 => wpAny_pure (hQ x y h2 tk a1 a2 a3 a4 a5 a6 a7 a8)) (F.args_zip_next_1 _))))
theorem zn_pyEnd {k : Nat} {a b : Value} {Q : Option Value → Shared → Prop} (ok : A.handled = none) (W1 : Wlk i1 ls1 n1 Y1 D1 S1) (W2 : Wlk i2 ls2 n2 Y2 D2 S2) (D : Ap z TI TO i1 i2 (ls1 ++ ls2)) (hz : IsZip s.heap z TI TO .none) (hTI : IsPair s.heap TI (.ref i1) (.ref i2)) (hTO : IsPair s.heap TO a b)
    (m1 : S1 k s.heap) (m2 : S2 k s.heap) (c1 : D1 s.heap) (c2 : D2 s.heap) (hend : n1 ≤ k ∨ n2 ≤ k)
    (hQ : ∀ h' tk, (∀ c o, c ≠ z → c ≠ TO → c ≠ i1 → c ≠ i2 → s.heap.get? c = some o → h'.get? c = some o) → Q none { s with heap := h', toks := tk }) : wpAny (model prog w) A (pyNext (.ref z)) Q E s := by
  have hT : s.TypeIs (.ref z) "zip" := ⟨_, hz, rfl⟩
  unfold pyNext
  refine wpAny_bind (wpAny_attempt (wpAny_callSpecial?_slot (name := Str.ofString "__next__") hT F.slot_zip_next (wpAny_call_entry F.slot_zip_next hT F.entry_zip_next (zn_end ok W1 W2 D hz hTI hTO m1 m2 c1 c2 hend fun h2 e tk k q => ?_) (F.args_zip_next_1 _))))
  obtain ⟨o, ho, hc⟩ := q
  exact wpAny_bind (wpAny_isInstance (T := "StopIteration") (b := true) ⟨o, ho, hc⟩ isSubtype_stop (wpAny_pure (hQ _ _ k)))
end
/-! ### the parts as values -/
inductive Cp where
  | t (a : Addr)
  | l (a : Addr)
  | s (x : Str)
def Cp.v : Cp → V
  | .t a => .ref a
  | .l a => .ref a
  | .s x => .str x
def CpIt (K : PySem.W.Frag) (H : Hp) : Cp → List V → Prop
  | .t a, xs => SqT K H a xs
  | .l a, xs => SqL K H a xs
  | .s x, xs => xs = strV x
def Itz2 (K : PySem.W.Frag) (c d : Cp) : It :=
  ⟨fun i H => ∃ (xs ys : List V) (x y : V), CpIt K H c xs ∧ CpIt K H d ys ∧ xs[i]? = some x ∧ ys[i]? = some y, fun i H v H' => ∃ T x y, v = .ref T ∧ H T = none ∧ H' = upd H T (.tup [x, y]) ∧ (∀ xs, CpIt K H c xs → xs[i]? = some x) ∧ ∀ ys, CpIt K H d ys → ys[i]? = some y,
    fun i H => ∃ xs ys : List V, CpIt K H c xs ∧ CpIt K H d ys ∧ (xs.length ≤ i ∨ ys.length ≤ i)⟩
/-- a part's walker in a state: what it is by the abstract heap -/
structure Prt (P : Program) (w : World) (K : PySem.W.Frag) (c : Cp) (it : Addr) (L : Addr) (St : Nat → Heap → Prop) : Prop where
  keep : ∀ {k : Nat} {h h' : Heap}, St k h → (∀ o, h.get? it = some o → h'.get? it = some o) → St k h'
  obj : ∀ {k : Nat} {h : Heap}, St k h → ∃ o fs, h.get? it = some o ∧ o.data = .fields fs
  wk : ∀ (X : Cx), X.prog = P → X.w = w → X.K = K → ∀ (pins : List (Addr × Obj)) (s : Shared) (σ : L2.St) (H : Hp) (xs : List V), Inv X pins σ H s → CpIt K H c xs →
    ∃ (ls : List Addr) (Y : Nat → Value → Prop) (Co : Heap → Prop), (∀ c ∈ ls, c < L) ∧ Wlk it ls xs.length Y Co St ∧ Co s.heap ∧ ∀ k v, Y k v → ∃ x, xs[k]? = some x ∧ RelV x v
  inj : ∀ (X : Cx), X.prog = P → X.w = w → X.K = K → ∀ (pins : List (Addr × Obj)) (s : Shared) (σ : L2.St) (H : Hp) (xs ys : List V), Inv X pins σ H s → CpIt K H c xs → CpIt K H c ys → xs = ys
theorem prt_t {P : Program} {w : World} {K : PySem.W.Frag} {a it L : Addr} (hL : a < L) : Prt P w K (.t a) it L (fun k h => h.IsTupleIter it a k) where
  keep := fun st e => st.at e
  obj := fun ⟨o, h1, _, h2⟩ => ⟨o, _, h1, h2⟩
  wk := fun X hP hw hK pins s σ H xs I hq => by
    subst hP hw hK
    obtain ⟨its, rv, t1, _⟩ := I.tuple hq
    have e : its.toArray.size = xs.length := by rw [List.size_toArray]; exact rv.length.symm
    refine ⟨[a], _, _, fun c hc => ?_, e ▸ wk_tup (its := its.toArray), t1, fun k v hv => ?_⟩
    · have : c = a := by simpa using hc
      rw [this]
      exact hL
    · have hv : its[k]? = some v := by simpa using hv
      have il : k < xs.length := by
        rw [rv.length]
        exact (List.getElem?_eq_some_iff.mp hv).1
      obtain ⟨u, hu, ru⟩ := rv.get (List.getElem?_eq_getElem il)
      rw [hv] at hu
      cases hu
      exact ⟨_, List.getElem?_eq_getElem il, ru⟩
  inj := fun X hP hw hK pins s σ H xs ys I h1 h2 => by
    subst hP hw hK
    exact I.tuple_inj h1 h2
end DL
namespace DL
open PySem PySem.Spec PyProof.Rows L2
theorem prt_l {P : Program} {w : World} {K : PySem.W.Frag} {a it L : Addr} (hL : a < L) : Prt P w K (.l a) it L (fun k h => h.IsListIter it a k) where
  keep := fun st e => st.at e
  obj := fun ⟨o, h1, _, h2⟩ => ⟨o, _, h1, h2⟩
  wk := fun X hP hw hK pins s σ H xs I hq => by
    subst hP hw hK
    obtain ⟨its, rv, t1, _⟩ := I.list hq
    have e : its.toArray.size = xs.length := by rw [List.size_toArray]; exact rv.length.symm
    refine ⟨[a], _, _, fun c hc => ?_, e ▸ wk_lst (its := its.toArray), t1.isList, fun k v hv => ?_⟩
    · have : c = a := by simpa using hc
      rw [this]
      exact hL
    · have hv : its[k]? = some v := by simpa using hv
      have il : k < xs.length := by
        rw [rv.length]
        exact (List.getElem?_eq_some_iff.mp hv).1
      obtain ⟨u, hu, ru⟩ := rv.get (List.getElem?_eq_getElem il)
      rw [hv] at hu
      cases hu
      exact ⟨_, List.getElem?_eq_getElem il, ru⟩
  inj := fun X hP hw hK pins s σ H xs ys I h1 h2 => by
    subst hP hw hK
    exact I.list_inj h1 h2
theorem strV_len (x : Str) : (strV x).length = x.cps.size := by rw [strV, List.length_map, Array.length_toList]
theorem prt_s {P : Program} {w : World} {K : PySem.W.Frag} {x : Str} {t : Tok} {it L : Addr} {ty : String} (hty : ty = "str_ascii_iterator" ∨ ty = "str_iterator") : Prt P w K (.s x) it L (fun k h => h.IsStrIter it ty x t k) where
  keep := fun ⟨o, h1, h2⟩ e => ⟨o, e o h1, h2⟩
  obj := fun ⟨o, h1, _, h2⟩ => ⟨o, _, h1, h2⟩
  wk := fun X hP hw hK pins s σ H xs I hq => by
    subst hP hw hK
    have hq : xs = strV x := hq
    subst hq
    have wk : Wlk it [] (strV x).length (fun k v => ∃ c u, x.cps[k]? = some c ∧ v = .str ⟨#[c]⟩ u) (fun _ => True) (fun k h => h.IsStrIter it ty x t k) := by
      rw [strV_len]
      rcases hty with rfl | rfl
      · exact wk_asc
      · exact wk_wid
    refine ⟨[], _, _, (fun c hc => absurd hc (by simp)), wk, trivial, fun k v hv => ?_⟩
    obtain ⟨c, u, hc, rfl⟩ := hv
    refine ⟨.str ⟨#[c]⟩, ?_, u, rfl⟩
    rw [strV, List.getElem?_map, Array.getElem?_toList, hc]
    rfl
  inj := fun X hP hw hK pins s σ H xs ys I h1 h2 => by
    have h1 : xs = strV x := h1
    have h2 : ys = strV x := h2
    rw [h1, h2]
theorem ap_lt (I c : Nat) (h : c < I) : c ≠ I + 4 ∧ c ≠ I + 3 ∧ c ≠ I ∧ c ≠ I + 1 := by omega
theorem ap_4 (I j : Nat) (h : j < 4) : I + j ≠ I + 4 := by omega
theorem ap_5 (I c n : Nat) (h : c = I + 4 ∨ c = I + 2 ∨ c = I + 3 ∨ c = I ∨ c = I + 1) (h2 : I + 4 < n) : c < n := by omega
theorem turn_zip2 {P : Program} {w : World} {K : PySem.W.Frag} {elts : List Expr} {kk : Nat} {tpos : Pos} {I0 : Addr} {c d : Cp} {S1 S2 : Nat → Heap → Prop} (p1 : Prt P w K c I0 I0 S1) (p2 : Prt P w K d (I0 + 1) I0 S2) :
    Turn P w K (.Tuple elts kk tpos) (Itz2 K c d) [I0 + 4, I0 + 2, I0 + 3, I0, I0 + 1] (I0 + 4) (fun i h => IsZip h (I0 + 4) (I0 + 2) (I0 + 3) .none ∧ IsPair h (I0 + 2) (.ref I0) (.ref (I0 + 1)) ∧ (∃ x y, IsPair h (I0 + 3) x y) ∧ S1 i h ∧ S2 i h) where
  mem := by simp
  obj := fun i h st b hb => by
    obtain ⟨hz, hTI, ⟨x, y, hTO⟩, m1, m2⟩ := st
    obtain ⟨o1, f1, e1, q1⟩ := p1.obj m1
    obtain ⟨o2, f2, e2, q2⟩ := p2.obj m2
    simp only [List.mem_cons, List.not_mem_nil, or_false] at hb
    rcases hb with rfl | rfl | rfl | rfl | rfl
    · exact ⟨_, hz, fun v q => nomatch q⟩
    · exact ⟨_, hTI, fun v q => nomatch q⟩
    · exact ⟨_, hTO, fun v q => nomatch q⟩
    · exact ⟨o1, e1, fun v q => by rw [q1] at q; cases q⟩
    · exact ⟨o2, e2, fun v q => by rw [q2] at q; cases q⟩
  keep := fun i h h' st k => by
    obtain ⟨hz, hTI, ⟨x, y, hTO⟩, m1, m2⟩ := st
    exact ⟨k (I0 + 4) (by simp) _ hz, k (I0 + 2) (by simp) _ hTI, ⟨x, y, k (I0 + 3) (by simp) _ hTO⟩, p1.keep m1 fun o q => k I0 (by simp) o q, p2.keep m2 fun o q => k (I0 + 1) (by simp) o q⟩
  item := by
    intro X hP hw hK hc i pins s σ H E I hf st hg
    obtain ⟨hz, hTI, ⟨x0, y0, hTO⟩, m1, m2⟩ := st
    obtain ⟨xs, ys, x, y, hqx, hqy, hx, hy⟩ := hg
    obtain ⟨ls1, Y1, C1, a1, W1, co1, y1⟩ := p1.wk X hP hw hK pins s σ H xs I hqx
    obtain ⟨ls2, Y2, C2, a2, W2, co2, y2⟩ := p2.wk X hP hw hK pins s σ H ys I hqy
    have inj1 := fun l (hl : CpIt K H c l) => p1.inj X hP hw hK pins s σ H l xs I hl hqx
    have inj2 := fun l (hl : CpIt K H d l) => p2.inj X hP hw hK pins s σ H l ys I hl hqy
    subst hP hw hK
    have zl : I0 + 4 < s.heap.objs.size := Heap.lt_size hz
    have D : Ap (I0 + 4) (I0 + 2) (I0 + 3) I0 (I0 + 1) (ls1 ++ ls2) := ⟨by simp, fun c hc => by
      have : c < I0 := by
        rcases List.mem_append.mp hc with h | h
        · exact a1 c h
        · exact a2 c h
      exact ap_lt I0 c this⟩
    refine zn_pyNext W1 W2 D hz hTI hTO m1 m2 co1 co2 (List.getElem?_eq_some_iff.mp hx).1 (List.getElem?_eq_some_iff.mp hy).1 fun u u2 h2 tk yu yu2 z2 o2 n1 n2 hT hk => ?_
    obtain ⟨x', ex, ru⟩ := y1 i u yu
    obtain ⟨y', ey, ru2⟩ := y2 i u2 yu2
    rw [hx] at ex
    cases ex
    rw [hy] at ey
    cases ey
    refine ⟨_, rfl, wpAny_letOwnedTupleGo_zip (s := { s with heap := h2, toks := tk }) z2 fun h3 z3 sb => ?_⟩
    have hT3 : h3.get? s.heap.objs.size = some { cls := .type "tuple", data := .seq #[u, u2] } := (sb.2 _ (Nat.ne_of_gt zl)).trans hT
    have nw : ObjOk X.prog X.w (upd H s.heap.objs.size (.tup [x, y])) h3 s.heap.objs.size (.tup [x, y]) := ⟨by show 2 ≤ sizeLine; decide, [u, u2], .cons ru (.cons ru2 .nil), ⟨_, hT3, rfl, _, rfl⟩⟩
    have I1 : Inv X pins σ (upd H s.heap.objs.size (.tup [x, y])) { s with heap := h3, toks := tk } := by
      refine I.turnedNew (t' := tk) (ch := [I0 + 4, I0 + 2, I0 + 3, I0, I0 + 1]) (fun c o hb q => ?_) hf (Nat.le_refl _) nw
      simp only [List.mem_cons, List.not_mem_nil, or_false, not_or] at hb
      exact (sb.2 c hb.1).trans (hk c o hb.1 hb.2.2.1 hb.2.2.2.1 hb.2.2.2.2 q)
    have e4 : ∀ j : Nat, j < 4 → I0 + j ≠ I0 + 4 := ap_4 I0
    refine ⟨.ref s.heap.objs.size, _, I1, rfl, ⟨_, x, y, rfl, I.hok.fresh (Nat.le_refl _), rfl, fun l hl => by rw [inj1 l hl]; exact hx, fun l hl => by rw [inj2 l hl]; exact hy⟩, ⟨z3, ?_, ⟨u, u2, ?_⟩, ?_, ?_⟩, fun c hcm => ?_⟩
    · exact (sb.2 _ (e4 2 (by omega))).trans (hk _ _ (e4 2 (by omega)) (by simp) (by simp) (by simp) hTI)
    · exact (sb.2 _ (e4 3 (by omega))).trans o2
    · exact p1.keep n1 fun o q => (sb.2 _ (by simp)).trans q
    · exact p2.keep n2 fun o q => (sb.2 _ (by simp)).trans q
    · have : c < s.heap.objs.size := by
        simp only [List.mem_cons, List.not_mem_nil, or_false] at hcm
        exact ap_5 I0 c _ hcm zl
      rw [upd_ne (Nat.ne_of_lt this)]
      exact (hf c hcm).1
  done := by
    intro X hP hw hK hc i pins s σ H E I hf st hg
    obtain ⟨hz, hTI, ⟨x0, y0, hTO⟩, m1, m2⟩ := st
    obtain ⟨xs, ys, hqx, hqy, e12⟩ := hg
    obtain ⟨ls1, Y1, C1, a1, W1, co1, y1⟩ := p1.wk X hP hw hK pins s σ H xs I hqx
    obtain ⟨ls2, Y2, C2, a2, W2, co2, y2⟩ := p2.wk X hP hw hK pins s σ H ys I hqy
    subst hP hw hK
    have D : Ap (I0 + 4) (I0 + 2) (I0 + 3) I0 (I0 + 1) (ls1 ++ ls2) := ⟨by simp, fun c hc => by
      have : c < I0 := by
        rcases List.mem_append.mp hc with h | h
        · exact a1 c h
        · exact a2 c h
      exact ap_lt I0 c this⟩
    refine zn_pyEnd (I.ok.hd hc) W1 W2 D hz hTI hTO m1 m2 co1 co2 e12 fun h2 tk hk => ⟨rfl, ?_⟩
    refine I.turnedL (t' := tk) (ch := [I0 + 4, I0 + 2, I0 + 3, I0, I0 + 1]) (fun c o hb q => ?_) hf
    simp only [List.mem_cons, List.not_mem_nil, or_false, not_or] at hb
    exact hk c o hb.1 hb.2.2.1 hb.2.2.2.1 hb.2.2.2.2 q
  self := fun A i s Q E st h => wpAny_pyIter_zip st.1 h
end DL
namespace DL
open PySem PySem.Spec PyProof.Rows L2
theorem cp_start {X : Cx} {pins : List (Addr × Obj)} {σ : L2.St} {H : Hp} {s : Shared} (I : Inv X pins σ H s) {c : Cp} {xs : List V} (hq : CpIt X.K H c xs) {u : Value} (r : RelV c.v u) :
    ∃ ob Cn, ItOf u ob Cn ∧ Cn s.heap ∧ ob.isFreed = false ∧ ∀ it, ∃ St, Prt X.prog X.w X.K c it s.heap.objs.size St ∧ ∀ h' : Heap, h'.get? it = some ob → St 0 h' := by
  cases c with
  | t a =>
    cases r
    obtain ⟨its, rv, t1, _⟩ := I.tuple hq
    have la : a < s.heap.objs.size := by
      obtain ⟨o, ho, _⟩ := t1
      exact Heap.lt_size ho
    exact ⟨_, _, io_tup (its := its.toArray), t1, rfl, fun it => ⟨_, prt_t la, fun h' e => ⟨_, e, rfl, rfl⟩⟩⟩
  | l a =>
    cases r
    obtain ⟨its, rv, t1, _⟩ := I.list hq
    exact ⟨_, _, io_lst (its := its.toArray), t1.isList, rfl, fun it => ⟨_, prt_l t1.lt, fun h' e => ⟨_, e, rfl, rfl⟩⟩⟩
  | s x =>
    obtain ⟨t, rfl⟩ := r
    cases ha : x.cps.all (· < 128) with
    | true => exact ⟨_, _, io_asc ha, trivial, rfl, fun it => ⟨_, prt_s (t := t) (.inl rfl), fun h' e => ⟨_, e, rfl, rfl⟩⟩⟩
    | false => exact ⟨_, _, io_wid ha, trivial, rfl, fun it => ⟨_, prt_s (t := t) (.inr rfl), fun h' e => ⟨_, e, rfl, rfl⟩⟩⟩
def iZip2 (K : PySem.W.Frag) (ta : TA) : TI := fun σ H R => ta σ H fun vs H1 => ∃ c d xs ys, vs = [c.v, d.v] ∧ CpIt K H1 c xs ∧ CpIt K H1 d ys ∧ R (Itz2 K c d) H1
theorem pi_zip2 {X : Cx} {e e2 : Expr} {ta : TA} {p pos tpos : Pos} {elts : List Expr} {kk : Nat} (hg : Gl X "zip") (hm : X.mg "zip" = none) (ha : PA X [e, e2] ta)
    (hs : starEach [e, e2] X.env = (false, eval e X.env) :: starEach [e2] X.env := by rfl) (hpl : (backTo pos (starEach [e2] X.env)).any (·.1) = false := by rfl) :
    PI X (.Tuple elts kk tpos) (.Call (.Name "zip" p) [e, e2] [] pos) (iZip2 X.K ta) := by
  refine ⟨fun pins s σ H R I h => ?_⟩
  refine Call_ (ld_blt I hg hm boot_zip (callWith_type1 (thn (ha.run pos pins s σ H _ I h) fun us s1 ⟨vs, H1, I1, r1, q1⟩ => ?_) hs hpl))
  obtain ⟨c, d, xs, ys, rfl, hc, hd, q⟩ := q1
  cases r1 with
  | cons ra rr =>
    cases rr with
    | cons rb rr =>
      cases rr
      obtain ⟨o1, C1, i1, c1, f1, k1⟩ := cp_start I1 hc ra
      obtain ⟨o2, C2, i2, c2, f2, k2⟩ := cp_start I1 hd rb
      obtain ⟨S1, p1, z1⟩ := k1 s1.heap.objs.size
      obtain ⟨S2, p2, z2⟩ := k2 (s1.heap.objs.size + 1)
      refine zn_call i1 i2 c1 c2 (fun h' hz hTI hTO g1 g2 hk => wpAny_pyIter_zip hz ?_) f1 f2
      have I2 : Inv X pins σ H1 { s1 with heap := h' } := I1.kept (t' := s1.toks) hk
      refine ⟨s1.heap.objs.size + 4, [s1.heap.objs.size + 4, s1.heap.objs.size + 2, s1.heap.objs.size + 3, s1.heap.objs.size, s1.heap.objs.size + 1], _, _, H1, rfl, I2, turn_zip2 p1 p2, ⟨hz, hTI, ⟨_, _, hTO⟩, z1 _ g1, z2 _ g2⟩, fun c hcm => ?_, q⟩
      have le : s1.heap.objs.size ≤ c := by
        simp only [List.mem_cons, List.not_mem_nil, or_false] at hcm
        rcases hcm with rfl | rfl | rfl | rfl | rfl
        · exact Nat.le_add_right _ _
        · exact Nat.le_add_right _ _
        · exact Nat.le_add_right _ _
        · exact Nat.le_refl _
        · exact Nat.le_add_right _ _
      exact I1.fpOk le (I1.hok.fresh le)
/-! ### at the level of data -/
def itD : D → Option (List D)
  | .list xs => some xs
  | .tuple xs => some xs
  | .str z => some (strD z)
  | _ => none
theorem cp_of {K : PySem.W.Frag} {G : Hp} {v : V} {x : D} {xs : List D} (d : Dr K G v x) (h : itD x = some xs) : ∃ c us, v = Cp.v c ∧ (∀ G1, Pub G G1 → CpIt K G1 c us) ∧ DrAll K G us xs := by
  cases x with
  | list ys =>
    cases h
    obtain ⟨a, vs, rfl, h1, h2⟩ := dp_lst d
    exact ⟨.l a, vs, rfl, fun G1 s => SqL.of (s.lst h1), h2⟩
  | tuple ys =>
    cases h
    obtain ⟨a, vs, rfl, h1, h2⟩ := dp_tup d
    exact ⟨.t a, vs, rfl, fun G1 s => pub_sqT s h1, h2⟩
  | str z =>
    cases h
    cases dp_str d
    exact ⟨.s z, strV z, rfl, fun _ _ => rfl, dr_signs z⟩
  | _ => cases h
theorem itd_zip2 {K : PySem.W.Frag} {G : Hp} {c d : Cp} {us ws : List V} {xs ys : List D} (h1 : ∀ G1, Pub G G1 → CpIt K G1 c us) (h2 : DrAll K G us xs) (k1 : ∀ G1, Pub G G1 → CpIt K G1 d ws) (k2 : DrAll K G ws ys) : ItD K G (Itz2 K c d) (zipD xs ys) := fun G1 H1 s1 s2 i => by
  have q := h1 H1 (s2.before s1)
  have r := k1 H1 (s2.before s1)
  refine ⟨fun v hv => ?_, fun hle => ?_⟩
  · obtain ⟨x, y, hx, hy, rfl⟩ := zipD_get hv
    obtain ⟨u, eu, du⟩ := dpAll_get h2 hx
    obtain ⟨t, et, dt⟩ := dpAll_get k2 hy
    refine ⟨⟨us, ws, u, t, q, r, eu, et⟩, fun v2 H2 z => ?_⟩
    obtain ⟨T, x2, y2, rfl, hT, rfl, z1, z2⟩ := z
    have e1 := z1 us q
    have e2 := z2 ws r
    rw [eu] at e1
    rw [et] at e2
    cases e1
    cases e2
    have sg := s1.trans (same_upd (o := .tup [u, t]) (s2.free hT))
    exact ⟨_, Grow.new1 s2 hT, .tup (SqT.of upd_same) (.cons (dp_same sg du) (.cons (dp_same sg dt) .nil))⟩
  · unfold zipD at hle
    rw [List.length_zipWith] at hle
    refine ⟨us, ws, q, r, ?_⟩
    rw [dpAll_len h2, dpAll_len k2]
    omega
def miZip2 (a : MA) : MI := fun env P => a env fun as e1 => match as with
  | [.d x, .d y] => ∃ xs ys, itD x = some xs ∧ itD y = some ys ∧ P (zipD xs ys) e1
  | _ => False
theorem gi_zip2 {X : Cx} {e e2 : Expr} {m1 : MA} {n1 : Nat} {p pos tpos : Pos} {elts : List Expr} {kk : Nat} (hg : Gl X "zip") (hm : X.mg "zip" = none) (ha : GA X [e, e2] n1 m1) (hs : starEach [e, e2] X.env = (false, eval e X.env) :: starEach [e2] X.env := by rfl) (hpl : (backTo pos (starEach [e2] X.env)).any (·.1) = false := by rfl) :
    GI X (.Tuple elts kk tpos) (.Call (.Name "zip" p) [e, e2] [] pos) n1 (miZip2 m1) := pi_imp (pi_zip2 hg hm ha hs hpl) fun σ H R h => by
  obtain ⟨W, B, G0, H0, G, env, P, Rl, hm1, q⟩ := h
  refine ⟨W, B, G0, H0, G, env, _, Rl, hm1, fun as e1 us G1 H1 p1 s1 R1 a1 => ?_⟩
  split at p1
  · obtain ⟨xs, ys, hx, hy, hP⟩ := p1
    cases a1 with
    | cons x1 y1 =>
      cases y1 with
      | cons y1 z1 =>
        cases z1
        obtain ⟨c, vs, rfl, h1, h2⟩ := cp_of x1 hx
        obtain ⟨d, ws, rfl, k1, k2⟩ := cp_of y1 hy
        exact ⟨c, d, vs, ws, rfl, h1 _ R1.pub, k1 _ R1.pub, q _ _ _ _ _ hP s1 R1 (itd_zip2 h1 h2 k1 k2)⟩
  · exact p1.elim
/-! ### x is True, x is not True -/
end DL
namespace DL
open PySem PySem.Spec PyProof.Rows L2
/-! ### an own list + a list: the own one stays -/
def mAddO (i : Nat) (mb : ME) : MF := fun env P => (∃ xs, env[i]? = some (.own xs)) ∧ mb env fun y e1 => match e1[i]?, y with
  | some (.mo none (.lst xs)), .list ys => xs.length + ys.length ≤ sizeLine ∧ P (xs ++ ys) e1
  | _, _ => False
section
variable {X : Cx} {b : Expr} {nb : Nat} {mb : ME} {pos pos' : Pos}
theorem gf_addO (i : Nat) {x : Str} (hb : GE X b nb mb) (hN : X.N[i]? = some x := by rfl) (hv : Vis X.env.scope x := by first | exact Or.inl rfl | exact Or.inr (Or.inl rfl) | exact Or.inr (Or.inr rfl)) (hd : (x == ("__debug__" : Str)) = false := by decide)
    (hcd : (x == ("__classdict__" : Str)) = false := by decide) : GF X (.BinOp (.Name x pos') .Add b pos) nb (mAddO i mb) := pe_imp (pe_op op_cat (pe_var hN hv hd hcd) hb) fun σ H Q h => by
  obtain ⟨W, B, G0, H0, G, env, P, R, ⟨⟨xs, hx⟩, hm⟩, q⟩ := h
  obtain ⟨l, vs, e1, hl, hg, h0, hmu, hq⟩ := R.get_own hx
  refine ⟨_, e1, W, B, G0, H0, G, env, _, R, hm, fun y e2 u G2 H2 p2 s2 R2 d2 => ?_⟩
  split at p2
  · rename_i ys zs hy
    obtain ⟨l2, us, f1, hl2, hg2, h02, hmu2, hq2⟩ := R2.get_own hy
    rw [e1] at f1
    cases f1
    obtain ⟨b1, ws, rfl, h3, h4⟩ := dp_lst d2
    refine ⟨l, b1, us, ws, rfl, rfl, hl2, R2.pub.lst h3, by rw [dpAll_len hq2, dpAll_len h4]; exact p2.1, fun p hp => ?_⟩
    obtain ⟨R3, f1, f2, f3, f4⟩ := R2.fresh (o := .lst (us ++ ws)) hp
    exact q _ e2 _ _ _ p2.2 s2 R3 ⟨_, upd_same, f1, f2, f3, f4, dpAll_app hq2 h4⟩
  · exact p2.elim
end
/-! ### x is True, x is not True: truths alone -/
def cIsB : D → D → (Bool → Prop) → Prop
  | .bool a, .bool b, P => P (a == b)
  | _, _, _ => False
def cNotB : D → D → (Bool → Prop) → Prop
  | .bool a, .bool b, P => P (!(a == b))
  | _, _, _ => False
section
variable {X : Cx}
theorem od_isB : OpR X (compareOp .Is) (rDC2 X.K cIsB) := by
  intro pins s σ H x y v u Q I rx ry h
  obtain ⟨G, dx, dy, P, sG, d1, d2, hf, q⟩ := h
  unfold cIsB at hf
  split at hf
  · cases dp_bl d1
    cases dp_bl d2
    cases rx
    cases ry
    have q2 := q _ hf
    rename_i a b
    refine wpAny_bind (wpAny_of_eq (a := (a == b)) (by cases a <;> cases b <;> rfl) (wpAny_pure ⟨.bl (a == b), H, I, rfl, q2⟩))
  · exact hf.elim
theorem od_notB : OpR X (compareOp .IsNot) (rDC2 X.K cNotB) := by
  intro pins s σ H x y v u Q I rx ry h
  obtain ⟨G, dx, dy, P, sG, d1, d2, hf, q⟩ := h
  unfold cNotB at hf
  split at hf
  · cases dp_bl d1
    cases dp_bl d2
    cases rx
    cases ry
    have q2 := q _ hf
    rename_i a b
    refine wpAny_bind (wpAny_of_eq (a := (a == b)) (by cases a <;> cases b <;> rfl) (wpAny_pure ⟨.bl (!(a == b)), H, I, rfl, q2⟩))
  · exact hf.elim
end
end DL
namespace DL
open PySem PySem.Spec PyProof.Rows L2
/-! ### data with greater numbers, empty dicts -/
mutual
def mids : D → Bool
  | .none => true
  | .bool _ => true
  | .int i => decide (i.natAbs < 2 ^ 136)
  | .str z => decide (z.cps.size ≤ 100) && z.cps.toList.all fun c => decide (c < 16 ^ 8)
  | .list xs => midsA xs
  | .tuple xs => midsA xs
  | .dict [] => true
  | .dict (_ :: _) => false
def midsA : List D → Bool
  | [] => true
  | x :: r => mids x && midsA r
end
theorem shown_mid {i : Int} (h : i.natAbs < 2 ^ 136) : (PyData.shown (.int i)).length ≤ 44 := by
  have e := int_text_length_le10 (k := 43) (by decide) (Nat.lt_trans h (by decide))
  show (Str.ofString (toString i)).length ≤ 44
  rw [PySem.ofString_length]
  exact e
mutual
theorem mids_show : ∀ x : D, mids x = true → x.showable = true ∧ x.leavesShort 50 = true ∧ x.weight + 1 ≤ 142 * nods x
  | .none, _ => ⟨rfl, rfl, by simp [PyData.weight, nods]⟩
  | .bool _, _ => ⟨rfl, rfl, by simp [PyData.weight, nods]⟩
  | .int i, h => by
    have h : i.natAbs < 2 ^ 136 := by simpa [mids] using h
    have l : i.natAbs.log2 ≤ 135 := by
      by_cases z : i.natAbs = 0
      · rw [z]
        decide
      · have := (Nat.log2_lt z (k := 136)).mpr h
        omega
    refine ⟨?_, ?_, ?_⟩
    · simp only [PyData.showable, decide_eq_true_eq]
      omega
    · simp only [PyData.leavesShort]
      exact decide_eq_true (Nat.le_trans (shown_mid h) (by decide))
    · simp only [PyData.weight, nods]
      split <;> omega
  | .str z, h => by
    simp only [mids, Bool.and_eq_true, decide_eq_true_eq] at h
    refine ⟨rfl, h.2, ?_⟩
    simp only [PyData.weight, nods]
    omega
  | .tuple xs, h => by
    obtain ⟨h1, h3, h4⟩ := midsA_show xs (by simpa [mids] using h)
    refine ⟨by simpa [PyData.showable] using h1, by simpa [PyData.leavesShort] using h3, ?_⟩
    simp only [PyData.weight, nods]
    omega
  | .list xs, h => by
    obtain ⟨h1, h3, h4⟩ := midsA_show xs (by simpa [mids] using h)
    refine ⟨by simpa [PyData.showable] using h1, by simpa [PyData.leavesShort] using h3, ?_⟩
    simp only [PyData.weight, nods]
    omega
  | .dict [], _ => ⟨rfl, rfl, by simp [PyData.weight, PyData.weightKv, nods]⟩
  | .dict (_ :: _), h => by simp [mids] at h
theorem midsA_show : ∀ xs : List D, midsA xs = true → PyData.showableAll xs = true ∧ PyData.leavesShortAll 50 xs = true ∧ PyData.weightAll xs ≤ 142 * nodsA xs
  | [], _ => ⟨rfl, rfl, by simp [PyData.weightAll]⟩
  | x :: r, h => by
    simp only [midsA, Bool.and_eq_true] at h
    obtain ⟨a1, a3, a4⟩ := mids_show x h.1
    obtain ⟨b1, b3, b4⟩ := midsA_show r h.2
    refine ⟨by simp [PyData.showableAll, a1, b1], by simp [PyData.leavesShortAll, a3, b3], ?_⟩
    simp only [PyData.weightAll, nodsA]
    omega
end
/-- of middle size: d deep, n parts -/
def Md (d n : Nat) (x : D) : Prop := mids x = true ∧ x.depth ≤ d ∧ nods x ≤ n
def MdA (d n : Nat) (xs : List D) : Prop := midsA xs = true ∧ PyData.depthAll xs ≤ d ∧ nodsA xs ≤ n
theorem Md.repr {d n : Nat} {x : D} (h : Md d n x) (hd : d ≤ 60) (hn : n ≤ 2200) : x.showable = true ∧ x.depth ≤ 60 ∧ x.shown.length ≤ sizeLine := by
  obtain ⟨h1, h3, h4⟩ := mids_show x h.1
  have hs := PyData.shown_le 50 (by decide) x h3
  have n2 := h.2.2
  refine ⟨h1, Nat.le_trans h.2.1 hd, ?_⟩
  rw [sizeLine_eq]
  omega
theorem Md.le {d n d' n' : Nat} {x : D} (h : Md d n x) (hd : d ≤ d') (hn : n ≤ n') : Md d' n' x := ⟨h.1, Nat.le_trans h.2.1 hd, Nat.le_trans h.2.2 hn⟩
theorem MdA.le {d n d' n' : Nat} {x : List D} (h : MdA d n x) (hd : d ≤ d') (hn : n ≤ n') : MdA d' n' x := ⟨h.1, Nat.le_trans h.2.1 hd, Nat.le_trans h.2.2 hn⟩
theorem md_int {i : Int} (h : i.natAbs < 2 ^ 136) : Md 0 1 (.int i) := ⟨by simpa [mids] using h, by simp [PyData.depth], by simp [nods]⟩
theorem md_nil {d n : Nat} : MdA d n [] := ⟨rfl, by simp [PyData.depthAll], by simp [nodsA]⟩
theorem md_cons {d n m : Nat} {x : D} {xs : List D} (h : Md d n x) (t : MdA d m xs) : MdA d (n + m) (x :: xs) :=
  ⟨by rw [midsA, h.1, t.1]; rfl, by rw [PyData.depthAll]; exact Nat.max_le.mpr ⟨h.2.1, t.2.1⟩, by rw [nodsA]; exact Nat.add_le_add h.2.2 t.2.2⟩
theorem md_tup {d n : Nat} {xs : List D} (h : MdA d n xs) : Md (d + 1) (n + 1) (.tuple xs) :=
  ⟨by rw [mids]; exact h.1, by rw [PyData.depth]; exact Nat.add_le_add_right h.2.1 1, by rw [nods]; exact Nat.add_le_add_right h.2.2 1⟩
theorem md_lst {d n : Nat} {xs : List D} (h : MdA d n xs) : Md (d + 1) (n + 1) (.list xs) :=
  ⟨by rw [mids]; exact h.1, by rw [PyData.depth]; exact Nat.add_le_add_right h.2.1 1, by rw [nods]; exact Nat.add_le_add_right h.2.2 1⟩
theorem md_all {d n : Nat} : ∀ {xs : List D}, (∀ x ∈ xs, Md d n x) → MdA d (n * xs.length) xs
  | [], _ => md_nil
  | x :: xs, h => by
    have := md_cons (h x List.mem_cons_self) (md_all (xs := xs) fun y hy => h y (List.mem_cons_of_mem _ hy))
    refine this.le (Nat.le_refl _) ?_
    rw [List.length_cons, Nat.mul_add]
    omega
theorem mdA_app {d n m : Nat} : ∀ {xs ys : List D}, MdA d n xs → MdA d m ys → MdA d (n + m) (xs ++ ys)
  | [], ys, _, h => h.le (Nat.le_refl _) (by omega)
  | x :: xs, ys, h, h2 => by
    obtain ⟨h1, hd, hn⟩ := h
    simp only [midsA, Bool.and_eq_true] at h1
    rw [PyData.depthAll] at hd
    rw [nodsA] at hn
    have t := mdA_app (n := nodsA xs) (xs := xs) ⟨h1.2, Nat.le_trans (Nat.le_max_right _ _) hd, Nat.le_refl _⟩ h2
    have := md_cons (n := nods x) ⟨h1.1, Nat.le_trans (Nat.le_max_left _ _) hd, Nat.le_refl _⟩ t
    exact this.le (Nat.le_refl _) (by omega)
end DL
namespace DL
open PySem PySem.Spec PyProof.Rows L2
/-! ### repr of any data: lists and dicts within one another -/
structure Rp (P : Program) (w : World) (h : Heap) (u : Value) (d : D) : Prop where
  ex : ∃ as bs, Reads h u d as ∧ ReadAtMost h d.depth bs ∧ ReprK P w bs h d.depth u d.shown
  top : ∀ a, u = .ref a → ∃ T i, ShowsBy P w h a d T i
structure RpA (P : Program) (w : World) (h : Heap) (us : List Value) (ds : List D) : Prop where
  ex : ∃ as bs, ReadsAll h us ds as ∧ ReadAtMost h (PyData.depthAll ds) bs ∧ ReprAllK P w bs h (PyData.depthAll ds) us (PyData.shownAll ds)
section
variable {P : Program} {w : World} {h : Heap}
theorem Rp.flat {u : Value} {d : D} (r : Reads h u d []) (n : d.depth = 0) (i : ReprIs P w u d.shown) (hu : ∀ a, u ≠ .ref a) : Rp P w h u d :=
  ⟨⟨[], [], r, fun _ z => (nomatch z), ReprK.of_is i _ _ _⟩, fun a e => absurd e (hu a)⟩
theorem RpA.nil : RpA P w h [] [] := ⟨⟨_, [], .nil, fun _ z => (nomatch z), by rw [PyData.shownAll]; exact .nil⟩⟩
theorem RpA.cons {u : Value} {us : List Value} {d : D} {ds : List D} (x : Rp P w h u d) (t : RpA P w h us ds) : RpA P w h (u :: us) (d :: ds) := by
  obtain ⟨a1, b1, r1, m1, k1⟩ := x.ex
  obtain ⟨a2, b2, r2, m2, k2⟩ := t.ex
  have l1 : d.depth ≤ PyData.depthAll (d :: ds) := by
    rw [PyData.depthAll]
    exact Nat.le_max_left _ _
  have l2 : PyData.depthAll ds ≤ PyData.depthAll (d :: ds) := by
    rw [PyData.depthAll]
    exact Nat.le_max_right _ _
  refine ⟨⟨_, b1 ++ b2, .cons r1 r2, (m1.mono l1).append (m2.mono l2), ?_⟩⟩
  rw [PyData.shownAll]
  exact .cons ((k1.more fun b hb => List.mem_append_left _ hb).level_le l1) (k2.more_le (fun b hb => List.mem_append_right _ hb) l2)
theorem Rp.lst {a : Addr} {o : Obj} {us : List Value} {n : Nat} {ds : List D} (ho : h.get? a = some o) (hc : o.cls = .type "list") (hd : o.data = .seq us.toArray n) (t : RpA P w h us ds) (hz : (PyData.list ds).shown.length ≤ sizeLine) : Rp P w h (.ref a) (.list ds) := by
  obtain ⟨as, bs, r, m, k⟩ := t.ex
  have hz2 : (listText (PyData.shownAll ds)).length ≤ sizeLine := by rw [PyData.shown] at hz; exact hz
  have rd : Reads h (.ref a) (.list ds) _ := .list ho hc hd r
  have dp : (PyData.list ds).depth = PyData.depthAll ds + 1 := by rw [PyData.depth]
  have sh : (PyData.list ds).shown = listText (PyData.shownAll ds) := by rw [PyData.shown]
  have hna : a ∉ bs := not_mem_of_deeper rd (by omega) m
  cases us with
  | nil =>
    cases r
    have e : (PyData.list []).shown = "[]" := by rw [PyData.shown, PyData.shownAll, listText_nil]
    refine ⟨⟨_, [a], rd, ReadAtMost.cons rd (n := 0) (by omega) (fun _ z => (nomatch z)), ?_⟩, fun a' ea => ⟨"list", "list.__repr__", F.slot_list_repr.toG, F.slot_list_str, F.slot_list_format, fun s hk => ?_, fun A E s Q hg hu hk hQ => ?_⟩⟩
    · rw [e]
      exact ReprK.listEmpty ho hc hd
    · cases ea
      exact ⟨o, hk _ _ ho, hc⟩
    · cases ea
      rw [e] at hQ
      exact call_list_repr_empty ⟨o, hk _ _ ho, hc⟩ (hk _ _ ho) hd (hQ s.heap _ _ fun _ _ z => z)
  | cons x l =>
    refine ⟨⟨_, a :: bs, rd, ReadAtMost.cons rd (n := PyData.depthAll ds) (by omega) m, ?_⟩, fun a' ea => ⟨"list", "list.__repr__", F.slot_list_repr.toG, F.slot_list_str, F.slot_list_format, fun s hk => ?_, fun A E s Q hg hu hk hQ => ?_⟩⟩
    · rw [dp, sh]
      exact ReprK.list ho hc hd hna (by simpa using k.length_eq) fun i y e => k.item i y (by simpa using e)
    · cases ea
      exact ⟨o, hk _ _ ho, hc⟩
    · cases ea
      rw [sh] at hQ
      rw [dp] at hu
      exact call_list_reprK ho hc hd hna (by simpa using k.length_eq) (fun i y e => k.item i y (by simpa using e)) hg (fun b _ => Clear.nil b) hu hk hQ hz2
theorem Rp.tup {a : Addr} {o : Obj} {us : Array Value} {n : Nat} {ds : List D} (ho : h.get? a = some o) (hc : o.cls = .type "tuple") (hd : o.data = .seq us n) (t : RpA P w h us.toList ds) (hz : (PyData.tuple ds).shown.length ≤ sizeLine) : Rp P w h (.ref a) (.tuple ds) := by
  obtain ⟨as, bs, r, m, k⟩ := t.ex
  have sh : (PyData.tuple ds).shown = tupleText (PyData.shownAll ds) := by rw [PyData.shown]
  have hz2 : (tupleText (PyData.shownAll ds)).length ≤ sizeLine := by rw [sh] at hz; exact hz
  have rd : Reads h (.ref a) (.tuple ds) _ := .tuple ho hc hd r
  have dp : (PyData.tuple ds).depth = PyData.depthAll ds + 1 := by rw [PyData.depth]
  have hna : a ∉ bs := not_mem_of_deeper rd (by omega) m
  refine ⟨⟨_, a :: bs, rd, ReadAtMost.cons rd (n := PyData.depthAll ds) (by omega) m, ?_⟩, fun a' ea => ⟨"tuple", "tuple.__repr__", F.slot_tuple_repr, F.slot_tuple_str, F.slot_tuple_format, fun s hk => ?_, fun A E s Q hg hu hk hQ => ?_⟩⟩
  · rw [dp, sh]
    exact ReprK.tuple ho hc hd hna k
  · cases ea
    exact ⟨o, hk _ _ ho, hc⟩
  · cases ea
    rw [sh] at hQ
    rw [dp] at hu
    exact call_tuple_reprK ho hc hd hna k hg (fun b _ => Clear.nil b) hu hk hQ hz2
theorem Rp.dic {a : Addr} {o : Obj} {es : Array DictEntry} {n : Nat} {ks : List (D × D)} (ho : h.get? a = some o) (hc : o.cls = .type "dict") (hd : o.data = .dict es n) (hS : (a == sysModules) = false) (t1 : RpA P w h (es.toList.map (·.key)) (ks.map (·.1))) (t2 : RpA P w h (es.toList.map (·.val)) (ks.map (·.2)))
    (hz : (PyData.dict ks).shown.length ≤ sizeLine) : Rp P w h (.ref a) (.dict ks) := by
  obtain ⟨a1, b1, r1, m1, k1⟩ := t1.ex
  obtain ⟨a2, b2, r2, m2, k2⟩ := t2.ex
  have sh : (PyData.dict ks).shown = dictText (List.zipWith (fun k v : Str => k ++ ": " ++ v) (PyData.shownAll (ks.map (·.1))) (PyData.shownAll (ks.map (·.2)))) := by rw [PyData.shown, PyData.shownKv_eq]
  rw [sh] at hz
  have rd : Reads h (.ref a) (.dict ks) _ := .dict ho hc hd r1 r2
  have dp : (PyData.dict ks).depth = PyData.depthKv ks + 1 := by rw [PyData.depth]
  have l1 := PyData.depthAll_keys_le ks
  have l2 := PyData.depthAll_vals_le ks
  have m : ReadAtMost h (PyData.depthKv ks) (b1 ++ b2) := (m1.mono l1).append (m2.mono l2)
  have hna : a ∉ b1 ++ b2 := not_mem_of_deeper rd (by omega) m
  have k := ReprEntriesK.of_two es.toList _ _ (k1.more_le (fun b hb => List.mem_append_left b2 hb) l1) (k2.more_le (fun b hb => List.mem_append_right b1 hb) l2)
  refine ⟨⟨_, a :: (b1 ++ b2), rd, ReadAtMost.cons rd (n := PyData.depthKv ks) (by omega) m, ?_⟩, fun a' ea => ⟨"dict", "dict.__repr__", F.slot_dict_repr, F.slot_dict_str, F.slot_dict_format, fun s hk => ?_, fun A E s Q hg hu hk hQ => ?_⟩⟩
  · rw [dp, sh]
    exact ReprK.dict ho hc hd hS hna k
  · cases ea
    exact ⟨o, hk _ _ ho, hc⟩
  · cases ea
    rw [sh] at hQ
    rw [dp] at hu
    exact call_dict_reprK ho hc hd hS hna k hg (fun b _ => Clear.nil b) hu hk hQ hz
theorem key_rp {k : Key} {u : Value} (r : (mixKind P w).is k u = true) (hs : (keyD k).showable = true) (hz : (keyD k).shown.length ≤ sizeLine) : Rp P w h u (keyD k) := by
  rcases keyIs_shape r with ⟨i, t, rfl, rfl⟩ | ⟨x, t, rfl, rfl⟩
  · refine Rp.flat (Reads.int i t) (by rw [keyD, PyData.depth]) ?_ (fun _ => nofun)
    rw [keyD, PyData.shown]
    exact ReprIs.int t (by simpa [keyD, PyData.showable] using hs)
  · refine Rp.flat (Reads.str x t) (by rw [keyD, PyData.depth]) ?_ (fun _ => nofun)
    rw [keyD, PyData.shown]
    exact ReprIs.str x t (by rw [keyD, PyData.shown] at hz; exact hz)
end
section
variable {X : Cx} {pins : List (Addr × Obj)} {σ : L2.St} {H : Hp} {s : Shared}
mutual
theorem dr_rp {G : Hp} (I : Inv X pins σ H s) (sP : Pub G H) : ∀ (d : D) (v : V) (u : Value), d.showable = true → d.shown.length ≤ sizeLine → Dr X.K G v d → RelV v u → Rp X.prog X.w s.heap u d
  | .none, _, _, _, _, h, r => by
    cases h
    cases r
    exact Rp.flat Reads.none (by rw [PyData.depth]) (by rw [PyData.shown]; exact ReprIs.none) (fun _ => nofun)
  | .bool b, _, _, _, _, h, r => by
    cases h
    cases r
    exact Rp.flat (Reads.bool b) (by rw [PyData.depth]) (by rw [PyData.shown]; exact ReprIs.bool b) (fun _ => nofun)
  | .int i, _, _, hs, _, h, r => by
    cases h
    obtain ⟨t, rfl⟩ := r
    exact Rp.flat (Reads.int i t) (by rw [PyData.depth]) (by rw [PyData.shown]; exact ReprIs.int t (by simpa [PyData.showable] using hs)) (fun _ => nofun)
  | .str x, _, _, _, hz, h, r => by
    cases h
    obtain ⟨t, rfl⟩ := r
    exact Rp.flat (Reads.str x t) (by rw [PyData.depth]) (by rw [PyData.shown]; exact ReprIs.str x t (by rw [PyData.shown] at hz; exact hz)) (fun _ => nofun)
  | .list ds, _, _, hs, hz, h, r => by
    cases h with
    | lst hg ha =>
      cases r
      obtain ⟨its, rv, ⟨o, n, ho, hc, _, hd⟩, _⟩ := I.list (SqL.of (sP.lst hg))
      have hz2 : (listText (PyData.shownAll ds)).length ≤ sizeLine := by rw [PyData.shown] at hz; exact hz
      exact Rp.lst ho hc hd (dr_rpA I sP ds _ its (by simpa [PyData.showable] using hs) (fun t ht => Nat.le_trans (listText_mem_le ht) hz2) ha rv) hz
  | .tuple ds, _, _, hs, hz, h, r => by
    cases h with
    | tup hg ha =>
      cases r
      obtain ⟨its, rv, ⟨o, ho, hc, n, hd⟩, _⟩ := I.tuple (pub_sqT sP hg)
      have hz2 : (tupleText (PyData.shownAll ds)).length ≤ sizeLine := by rw [PyData.shown] at hz; exact hz
      exact Rp.tup ho hc hd (by simpa using dr_rpA I sP ds _ its (by simpa [PyData.showable] using hs) (fun t ht => Nat.le_trans (tupleText_mem_le ht) hz2) ha rv) hz
  | .dict ds, _, _, hs, hz, h, r => by
    cases h with
    | dic hg ha =>
      cases r
      obtain ⟨_, hS, vs, rv, o, es, ep, ho, hx, hd, hk, hp, hn⟩ := rd_of I.hok (sP.dk hg)
      have hz2 : (dictText (PyData.shownKv ds)).length ≤ sizeLine := by rw [PyData.shown] at hz; exact hz
      obtain ⟨q1, q2⟩ := dr_rpK I sP ds _ vs es.toList (by simpa [PyData.showable] using hs) (fun t ht => Nat.le_trans (dictText_mem_le ht) hz2) ha rv hp
      exact Rp.dic ho hx.1 hd hS q1 q2 hz
theorem dr_rpA {G : Hp} (I : Inv X pins σ H s) (sP : Pub G H) : ∀ (ds : List D) (vs : List V) (us : List Value), PyData.showableAll ds = true → (∀ t ∈ PyData.shownAll ds, t.length ≤ sizeLine) → DrAll X.K G vs ds → Vals vs us → RpA X.prog X.w s.heap us ds
  | [], _, _, _, _, h, r => by
    cases h
    cases r
    exact RpA.nil
  | d :: ds, _, _, hs, hz, h, r => by
    cases h with
    | cons h1 h2 =>
      cases r with
      | cons r1 r2 =>
        rw [PyData.showableAll, Bool.and_eq_true] at hs
        rw [PyData.shownAll] at hz
        exact RpA.cons (dr_rp I sP d _ _ hs.1 (hz _ List.mem_cons_self) h1 r1) (dr_rpA I sP ds _ _ hs.2 (fun t ht => hz t (List.mem_cons_of_mem _ ht)) h2 r2)
theorem dr_rpK {G : Hp} (I : Inv X pins σ H s) (sP : Pub G H) : ∀ (ds : List (D × D)) (kvs : List (Key × V)) (vs : List (Key × Value)) (es : List DictEntry), PyData.showableKv ds = true → (∀ t ∈ PyData.shownKv ds, t.length ≤ sizeLine) → DrKv X.K G kvs ds → KV kvs vs → Pairs (mixKind X.prog X.w) es vs →
    RpA X.prog X.w s.heap (es.map (·.key)) (ds.map (·.1)) ∧ RpA X.prog X.w s.heap (es.map (·.val)) (ds.map (·.2))
  | [], _, _, _, _, _, h, r, p => by
    cases h
    cases r
    cases p
    exact ⟨RpA.nil, RpA.nil⟩
  | (k, d) :: ds, _, _, _, hs, hz, h, r, p => by
    cases h with
    | cons h1 h2 =>
      cases r with
      | cons r1 r2 =>
        cases p with
        | cons p1 p2 p3 =>
          rw [PyData.showableKv, Bool.and_eq_true, Bool.and_eq_true] at hs
          rw [PyData.shownKv] at hz
          have z1 := hz _ List.mem_cons_self
          rw [strLen_append, strLen_append] at z1
          obtain ⟨q1, q2⟩ := dr_rpK I sP ds _ _ _ hs.2 (fun t ht => hz t (List.mem_cons_of_mem _ ht)) h2 r2 p3
          exact ⟨RpA.cons (key_rp (by have e1 := r1.1; dsimp only at e1; rw [e1]; exact p1) hs.1.1 (by omega)) q1, RpA.cons (dr_rp I sP d _ _ hs.1.2 (by omega) h1 (by dsimp only; rw [p2]; exact r1.2)) q2⟩
end
end
/-- repr of any data -/
def dReprX : List D → (D → Prop) → Prop
  | [x], P => x.showable = true ∧ x.depth ≤ 60 ∧ x.shown.length ≤ sizeLine ∧ P (.str x.shown)
  | _, _ => False
section
variable {X : Cx}
theorem cd_reprX (hg : X.A.guards = some []) (hu : X.A.units + 64 < cLine) : CallR X (.builtin "repr") (rDC X.K dReprX) := by
  intro pins s σ H xs us Q I r h
  obtain ⟨G, ds, P, sG, da, hf, q⟩ := h
  unfold dReprX at hf
  split at hf
  · obtain ⟨v, rfl, d⟩ := all1 da
    obtain ⟨h1, h3, h4, hP⟩ := hf
    have q' := q _ _ G H hP (Grow.refl sG) (.str _)
    have go : ∀ a, v = .ref a → wpAny (model X.prog X.w) X.A (call (.builtin "repr") us) (EP X pins σ Q) X.xe s := fun a ev => by
      subst ev
      obtain ⟨u, rfl, r1⟩ := vals1 r
      have rp := dr_rp I sG _ _ _ h1 h4 d r1
      cases r1
      obtain ⟨T, i, S⟩ := rp.top _ rfl
      refine call_repr_slot (by omega) (S.typeIs s fun _ _ e => e) S.slotRepr (S.call X.A.in1 X.xe s _ hg ?_ (fun _ _ e => e) fun h' t tk hk => ⟨_, _, rfl, .str _, H, I.kept hk, ⟨_, rfl⟩, q'⟩)
      show X.A.units + 1 + _ < cLine
      omega
    cases d with
    | int i =>
      obtain ⟨u, rfl, t, rfl⟩ := vals1 r
      exact PySem.P.repr_of_int (by simpa [PyData.showable] using h1) ⟨.str _, H, I.tok _, ⟨_, rfl⟩, q'⟩
    | str z =>
      obtain ⟨u, rfl, t, rfl⟩ := vals1 r
      exact PySem.P.repr_of_str ⟨.str _, H, I.tok _, ⟨_, rfl⟩, q'⟩ h4
    | bl b =>
      obtain ⟨u, rfl, r1⟩ := vals1 r
      cases r1
      exact PySem.P.repr_of_bool ⟨.str _, H, I.tok _, ⟨_, rfl⟩, q'⟩
    | non =>
      obtain ⟨u, rfl, r1⟩ := vals1 r
      cases r1
      exact PySem.P.repr_of_none ⟨.str _, H, I.tok _, ⟨_, rfl⟩, q'⟩
    | lst a b => exact go _ rfl
    | tup a b => exact go _ rfl
    | dic a b => exact go _ rfl
  · exact hf.elim
end
end DL
namespace DL
open PySem PySem.Spec PyProof.Rows L2
/-! ### a tuple of anything == () -/
def cEq0 : D → D → (Bool → Prop) → Prop
  | .tuple xs, .tuple [], P => P xs.isEmpty
  | _, _, _ => False
section
variable {X : Cx}
theorem tup_at {pins : List (Addr × Obj)} {σ : L2.St} {H : Hp} {s : Shared} {a : Addr} {us : List V} (I : L2.Inv X pins σ H s) (h : SqT X.K H a us) : ∃ its : Array Value, s.heap.IsTuple a its ∧ its.size = us.length := by
  obtain ⟨its, r, t, _⟩ := I.tuple h
  exact ⟨its.toArray, t, by rw [List.size_toArray]; exact r.length.symm⟩
theorem od_eq0 (hu : X.A.units + 64 < cLine) : OpR X (compareOp .Eq) (rDC2 X.K cEq0) := by
  intro pins s σ H x y v u Q I rx ry h
  obtain ⟨G, dx, dy, P, sG, d1, d2, hf, q⟩ := h
  unfold cEq0 at hf
  split at hf
  · obtain ⟨a, us, rfl, h1, h2⟩ := dp_tup d1
    obtain ⟨b, ws, rfl, h3, h4⟩ := dp_tup d2
    cases h4
    cases rx
    cases ry
    have e := all_empty h2
    obtain ⟨its, l1, z1⟩ := tup_at I (pub_sqT sG h1)
    obtain ⟨it2, l2, z2⟩ := tup_at I (pub_sqT sG h3)
    have e2 : it2.size = 0 := z2
    have key := SeqAt.RcAt.tuples (A := X.A) (e := fun _ => true) l1 l2 (by omega) (fun j h h3 => absurd h3 (by omega))
    have em : ((List.range (min its.size it2.size)).all (fun _ => true) && its.size == it2.size) = us.isEmpty := by
      rw [e2, z1, Nat.min_zero]
      cases us <;> rfl
    rw [em] at key
    exact key _ _ _ _ ⟨.bl _, H, I, rfl, q _ (by rw [e]; exact hf)⟩
  · exact hf.elim
/-! ### {k: x}, k a number -/
def mDict1 (i : Int) (m : ME) : ME := fun env P => m env fun x e1 => P (.dict [(.int i, x)]) e1
theorem ge_disp1 {pos : Pos} {i : Int} {ek ev : Expr} {n : Nat} {m : ME} (h : PPs X pos [some ek] [ev] [(tC (.int i), tD X.K n m)]) : GE X (.Dict [some ek] [ev] pos) n (mDict1 i m) := pe_imp (pe_disp h rfl rfl (by simp) (by simp)) fun σ H Q h => by
  obtain ⟨W, B, G0, H0, G, env, P, R, hm, q⟩ := h
  intro p hp
  obtain ⟨R1, f1, f2, f3, f4⟩ := R.fresh (o := .dK []) hp
  have R2 := R1.guard upd_same f1 f4
  have g0 : G0 p = none := R.g0.free f1
  refine ⟨W, B, _, _, G, env, _, R2, hm, fun x e1 v G1 H1 p1 s1 R3 d1 => ?_⟩
  obtain ⟨R4, hp4, gp4, ho4⟩ := R3.unguard f3 g0 f2
  refine ⟨hp4, [(Sum.inl i, v)], rfl, by simp, ?_⟩
  have em : mergeK [] [((Sum.inl i : Key), v)] = [(Sum.inl i, v)] := merge_new _ [] (by simp)
  rw [em]
  have sg : Same G1 (upd G1 p (.dK [(Sum.inl i, v)])) := same_upd gp4
  exact q _ e1 _ _ _ p1 (s1.trans sg) (R4.pubO gp4 f2 f3 ho4) (.dic (.inl upd_same) (drkv_same sg (.cons d1 .nil)))
end
end DL
namespace DL
open PySem PySem.Spec PyProof.Rows L2
/-! ### zip of three things of any sort -/
abbrev Tr3 (h : Heap) (T : Addr) (a b c : Value) : Prop := h.get? T = some { cls := .type "tuple", data := .seq #[a, b, c] }
structure Ap3 (z TI TO i1 i2 i3 : Addr) (ls : List Addr) : Prop where
  d : (TI ≠ z ∧ TO ≠ z ∧ i1 ≠ z ∧ i2 ≠ z ∧ i3 ≠ z) ∧ (TI ≠ TO ∧ TO ≠ i1 ∧ TO ≠ i2 ∧ TO ≠ i3) ∧ i1 ≠ i2 ∧ i1 ≠ i3 ∧ i2 ≠ i3
  l : ∀ c ∈ ls, c ≠ z ∧ c ≠ TO ∧ c ≠ i1 ∧ c ≠ i2 ∧ c ≠ i3
section
variable {prog : Program} {w : World} {A : Around} {E : Value → Shared → Prop} {s : Shared} {z TI TO i1 i2 i3 : Addr} {ls1 ls2 ls3 : List Addr} {n1 n2 n3 : Nat} {Y1 Y2 Y3 : Nat → Value → Prop} {C1 C2 C3 : Heap → Prop} {S1 S2 S3 : Nat → Heap → Prop}
theorem upd_tr {T : Addr} {a b c x : Value} {k : Nat} {Q : Unit → Shared → Prop} (hT : Tr3 s.heap T a b c)
    (q : ∀ h', h'.get? T = some { cls := .type "tuple", data := .seq ((#[a, b, c] : Array Value).setIfInBounds k x) } → Heap.SameBut T s.heap h' → Q () { s with heap := h' }) : wpAny (model prog w) A (updateSeq T (·.setIfInBounds k x)) Q E s := by
  refine wpAny_updateSeq hT rfl (q _ ?_ (Heap.SameBut.update ..))
  rw [Heap.get?_update_self _ hT rfl]
  simp [Obj.mapSeq]
theorem z3_next {k : Nat} {a b c : Value} {Q : Value → Shared → Prop} (W1 : Wlk i1 ls1 n1 Y1 C1 S1) (W2 : Wlk i2 ls2 n2 Y2 C2 S2) (W3 : Wlk i3 ls3 n3 Y3 C3 S3) (D : Ap3 z TI TO i1 i2 i3 (ls1 ++ (ls2 ++ ls3))) (hz : IsZip s.heap z TI TO .none) (hTI : Tr3 s.heap TI (.ref i1) (.ref i2) (.ref i3)) (hTO : Tr3 s.heap TO a b c)
    (m1 : S1 k s.heap) (m2 : S2 k s.heap) (m3 : S3 k s.heap) (c1 : C1 s.heap) (c2 : C2 s.heap) (c3 : C3 s.heap) (l1 : k < n1) (l2 : k < n2) (l3 : k < n3)
    (hQ : ∀ x y v h' tk, Y1 k x → Y2 k y → Y3 k v → IsZip h' z TI TO (rawInt s.heap.objs.size) → Tr3 h' TO x y v → S1 (k + 1) h' → S2 (k + 1) h' → S3 (k + 1) h' → Tr3 h' s.heap.objs.size x y v →
      (∀ c o, c ≠ z → c ≠ TO → c ≠ i1 → c ≠ i2 → c ≠ i3 → s.heap.get? c = some o → h'.get? c = some o) → Q (.ref s.heap.objs.size) { s with heap := h', toks := tk }) :
    wpAny (model prog w) A (Builtin.«zip.__next__» ⟨[.ref z], []⟩) (fun fin s' => ∃ v, fin = .done (.ret v) ∧ Q v s') E s := by
  obtain ⟨⟨d1, d2, d3, d4, d5⟩, ⟨d6, d7, d8, d9⟩, d10, d11, d12⟩ := D.d
  have dl1 := fun c hc => D.l c (List.mem_append_left _ hc)
  have dl2 := fun c hc => D.l c (List.mem_append_right _ (List.mem_append_left _ hc))
  have dl3 := fun c hc => D.l c (List.mem_append_right _ (List.mem_append_right _ hc))
  show wpAny _ _ (field (.ref z) 2 >>= _) _ _ _
  refine wpAny_bind (wpAny_field hz rfl (x := .bool false) rfl ?_)
  show wpAny _ _ (field (.ref z) 3 >>= _) _ _ _
  refine wpAny_bind (wpAny_field hz rfl (x := .ref TI) rfl (wpAny_bind (wpAny_seqItems hTI rfl ?_)))
  show wpAny _ _ (Builtin.SmallTypes.ownedTupleIsFree (.ref z) >>= _) _ _ _
  refine wpAny_bind ?_
  unfold Builtin.SmallTypes.ownedTupleIsFree
  refine wpAny_bind (wpAny_field hz rfl (x := .none) rfl (wpAny_pure ?_))
  simp only [if_true]
  refine wpAny_bind (wpAny_rule (wpAny_bind (wpAny_field hz rfl (x := .ref TO) rfl ?_)))
  refine wpAny_bind (wpAny_setField_rec hz (by simp) fun ha za sa => ?_)
  have za : IsZip ha z TI TO .ellipsis := za
  refine wpAny_bind ?_
  simp only [List.zipIdx_cons, List.zipIdx_nil, List.forIn_cons, List.forIn_nil]
  refine wpAny_bind (wpAny_bind (wpAny_onRaise ?_))
  show wpAny _ _ (Builtin.SmallTypes.nextOf (.ref i1) >>= _) _ _ _
  refine wpAny_bind (W1.item (s := { s with heap := ha }) (W1.keep m1 fun o q => sa.extBut _ _ d3 q) (W1.keepC c1 fun c hc o q => sa.extBut _ _ (dl1 c hc).1 q) l1 fun x hb tb yx nb sb => wpAny_pure ?_)
  have sb : Heap.SameBut i1 ha hb := sb
  have ob : Tr3 hb TO a b c := sb.extBut _ _ d7 (sa.extBut _ _ d2 hTO)
  refine wpAny_bind (wpAny_seqItems ob rfl (wpAny_bind (upd_tr ob fun hc oc sc => ?_)))
  have oc : Tr3 hc TO x b c := oc
  have kc : ∀ c o, c ≠ z → c ≠ TO → c ≠ i1 → s.heap.get? c = some o → hc.get? c = some o := fun c o q1 q2 q3 q => sc.extBut _ _ q2 (sb.extBut _ _ q3 (sa.extBut _ _ q1 q))
  refine wpAny_bind (wpAny_letGo (wpAny_pure ?_))
  refine wpAny_bind (wpAny_bind (wpAny_onRaise ?_))
  show wpAny _ _ (Builtin.SmallTypes.nextOf (.ref i2) >>= _) _ _ _
  refine wpAny_bind (W2.item (s := { s with heap := hc, toks := tb }) (W2.keep m2 fun o q => kc _ _ d4 d8.symm d10.symm q) (W2.keepC c2 fun c hcm o q => kc _ _ (dl2 c hcm).1 (dl2 c hcm).2.1 (dl2 c hcm).2.2.1 q) l2 fun y hd td yy nd sd => wpAny_pure ?_)
  have sd : Heap.SameBut i2 hc hd := sd
  have od : Tr3 hd TO x b c := sd.extBut _ _ d8 oc
  refine wpAny_bind (wpAny_seqItems od rfl (wpAny_bind (upd_tr od fun he oe se => ?_)))
  have oe : Tr3 he TO x y c := oe
  have ke : ∀ c o, c ≠ z → c ≠ TO → c ≠ i1 → c ≠ i2 → s.heap.get? c = some o → he.get? c = some o := fun c o q1 q2 q3 q4 q => se.extBut _ _ q2 (sd.extBut _ _ q4 (kc c o q1 q2 q3 q))
  refine wpAny_bind (wpAny_letGo (wpAny_pure ?_))
  refine wpAny_bind (wpAny_bind (wpAny_onRaise ?_))
  show wpAny _ _ (Builtin.SmallTypes.nextOf (.ref i3) >>= _) _ _ _
  refine wpAny_bind (W3.item (s := { s with heap := he, toks := td }) (W3.keep m3 fun o q => ke _ _ d5 d9.symm d11.symm d12.symm q) (W3.keepC c3 fun c hcm o q => ke _ _ (dl3 c hcm).1 (dl3 c hcm).2.1 (dl3 c hcm).2.2.1 (dl3 c hcm).2.2.2.1 q) l3 fun v hf tf yv nf sf => wpAny_pure ?_)
  have sf : Heap.SameBut i3 he hf := sf
  have of3 : Tr3 hf TO x y c := sf.extBut _ _ d9 oe
  refine wpAny_bind (wpAny_seqItems of3 rfl (wpAny_bind (upd_tr of3 fun hg og sg => ?_)))
  have og : Tr3 hg TO x y v := og
  have kg : ∀ c o, c ≠ z → c ≠ TO → c ≠ i1 → c ≠ i2 → c ≠ i3 → s.heap.get? c = some o → hg.get? c = some o := fun c o q1 q2 q3 q4 q5 q => sg.extBut _ _ q2 (sf.extBut _ _ q5 (ke c o q1 q2 q3 q4 q))
  refine wpAny_bind (wpAny_letGo (wpAny_pure (wpAny_pure ?_)))
  refine wpAny_bind (wpAny_seqItems og rfl (wpAny_bind (wpAny_newTuple ?_)))
  have sz : hg.objs.size = s.heap.objs.size := by rw [sg.1, sf.1, se.1, sd.1, sc.1, sb.1, sa.1]
  have ze : IsZip hg z TI TO .ellipsis := sg.extBut _ _ d2.symm (sf.extBut _ _ d5.symm (se.extBut _ _ d2.symm (sd.extBut _ _ d4.symm (sc.extBut _ _ d2.symm (sb.extBut _ _ d3.symm za)))))
  have zl : z < hg.objs.size := Heap.lt_size ze
  show wpAny _ _ (Builtin.SmallTypes.ownedTupleHandOut (.ref z) (.ref hg.objs.size) >>= _) _ _ _
  refine wpAny_bind ?_
  unfold Builtin.SmallTypes.ownedTupleHandOut
  have zf : IsZip (hg.push { cls := .type "tuple", data := .seq #[x, y, v] }) z TI TO .ellipsis := Heap.get?_push_of_some _ ze
  refine wpAny_bind (wpAny_setField_rec zf (by simp) fun hi zg si => ?_)
  have zg : IsZip hi z TI TO (rawInt hg.objs.size) := zg
  refine wpAny_setField_rec zg (by simp) fun hh zh sh => ?_
  have zh : IsZip hh z TI TO (rawInt hg.objs.size) := zh
  have up : ∀ c o, c ≠ z → hg.get? c = some o → hh.get? c = some o := fun c o c1 q => sh.extBut _ _ c1 (si.extBut _ _ c1 (Heap.get?_push_of_some _ q))
  have pr : Tr3 hh hg.objs.size x y v := sh.extBut _ _ (Nat.ne_of_gt zl) (si.extBut _ _ (Nat.ne_of_gt zl) (Heap.get?_push_size _ rfl))
  rw [sz] at zh pr
  refine wpAny_pure ⟨_, rfl, ?_⟩
  show Q (.ref hg.objs.size) _
  rw [sz]
  exact hQ x y v hh tf yx yy yv zh (up _ _ d2 og) (W1.keep nb fun o q => up _ _ d3 (sg.extBut _ _ d7.symm (sf.extBut _ _ d11 (se.extBut _ _ d7.symm (sd.extBut _ _ d10 (sc.extBut _ _ d7.symm q)))))) (W2.keep nd fun o q => up _ _ d4 (sg.extBut _ _ d8.symm (sf.extBut _ _ d12 (se.extBut _ _ d8.symm q)))) (W3.keep nf fun o q => up _ _ d5 (sg.extBut _ _ d9.symm q)) pr fun c o c1 c2 c3 c4 c5 q => up c o c1 (kg c o c1 c2 c3 c4 c5 q)
theorem z3_end {k : Nat} {a b c : Value} {Q : Fin → Shared → Prop} (ok : A.handled = none) (W1 : Wlk i1 ls1 n1 Y1 C1 S1) (W2 : Wlk i2 ls2 n2 Y2 C2 S2) (W3 : Wlk i3 ls3 n3 Y3 C3 S3) (D : Ap3 z TI TO i1 i2 i3 (ls1 ++ (ls2 ++ ls3))) (hz : IsZip s.heap z TI TO .none) (hTI : Tr3 s.heap TI (.ref i1) (.ref i2) (.ref i3)) (hTO : Tr3 s.heap TO a b c)
    (m1 : S1 k s.heap) (m2 : S2 k s.heap) (m3 : S3 k s.heap) (c1 : C1 s.heap) (c2 : C2 s.heap) (c3 : C3 s.heap) (hend : n1 ≤ k ∨ n2 ≤ k ∨ n3 ≤ k)
    (hE : ∀ h' e tk, (∀ c o, c ≠ z → c ≠ TO → c ≠ i1 → c ≠ i2 → c ≠ i3 → s.heap.get? c = some o → h'.get? c = some o) → (∃ o, h'.get? e = some o ∧ o.cls = .type "StopIteration") → E (.ref e) { s with heap := h', toks := tk }) :
    wpAny (model prog w) A (Builtin.«zip.__next__» ⟨[.ref z], []⟩) Q E s := by
  obtain ⟨⟨d1, d2, d3, d4, d5⟩, ⟨d6, d7, d8, d9⟩, d10, d11, d12⟩ := D.d
  have dl1 := fun c hc => D.l c (List.mem_append_left _ hc)
  have dl2 := fun c hc => D.l c (List.mem_append_right _ (List.mem_append_left _ hc))
  have dl3 := fun c hc => D.l c (List.mem_append_right _ (List.mem_append_right _ hc))
  show wpAny _ _ (field (.ref z) 2 >>= _) _ _ _
  refine wpAny_bind (wpAny_field hz rfl (x := .bool false) rfl ?_)
  show wpAny _ _ (field (.ref z) 3 >>= _) _ _ _
  refine wpAny_bind (wpAny_field hz rfl (x := .ref TI) rfl (wpAny_bind (wpAny_seqItems hTI rfl ?_)))
  show wpAny _ _ (Builtin.SmallTypes.ownedTupleIsFree (.ref z) >>= _) _ _ _
  refine wpAny_bind ?_
  unfold Builtin.SmallTypes.ownedTupleIsFree
  refine wpAny_bind (wpAny_field hz rfl (x := .none) rfl (wpAny_pure ?_))
  simp only [if_true]
  refine wpAny_bind (wpAny_rule (wpAny_bind (wpAny_field hz rfl (x := .ref TO) rfl ?_)))
  refine wpAny_bind (wpAny_setField_rec hz (by simp) fun ha za sa => ?_)
  have za : IsZip ha z TI TO .ellipsis := za
  refine wpAny_bind ?_
  simp only [List.zipIdx_cons, List.zipIdx_nil, List.forIn_cons, List.forIn_nil]
  refine wpAny_bind (wpAny_bind (wpAny_onRaise ?_))
  show wpAny _ _ (Builtin.SmallTypes.nextOf (.ref i1) >>= _) _ _ _
  have M1 : S1 k ha := W1.keep m1 fun o q => sa.extBut _ _ d3 q
  have K1 : C1 ha := W1.keepC c1 fun c hc o q => sa.extBut _ _ (dl1 c hc).1 q
  by_cases l1 : n1 ≤ k
  · refine wpAny_bind (W1.done (s := { s with heap := ha }) ok M1 K1 l1 fun hb e eb st => ?_)
    obtain ⟨oe, hoe, hce⟩ := st
    have zb : IsZip hb z TI TO .ellipsis := eb _ _ d3.symm za
    have ez : e ≠ z := fun q => by
      subst q
      rw [zb] at hoe
      cases hoe
      simp at hce
    exact wpAny_setField_rec zb (by simp) fun hc _ sc => hE hc e s.toks (fun c o q1 _ q3 _ _ x => sc.extBut _ _ q1 (eb _ _ q3 (sa.extBut _ _ q1 x))) ⟨oe, sc.extBut _ _ ez hoe, hce⟩
  · refine wpAny_bind (W1.item (s := { s with heap := ha }) M1 K1 (by omega) fun x hb tb yx nb sb => wpAny_pure ?_)
    have sb : Heap.SameBut i1 ha hb := sb
    have ob : Tr3 hb TO a b c := sb.extBut _ _ d7 (sa.extBut _ _ d2 hTO)
    refine wpAny_bind (wpAny_seqItems ob rfl (wpAny_bind (upd_tr ob fun hc oc sc => ?_)))
    have oc : Tr3 hc TO x b c := oc
    have kc : ∀ c o, c ≠ z → c ≠ TO → c ≠ i1 → s.heap.get? c = some o → hc.get? c = some o := fun c o q1 q2 q3 q => sc.extBut _ _ q2 (sb.extBut _ _ q3 (sa.extBut _ _ q1 q))
    have zc : IsZip hc z TI TO .ellipsis := sc.extBut _ _ d2.symm (sb.extBut _ _ d3.symm za)
    refine wpAny_bind (wpAny_letGo (wpAny_pure ?_))
    refine wpAny_bind (wpAny_bind (wpAny_onRaise ?_))
    show wpAny _ _ (Builtin.SmallTypes.nextOf (.ref i2) >>= _) _ _ _
    have M2 : S2 k hc := W2.keep m2 fun o q => kc _ _ d4 d8.symm d10.symm q
    have K2 : C2 hc := W2.keepC c2 fun c hcm o q => kc _ _ (dl2 c hcm).1 (dl2 c hcm).2.1 (dl2 c hcm).2.2.1 q
    by_cases l2 : n2 ≤ k
    · refine wpAny_bind (W2.done (s := { s with heap := hc, toks := tb }) ok M2 K2 l2 fun hd e ed st => ?_)
      obtain ⟨oe, hoe, hce⟩ := st
      have zd : IsZip hd z TI TO .ellipsis := ed _ _ d4.symm zc
      have ez : e ≠ z := fun q => by
        subst q
        rw [zd] at hoe
        cases hoe
        simp at hce
      exact wpAny_setField_rec zd (by simp) fun he _ se => hE he e tb (fun c o q1 q2 q3 q4 _ x => se.extBut _ _ q1 (ed _ _ q4 (kc c o q1 q2 q3 x))) ⟨oe, se.extBut _ _ ez hoe, hce⟩
    · have l3 : n3 ≤ k := by omega
      refine wpAny_bind (W2.item (s := { s with heap := hc, toks := tb }) M2 K2 (by omega) fun y hd td yy nd sd => wpAny_pure ?_)
      have sd : Heap.SameBut i2 hc hd := sd
      have od : Tr3 hd TO x b c := sd.extBut _ _ d8 oc
      refine wpAny_bind (wpAny_seqItems od rfl (wpAny_bind (upd_tr od fun he oe se => ?_)))
      have ke : ∀ c o, c ≠ z → c ≠ TO → c ≠ i1 → c ≠ i2 → s.heap.get? c = some o → he.get? c = some o := fun c o q1 q2 q3 q4 q => se.extBut _ _ q2 (sd.extBut _ _ q4 (kc c o q1 q2 q3 q))
      have ze : IsZip he z TI TO .ellipsis := se.extBut _ _ d2.symm (sd.extBut _ _ d4.symm zc)
      refine wpAny_bind (wpAny_letGo (wpAny_pure ?_))
      refine wpAny_bind (wpAny_bind (wpAny_onRaise ?_))
      show wpAny _ _ (Builtin.SmallTypes.nextOf (.ref i3) >>= _) _ _ _
      refine wpAny_bind (W3.done (s := { s with heap := he, toks := td }) ok (W3.keep m3 fun o q => ke _ _ d5 d9.symm d11.symm d12.symm q) (W3.keepC c3 fun c hcm o q => ke _ _ (dl3 c hcm).1 (dl3 c hcm).2.1 (dl3 c hcm).2.2.1 (dl3 c hcm).2.2.2.1 q) l3 fun hf e ef st => ?_)
      obtain ⟨of3, hof, hcf⟩ := st
      have zf : IsZip hf z TI TO .ellipsis := ef _ _ d5.symm ze
      have ez : e ≠ z := fun q => by
        subst q
        rw [zf] at hof
        cases hof
        simp at hcf
      exact wpAny_setField_rec zf (by simp) fun hg _ sg => hE hg e td (fun c o q1 q2 q3 q4 q5 x => sg.extBut _ _ q1 (ef _ _ q5 (ke c o q1 q2 q3 q4 x))) ⟨of3, sg.extBut _ _ ez hof, hcf⟩
end
end DL
namespace DL
open PySem PySem.Spec PyProof.Rows L2
section
variable {prog : Program} {w : World} {A : Around} {E : Value → Shared → Prop} {s : Shared} {z TI TO i1 i2 i3 : Addr} {ls1 ls2 ls3 : List Addr} {n1 n2 n3 : Nat} {Y1 Y2 Y3 : Nat → Value → Prop} {D1 D2 D3 : Heap → Prop} {S1 S2 S3 : Nat → Heap → Prop}
theorem z3_pyNext {k : Nat} {a b c : Value} {Q : Option Value → Shared → Prop} (W1 : Wlk i1 ls1 n1 Y1 D1 S1) (W2 : Wlk i2 ls2 n2 Y2 D2 S2) (W3 : Wlk i3 ls3 n3 Y3 D3 S3) (D : Ap3 z TI TO i1 i2 i3 (ls1 ++ (ls2 ++ ls3))) (hz : IsZip s.heap z TI TO .none) (hTI : Tr3 s.heap TI (.ref i1) (.ref i2) (.ref i3)) (hTO : Tr3 s.heap TO a b c)
    (m1 : S1 k s.heap) (m2 : S2 k s.heap) (m3 : S3 k s.heap) (c1 : D1 s.heap) (c2 : D2 s.heap) (c3 : D3 s.heap) (l1 : k < n1) (l2 : k < n2) (l3 : k < n3)
    (hQ : ∀ x y v h' tk, Y1 k x → Y2 k y → Y3 k v → IsZip h' z TI TO (rawInt s.heap.objs.size) → Tr3 h' TO x y v → S1 (k + 1) h' → S2 (k + 1) h' → S3 (k + 1) h' → Tr3 h' s.heap.objs.size x y v →
      (∀ c o, c ≠ z → c ≠ TO → c ≠ i1 → c ≠ i2 → c ≠ i3 → s.heap.get? c = some o → h'.get? c = some o) → Q (some (.ref s.heap.objs.size)) { s with heap := h', toks := tk }) : wpAny (model prog w) A (pyNext (.ref z)) Q E s := by
  have hT : s.TypeIs (.ref z) "zip" := ⟨_, hz, rfl⟩
  unfold pyNext
  exact wpAny_bind (wpAny_attempt (wpAny_callSpecial?_slot (name := Str.ofString "__next__") hT F.slot_zip_next (wpAny_call_entry F.slot_zip_next hT F.entry_zip_next (z3_next W1 W2 W3 D hz hTI hTO m1 m2 m3 c1 c2 c3 l1 l2 l3 fun x y v h2 tk a1 a2 a3 a4 a5 a6 a7 a8 a9 b1 => wpAny_pure (hQ x y v h2 tk a1 a2 a3 a4 a5 a6 a7 a8 a9 b1)) (F.args_zip_next_1 _))))
theorem z3_pyEnd {k : Nat} {a b c : Value} {Q : Option Value → Shared → Prop} (ok : A.handled = none) (W1 : Wlk i1 ls1 n1 Y1 D1 S1) (W2 : Wlk i2 ls2 n2 Y2 D2 S2) (W3 : Wlk i3 ls3 n3 Y3 D3 S3) (D : Ap3 z TI TO i1 i2 i3 (ls1 ++ (ls2 ++ ls3))) (hz : IsZip s.heap z TI TO .none) (hTI : Tr3 s.heap TI (.ref i1) (.ref i2) (.ref i3)) (hTO : Tr3 s.heap TO a b c)
    (m1 : S1 k s.heap) (m2 : S2 k s.heap) (m3 : S3 k s.heap) (c1 : D1 s.heap) (c2 : D2 s.heap) (c3 : D3 s.heap) (hend : n1 ≤ k ∨ n2 ≤ k ∨ n3 ≤ k)
    (hQ : ∀ h' tk, (∀ c o, c ≠ z → c ≠ TO → c ≠ i1 → c ≠ i2 → c ≠ i3 → s.heap.get? c = some o → h'.get? c = some o) → Q none { s with heap := h', toks := tk }) : wpAny (model prog w) A (pyNext (.ref z)) Q E s := by
  have hT : s.TypeIs (.ref z) "zip" := ⟨_, hz, rfl⟩
  unfold pyNext
  refine wpAny_bind (wpAny_attempt (wpAny_callSpecial?_slot (name := Str.ofString "__next__") hT F.slot_zip_next (wpAny_call_entry F.slot_zip_next hT F.entry_zip_next (z3_end ok W1 W2 W3 D hz hTI hTO m1 m2 m3 c1 c2 c3 hend fun h2 e tk k q => ?_) (F.args_zip_next_1 _))))
  obtain ⟨o, ho, hc⟩ := q
  exact wpAny_bind (wpAny_isInstance (T := "StopIteration") (b := true) ⟨o, ho, hc⟩ isSubtype_stop (wpAny_pure (hQ _ _ k)))
end
def Itz3 (K : PySem.W.Frag) (c d e : Cp) : It :=
  ⟨fun i H => ∃ (xs ys zs : List V) (x y z : V), (CpIt K H c xs ∧ CpIt K H d ys ∧ CpIt K H e zs) ∧ xs[i]? = some x ∧ ys[i]? = some y ∧ zs[i]? = some z,
    fun i H v H' => ∃ T x y z, v = .ref T ∧ H T = none ∧ H' = upd H T (.tup [x, y, z]) ∧ (∀ xs, CpIt K H c xs → xs[i]? = some x) ∧ (∀ ys, CpIt K H d ys → ys[i]? = some y) ∧ ∀ zs, CpIt K H e zs → zs[i]? = some z,
    fun i H => ∃ xs ys zs : List V, (CpIt K H c xs ∧ CpIt K H d ys ∧ CpIt K H e zs) ∧ (xs.length ≤ i ∨ ys.length ≤ i ∨ zs.length ≤ i)⟩
theorem ap3_lt (I c : Nat) (h : c < I) : c ≠ I + 5 ∧ c ≠ I + 4 ∧ c ≠ I ∧ c ≠ I + 1 ∧ c ≠ I + 2 := by omega
theorem ap3_5 (I j : Nat) (h : j < 5) : I + j ≠ I + 5 := by omega
theorem ap3_6 (I c n : Nat) (h : c = I + 5 ∨ c = I + 3 ∨ c = I + 4 ∨ c = I ∨ c = I + 1 ∨ c = I + 2) (h2 : I + 5 < n) : c < n := by omega
theorem turn_zip3 {P : Program} {w : World} {K : PySem.W.Frag} {elts : List Expr} {kk : Nat} {tpos : Pos} {I0 : Addr} {c d e : Cp} {S1 S2 S3 : Nat → Heap → Prop} (p1 : Prt P w K c I0 I0 S1) (p2 : Prt P w K d (I0 + 1) I0 S2) (p3 : Prt P w K e (I0 + 2) I0 S3) :
    Turn P w K (.Tuple elts kk tpos) (Itz3 K c d e) [I0 + 5, I0 + 3, I0 + 4, I0, I0 + 1, I0 + 2] (I0 + 5) (fun i h => IsZip h (I0 + 5) (I0 + 3) (I0 + 4) .none ∧ Tr3 h (I0 + 3) (.ref I0) (.ref (I0 + 1)) (.ref (I0 + 2)) ∧ (∃ x y z, Tr3 h (I0 + 4) x y z) ∧ S1 i h ∧ S2 i h ∧ S3 i h) where
  mem := by simp
  obj := fun i h st b hb => by
    obtain ⟨hz, hTI, ⟨x, y, z, hTO⟩, m1, m2, m3⟩ := st
    obtain ⟨o1, f1, e1, q1⟩ := p1.obj m1
    obtain ⟨o2, f2, e2, q2⟩ := p2.obj m2
    obtain ⟨o3, f3, e3, q3⟩ := p3.obj m3
    simp only [List.mem_cons, List.not_mem_nil, or_false] at hb
    rcases hb with rfl | rfl | rfl | rfl | rfl | rfl
    · exact ⟨_, hz, fun v q => nomatch q⟩
    · exact ⟨_, hTI, fun v q => nomatch q⟩
    · exact ⟨_, hTO, fun v q => nomatch q⟩
    · exact ⟨o1, e1, fun v q => by rw [q1] at q; cases q⟩
    · exact ⟨o2, e2, fun v q => by rw [q2] at q; cases q⟩
    · exact ⟨o3, e3, fun v q => by rw [q3] at q; cases q⟩
  keep := fun i h h' st k => by
    obtain ⟨hz, hTI, ⟨x, y, z, hTO⟩, m1, m2, m3⟩ := st
    exact ⟨k (I0 + 5) (by simp) _ hz, k (I0 + 3) (by simp) _ hTI, ⟨x, y, z, k (I0 + 4) (by simp) _ hTO⟩, p1.keep m1 fun o q => k I0 (by simp) o q, p2.keep m2 fun o q => k (I0 + 1) (by simp) o q, p3.keep m3 fun o q => k (I0 + 2) (by simp) o q⟩
  item := by
    intro X hP hw hK hc i pins s σ H E I hf st hg
    obtain ⟨hz, hTI, ⟨x0, y0, z0, hTO⟩, m1, m2, m3⟩ := st
    obtain ⟨xs, ys, zs, x, y, z, ⟨hqx, hqy, hqz⟩, hx, hy, hzz⟩ := hg
    obtain ⟨ls1, Y1, C1, a1, W1, co1, y1⟩ := p1.wk X hP hw hK pins s σ H xs I hqx
    obtain ⟨ls2, Y2, C2, a2, W2, co2, y2⟩ := p2.wk X hP hw hK pins s σ H ys I hqy
    obtain ⟨ls3, Y3, C3, a3, W3, co3, y3⟩ := p3.wk X hP hw hK pins s σ H zs I hqz
    have inj1 := fun l (hl : CpIt K H c l) => p1.inj X hP hw hK pins s σ H l xs I hl hqx
    have inj2 := fun l (hl : CpIt K H d l) => p2.inj X hP hw hK pins s σ H l ys I hl hqy
    have inj3 := fun l (hl : CpIt K H e l) => p3.inj X hP hw hK pins s σ H l zs I hl hqz
    subst hP hw hK
    have zl : I0 + 5 < s.heap.objs.size := Heap.lt_size hz
    have D : Ap3 (I0 + 5) (I0 + 3) (I0 + 4) I0 (I0 + 1) (I0 + 2) (ls1 ++ (ls2 ++ ls3)) := ⟨by simp, fun c hc => by
      have : c < I0 := by
        rcases List.mem_append.mp hc with h | h
        · exact a1 c h
        · rcases List.mem_append.mp h with h | h
          · exact a2 c h
          · exact a3 c h
      exact ap3_lt I0 c this⟩
    refine z3_pyNext W1 W2 W3 D hz hTI hTO m1 m2 m3 co1 co2 co3 (List.getElem?_eq_some_iff.mp hx).1 (List.getElem?_eq_some_iff.mp hy).1 (List.getElem?_eq_some_iff.mp hzz).1 fun u u2 u3 h2 tk yu yu2 yu3 z2 o2 n1 n2 n3 hT hk => ?_
    obtain ⟨x', ex, ru⟩ := y1 i u yu
    obtain ⟨y', ey, ru2⟩ := y2 i u2 yu2
    obtain ⟨z', ez, ru3⟩ := y3 i u3 yu3
    rw [hx] at ex
    cases ex
    rw [hy] at ey
    cases ey
    rw [hzz] at ez
    cases ez
    refine ⟨_, rfl, wpAny_letOwnedTupleGo_zip (s := { s with heap := h2, toks := tk }) z2 fun h3 z3 sb => ?_⟩
    have hT3 : h3.get? s.heap.objs.size = some { cls := .type "tuple", data := .seq #[u, u2, u3] } := (sb.2 _ (Nat.ne_of_gt zl)).trans hT
    have nw : ObjOk X.prog X.w (upd H s.heap.objs.size (.tup [x, y, z])) h3 s.heap.objs.size (.tup [x, y, z]) := ⟨by show 3 ≤ sizeLine; decide, [u, u2, u3], .cons ru (.cons ru2 (.cons ru3 .nil)), ⟨_, hT3, rfl, _, rfl⟩⟩
    have I1 : Inv X pins σ (upd H s.heap.objs.size (.tup [x, y, z])) { s with heap := h3, toks := tk } := by
      refine I.turnedNew (t' := tk) (ch := [I0 + 5, I0 + 3, I0 + 4, I0, I0 + 1, I0 + 2]) (fun c o hb q => ?_) hf (Nat.le_refl _) nw
      simp only [List.mem_cons, List.not_mem_nil, or_false, not_or] at hb
      exact (sb.2 c hb.1).trans (hk c o hb.1 hb.2.2.1 hb.2.2.2.1 hb.2.2.2.2.1 hb.2.2.2.2.2 q)
    have e5 : ∀ j : Nat, j < 5 → I0 + j ≠ I0 + 5 := ap3_5 I0
    refine ⟨.ref s.heap.objs.size, _, I1, rfl, ⟨_, x, y, z, rfl, I.hok.fresh (Nat.le_refl _), rfl, fun l hl => by rw [inj1 l hl]; exact hx, fun l hl => by rw [inj2 l hl]; exact hy, fun l hl => by rw [inj3 l hl]; exact hzz⟩, ⟨z3, ?_, ⟨u, u2, u3, ?_⟩, ?_, ?_, ?_⟩, fun c hcm => ?_⟩
    · exact (sb.2 _ (e5 3 (by omega))).trans (hk _ _ (e5 3 (by omega)) (by simp) (by simp) (by simp) (by simp) hTI)
    · exact (sb.2 _ (e5 4 (by omega))).trans o2
    · exact p1.keep n1 fun o q => (sb.2 _ (by simp)).trans q
    · exact p2.keep n2 fun o q => (sb.2 _ (by simp)).trans q
    · exact p3.keep n3 fun o q => (sb.2 _ (by simp)).trans q
    · have : c < s.heap.objs.size := by
        simp only [List.mem_cons, List.not_mem_nil, or_false] at hcm
        exact ap3_6 I0 c _ hcm zl
      rw [upd_ne (Nat.ne_of_lt this)]
      exact (hf c hcm).1
  done := by
    intro X hP hw hK hc i pins s σ H E I hf st hg
    obtain ⟨hz, hTI, ⟨x0, y0, z0, hTO⟩, m1, m2, m3⟩ := st
    obtain ⟨xs, ys, zs, ⟨hqx, hqy, hqz⟩, e12⟩ := hg
    obtain ⟨ls1, Y1, C1, a1, W1, co1, y1⟩ := p1.wk X hP hw hK pins s σ H xs I hqx
    obtain ⟨ls2, Y2, C2, a2, W2, co2, y2⟩ := p2.wk X hP hw hK pins s σ H ys I hqy
    obtain ⟨ls3, Y3, C3, a3, W3, co3, y3⟩ := p3.wk X hP hw hK pins s σ H zs I hqz
    subst hP hw hK
    have D : Ap3 (I0 + 5) (I0 + 3) (I0 + 4) I0 (I0 + 1) (I0 + 2) (ls1 ++ (ls2 ++ ls3)) := ⟨by simp, fun c hc => by
      have : c < I0 := by
        rcases List.mem_append.mp hc with h | h
        · exact a1 c h
        · rcases List.mem_append.mp h with h | h
          · exact a2 c h
          · exact a3 c h
      exact ap3_lt I0 c this⟩
    refine z3_pyEnd (I.ok.hd hc) W1 W2 W3 D hz hTI hTO m1 m2 m3 co1 co2 co3 e12 fun h2 tk hk => ⟨rfl, ?_⟩
    refine I.turnedL (t' := tk) (ch := [I0 + 5, I0 + 3, I0 + 4, I0, I0 + 1, I0 + 2]) (fun c o hb q => ?_) hf
    simp only [List.mem_cons, List.not_mem_nil, or_false, not_or] at hb
    exact hk c o hb.1 hb.2.2.1 hb.2.2.2.1 hb.2.2.2.2.1 hb.2.2.2.2.2 q
  self := fun A i s Q E st h => wpAny_pyIter_zip st.1 h
theorem cp_begin {X : Cx} {pins : List (Addr × Obj)} {σ : L2.St} {H : Hp} {s : Shared} (I : Inv X pins σ H s) {c : Cp} {xs : List V} (hq : CpIt X.K H c xs) {u : Value} (r : RelV c.v u) :
    ∃ ob Cn, Begins u ob Cn ∧ Cn s.heap ∧ ∀ it, ∃ St, Prt X.prog X.w X.K c it s.heap.objs.size St ∧ ∀ h' : Heap, h'.get? it = some ob → St 0 h' := by
  cases c with
  | t a =>
    cases r
    obtain ⟨its, rv, t1, _⟩ := I.tuple hq
    have la : a < s.heap.objs.size := by
      obtain ⟨o, ho, _⟩ := t1
      exact Heap.lt_size ho
    exact ⟨_, _, begins_tuple a its.toArray, t1, fun it => ⟨_, prt_t la, fun h' e => ⟨_, e, rfl, rfl⟩⟩⟩
  | l a =>
    cases r
    obtain ⟨its, rv, t1, _⟩ := I.list hq
    exact ⟨_, _, begins_list a its.toArray, t1.isList, fun it => ⟨_, prt_l t1.lt, fun h' e => ⟨_, e, rfl, rfl⟩⟩⟩
  | s x =>
    obtain ⟨t, rfl⟩ := r
    have hty : strIterType x = "str_ascii_iterator" ∨ strIterType x = "str_iterator" := by
      unfold strIterType
      split
      · exact .inl rfl
      · exact .inr rfl
    exact ⟨_, _, begins_text x t, trivial, fun it => ⟨_, prt_s (t := t) hty, fun h' e => ⟨_, e, rfl, rfl⟩⟩⟩
def iZip3 (K : PySem.W.Frag) (ta : TA) : TI := fun σ H R => ta σ H fun vs H1 => ∃ c d e xs ys zs, vs = [c.v, d.v, e.v] ∧ CpIt K H1 c xs ∧ CpIt K H1 d ys ∧ CpIt K H1 e zs ∧ R (Itz3 K c d e) H1
theorem pi_zip3 {X : Cx} {e e2 e3 : Expr} {ta : TA} {p pos tpos : Pos} {elts : List Expr} {kk : Nat} (hg : Gl X "zip") (hm : X.mg "zip" = none) (ha : PA X [e, e2, e3] ta)
    (hs : starEach [e, e2, e3] X.env = (false, eval e X.env) :: starEach [e2, e3] X.env := by rfl) (hpl : (backTo pos (starEach [e2, e3] X.env)).any (·.1) = false := by rfl) :
    PI X (.Tuple elts kk tpos) (.Call (.Name "zip" p) [e, e2, e3] [] pos) (iZip3 X.K ta) := by
  refine ⟨fun pins s σ H R I h => ?_⟩
  refine Call_ (ld_blt I hg hm boot_zip (callWith_type1 (thn (ha.run pos pins s σ H _ I h) fun us s1 ⟨vs, H1, I1, r1, q1⟩ => ?_) hs hpl))
  obtain ⟨c, d, e, xs, ys, zs, rfl, hc, hd, he, q⟩ := q1
  cases r1 with
  | cons ra rr =>
    cases rr with
    | cons rb rr =>
      cases rr with
      | cons rc rr =>
        cases rr
        obtain ⟨o1, C1, i1, c1, k1⟩ := cp_begin I1 hc ra
        obtain ⟨o2, C2, i2, c2, k2⟩ := cp_begin I1 hd rb
        obtain ⟨o3, C3, i3, c3, k3⟩ := cp_begin I1 he rc
        obtain ⟨S1, p1, z1⟩ := k1 s1.heap.objs.size
        obtain ⟨S2, p2, z2⟩ := k2 (s1.heap.objs.size + 1)
        obtain ⟨S3, p3, z3⟩ := k3 (s1.heap.objs.size + 2)
        refine zip_begins3 i1 i2 i3 c1 c2 c3 fun h' hz hTI hTO g1 g2 g3 _ hk => wpAny_pyIter_zip hz ?_
        have I2 : Inv X pins σ H1 { s1 with heap := h' } := I1.kept (t' := s1.toks) hk
        refine ⟨s1.heap.objs.size + 5, [s1.heap.objs.size + 5, s1.heap.objs.size + 3, s1.heap.objs.size + 4, s1.heap.objs.size, s1.heap.objs.size + 1, s1.heap.objs.size + 2], _, _, H1, rfl, I2, turn_zip3 p1 p2 p3, ⟨hz, hTI, ⟨_, _, _, hTO⟩, z1 _ g1, z2 _ g2, z3 _ g3⟩, fun c hcm => ?_, q⟩
        have le : s1.heap.objs.size ≤ c := by
          simp only [List.mem_cons, List.not_mem_nil, or_false] at hcm
          rcases hcm with rfl | rfl | rfl | rfl | rfl | rfl
          · exact Nat.le_add_right _ _
          · exact Nat.le_add_right _ _
          · exact Nat.le_add_right _ _
          · exact Nat.le_refl _
          · exact Nat.le_add_right _ _
          · exact Nat.le_add_right _ _
        exact I1.fpOk le (I1.hok.fresh le)
/-! ### at the level of data -/
def zipD3 : List D → List D → List D → List D
  | x :: xs, y :: ys, z :: zs => .tuple [x, y, z] :: zipD3 xs ys zs
  | _, _, _ => []
theorem zipD3_get : ∀ {xs ys zs : List D} {i : Nat} {v : D}, (zipD3 xs ys zs)[i]? = some v → ∃ x y z, xs[i]? = some x ∧ ys[i]? = some y ∧ zs[i]? = some z ∧ v = .tuple [x, y, z]
  | x :: xs, y :: ys, z :: zs, 0, v, h => by
    cases h
    exact ⟨x, y, z, rfl, rfl, rfl, rfl⟩
  | x :: xs, y :: ys, z :: zs, i + 1, v, h => zipD3_get (xs := xs) (ys := ys) (zs := zs) h
  | [], _, _, i, v, h => by simp [zipD3] at h
  | _ :: _, [], _, i, v, h => by simp [zipD3] at h
  | _ :: _, _ :: _, [], i, v, h => by simp [zipD3] at h
theorem zipD3_len : ∀ {xs ys zs : List D} {i : Nat}, (zipD3 xs ys zs).length ≤ i → xs.length ≤ i ∨ ys.length ≤ i ∨ zs.length ≤ i
  | [], _, _, i, _ => .inl (Nat.zero_le _)
  | _ :: _, [], _, i, _ => .inr (.inl (Nat.zero_le _))
  | _ :: _, _ :: _, [], i, _ => .inr (.inr (Nat.zero_le _))
  | x :: xs, y :: ys, z :: zs, 0, h => by simp [zipD3] at h
  | x :: xs, y :: ys, z :: zs, i + 1, h => by
    have := zipD3_len (xs := xs) (ys := ys) (zs := zs) (i := i) (by simpa [zipD3] using h)
    simp only [List.length_cons]
    omega
theorem itd_zip3 {K : PySem.W.Frag} {G : Hp} {c d e : Cp} {us ws rs : List V} {xs ys zs : List D} (h1 : ∀ G1, Pub G G1 → CpIt K G1 c us) (h2 : DrAll K G us xs) (k1 : ∀ G1, Pub G G1 → CpIt K G1 d ws) (k2 : DrAll K G ws ys) (l1 : ∀ G1, Pub G G1 → CpIt K G1 e rs) (l2 : DrAll K G rs zs) : ItD K G (Itz3 K c d e) (zipD3 xs ys zs) := fun G1 H1 s1 s2 i => by
  have q := h1 H1 (s2.before s1)
  have r := k1 H1 (s2.before s1)
  have t := l1 H1 (s2.before s1)
  refine ⟨fun v hv => ?_, fun hle => ?_⟩
  · obtain ⟨x, y, z, hx, hy, hz, rfl⟩ := zipD3_get hv
    obtain ⟨u1, eu, du⟩ := dpAll_get h2 hx
    obtain ⟨t1, et, dt⟩ := dpAll_get k2 hy
    obtain ⟨r1, er, dr⟩ := dpAll_get l2 hz
    refine ⟨⟨us, ws, rs, u1, t1, r1, ⟨q, r, t⟩, eu, et, er⟩, fun v2 H2 z => ?_⟩
    obtain ⟨T, x2, y2, w2, rfl, hT, rfl, z1, z2, z3⟩ := z
    have e1 := z1 us q
    have e2 := z2 ws r
    have e3 := z3 rs t
    rw [eu] at e1
    rw [et] at e2
    rw [er] at e3
    cases e1
    cases e2
    cases e3
    have sg := s1.trans (same_upd (o := .tup [u1, t1, r1]) (s2.free hT))
    exact ⟨_, Grow.new1 s2 hT, .tup (SqT.of upd_same) (.cons (dp_same sg du) (.cons (dp_same sg dt) (.cons (dp_same sg dr) .nil)))⟩
  · refine ⟨us, ws, rs, ⟨q, r, t⟩, ?_⟩
    rw [dpAll_len h2, dpAll_len k2, dpAll_len l2]
    exact zipD3_len hle
def miZip3 (a : MA) : MI := fun env P => a env fun as e1 => match as with
  | [.d x, .d y, .d z] => ∃ xs ys zs, itD x = some xs ∧ itD y = some ys ∧ itD z = some zs ∧ P (zipD3 xs ys zs) e1
  | _ => False
theorem gi_zip3 {X : Cx} {e e2 e3 : Expr} {m1 : MA} {n1 : Nat} {p pos tpos : Pos} {elts : List Expr} {kk : Nat} (hg : Gl X "zip") (hm : X.mg "zip" = none) (ha : GA X [e, e2, e3] n1 m1) (hs : starEach [e, e2, e3] X.env = (false, eval e X.env) :: starEach [e2, e3] X.env := by rfl) (hpl : (backTo pos (starEach [e2, e3] X.env)).any (·.1) = false := by rfl) :
    GI X (.Tuple elts kk tpos) (.Call (.Name "zip" p) [e, e2, e3] [] pos) n1 (miZip3 m1) := pi_imp (pi_zip3 hg hm ha hs hpl) fun σ H R h => by
  obtain ⟨W, B, G0, H0, G, env, P, Rl, hm1, q⟩ := h
  refine ⟨W, B, G0, H0, G, env, _, Rl, hm1, fun as e1 us G1 H1 p1 s1 R1 a1 => ?_⟩
  split at p1
  · obtain ⟨xs, ys, zs, hx, hy, hz, hP⟩ := p1
    cases a1 with
    | cons x1 y1 =>
      cases y1 with
      | cons y1 z1 =>
        cases z1 with
        | cons z1 n1 =>
          cases n1
          obtain ⟨c, vs, rfl, h1, h2⟩ := cp_of x1 hx
          obtain ⟨d, ws, rfl, k1, k2⟩ := cp_of y1 hy
          obtain ⟨f, rs, rfl, l1, l2⟩ := cp_of z1 hz
          exact ⟨c, d, f, vs, ws, rs, rfl, h1 _ R1.pub, k1 _ R1.pub, l1 _ R1.pub, q _ _ _ _ _ hP s1 R1 (itd_zip3 h1 h2 k1 k2 l1 l2)⟩
  · exact p1.elim
end DL
namespace DL
open PySem PySem.Spec PyProof.Rows L2
/-! ### data with numbers to a bound, lists, tuples, dicts under 0 -/
mutual
def ndx : D → Nat
  | .list xs => ndxA xs + 1
  | .tuple xs => ndxA xs + 1
  | .dict ks => ndxK ks + 1
  | _ => 1
def ndxA : List D → Nat
  | [] => 0
  | x :: r => ndx x + ndxA r
def ndxK : List (D × D) → Nat
  | [] => 0
  | (_, x) :: r => ndx x + 1 + ndxK r
end
mutual
def mdx (B : Nat) : D → Bool
  | .none => true
  | .bool _ => true
  | .int i => decide (i.natAbs ≤ B)
  | .str z => decide (z.cps.size ≤ 100) && z.cps.toList.all fun c => decide (c < 16 ^ 8)
  | .list xs => mdxA B xs
  | .tuple xs => mdxA B xs
  | .dict ks => mdxK B ks
def mdxA (B : Nat) : List D → Bool
  | [] => true
  | x :: r => mdx B x && mdxA B r
def mdxK (B : Nat) : List (D × D) → Bool
  | [] => true
  | (.int i, x) :: r => decide (i = 0) && (mdx B x && mdxK B r)
  | _ :: _ => false
end
theorem ndx_pos (x : D) : 1 ≤ ndx x := by cases x <;> simp [ndx]
mutual
theorem mdx_show {B : Nat} (hB : B < 2 ^ 136) : ∀ x : D, mdx B x = true → x.showable = true ∧ x.leavesShort 50 = true ∧ x.weight + 1 ≤ 142 * ndx x
  | .none, _ => ⟨rfl, rfl, by simp [PyData.weight, ndx]⟩
  | .bool _, _ => ⟨rfl, rfl, by simp [PyData.weight, ndx]⟩
  | .int i, h => by
    have h : i.natAbs < 2 ^ 136 := by
      have : i.natAbs ≤ B := by simpa [mdx] using h
      omega
    have l : i.natAbs.log2 ≤ 135 := by
      by_cases z : i.natAbs = 0
      · rw [z]
        decide
      · have := (Nat.log2_lt z (k := 136)).mpr h
        omega
    refine ⟨?_, ?_, ?_⟩
    · simp only [PyData.showable, decide_eq_true_eq]
      omega
    · simp only [PyData.leavesShort]
      exact decide_eq_true (Nat.le_trans (shown_mid h) (by decide))
    · simp only [PyData.weight, ndx]
      split <;> omega
  | .str z, h => by
    simp only [mdx, Bool.and_eq_true, decide_eq_true_eq] at h
    refine ⟨rfl, h.2, ?_⟩
    simp only [PyData.weight, ndx]
    omega
  | .tuple xs, h => by
    obtain ⟨h1, h3, h4⟩ := mdxA_show hB xs (by simpa [mdx] using h)
    refine ⟨by simpa [PyData.showable] using h1, by simpa [PyData.leavesShort] using h3, ?_⟩
    simp only [PyData.weight, ndx]
    omega
  | .list xs, h => by
    obtain ⟨h1, h3, h4⟩ := mdxA_show hB xs (by simpa [mdx] using h)
    refine ⟨by simpa [PyData.showable] using h1, by simpa [PyData.leavesShort] using h3, ?_⟩
    simp only [PyData.weight, ndx]
    omega
  | .dict ks, h => by
    obtain ⟨h1, h3, h4⟩ := mdxK_show hB ks (by simpa [mdx] using h)
    refine ⟨by simpa [PyData.showable] using h1, by simpa [PyData.leavesShort] using h3, ?_⟩
    simp only [PyData.weight, ndx]
    omega
theorem mdxA_show {B : Nat} (hB : B < 2 ^ 136) : ∀ xs : List D, mdxA B xs = true → PyData.showableAll xs = true ∧ PyData.leavesShortAll 50 xs = true ∧ PyData.weightAll xs ≤ 142 * ndxA xs
  | [], _ => ⟨rfl, rfl, by simp [PyData.weightAll]⟩
  | x :: r, h => by
    simp only [mdxA, Bool.and_eq_true] at h
    obtain ⟨a1, a3, a4⟩ := mdx_show hB x h.1
    obtain ⟨b1, b3, b4⟩ := mdxA_show hB r h.2
    refine ⟨by simp [PyData.showableAll, a1, b1], by simp [PyData.leavesShortAll, a3, b3], ?_⟩
    simp only [PyData.weightAll, ndxA]
    omega
theorem mdxK_show {B : Nat} (hB : B < 2 ^ 136) : ∀ ks : List (D × D), mdxK B ks = true → PyData.showableKv ks = true ∧ PyData.leavesShortKv 50 ks = true ∧ PyData.weightKv ks ≤ 142 * ndxK ks
  | [], _ => ⟨rfl, rfl, by simp [PyData.weightKv]⟩
  | (.int i, x) :: r, h => by
    simp only [mdxK, Bool.and_eq_true, decide_eq_true_eq] at h
    obtain ⟨rfl, h1, h2⟩ := h
    obtain ⟨a1, a3, a4⟩ := mdx_show hB x h1
    obtain ⟨b1, b3, b4⟩ := mdxK_show hB r h2
    have k3 : (PyData.int 0).leavesShort 50 = true := by
      simp only [PyData.leavesShort]
      exact decide_eq_true (Nat.le_trans (shown_mid (by decide)) (by decide))
    refine ⟨by simp [PyData.showableKv, PyData.showable, a1, b1], by simp [PyData.leavesShortKv, k3, a3, b3], ?_⟩
    simp only [PyData.weightKv, PyData.weight, ndxK]
    simp
    omega
  | (.none, x) :: r, h => by simp [mdxK] at h
  | (.bool _, x) :: r, h => by simp [mdxK] at h
  | (.str _, x) :: r, h => by simp [mdxK] at h
  | (.list _, x) :: r, h => by simp [mdxK] at h
  | (.tuple _, x) :: r, h => by simp [mdxK] at h
  | (.dict _, x) :: r, h => by simp [mdxK] at h
end
def Mx (B d n : Nat) (x : D) : Prop := mdx B x = true ∧ x.depth ≤ d ∧ ndx x ≤ n
def MxA (B d n : Nat) (xs : List D) : Prop := mdxA B xs = true ∧ PyData.depthAll xs ≤ d ∧ ndxA xs ≤ n
theorem Mx.repr {B d n : Nat} {x : D} (h : Mx B d n x) (hB : B < 2 ^ 136) (hd : d ≤ 60) (hn : n ≤ 2200) : x.showable = true ∧ x.depth ≤ 60 ∧ x.shown.length ≤ sizeLine := by
  obtain ⟨h1, h3, h4⟩ := mdx_show hB x h.1
  have hs := PyData.shown_le 50 (by decide) x h3
  have n2 := h.2.2
  refine ⟨h1, Nat.le_trans h.2.1 hd, ?_⟩
  rw [sizeLine_eq]
  omega
mutual
theorem mdx_le {B C : Nat} (h : B ≤ C) : ∀ x : D, mdx B x = true → mdx C x = true
  | .none, _ => rfl
  | .bool _, _ => rfl
  | .int i, q => by
    simp only [mdx, decide_eq_true_eq] at q ⊢
    omega
  | .str _, q => by simpa [mdx] using q
  | .list xs, q => by
    rw [mdx] at q ⊢
    exact mdxA_le h xs q
  | .tuple xs, q => by
    rw [mdx] at q ⊢
    exact mdxA_le h xs q
  | .dict ks, q => by
    rw [mdx] at q ⊢
    exact mdxK_le h ks q
theorem mdxA_le {B C : Nat} (h : B ≤ C) : ∀ xs : List D, mdxA B xs = true → mdxA C xs = true
  | [], _ => rfl
  | x :: r, q => by
    rw [mdxA, Bool.and_eq_true] at q ⊢
    exact ⟨mdx_le h x q.1, mdxA_le h r q.2⟩
theorem mdxK_le {B C : Nat} (h : B ≤ C) : ∀ ks : List (D × D), mdxK B ks = true → mdxK C ks = true
  | [], _ => rfl
  | (.int i, x) :: r, q => by
    rw [mdxK, Bool.and_eq_true, Bool.and_eq_true] at q ⊢
    exact ⟨q.1, mdx_le h x q.2.1, mdxK_le h r q.2.2⟩
  | (.none, x) :: r, h => by simp [mdxK] at h
  | (.bool _, x) :: r, h => by simp [mdxK] at h
  | (.str _, x) :: r, h => by simp [mdxK] at h
  | (.list _, x) :: r, h => by simp [mdxK] at h
  | (.tuple _, x) :: r, h => by simp [mdxK] at h
  | (.dict _, x) :: r, h => by simp [mdxK] at h
end
section
variable {B C d n m e d' n' : Nat} {x : D} {xs ys : List D}
theorem Mx.le (h : Mx B d n x) (hB : B ≤ C) (hd : d ≤ d') (hn : n ≤ n') : Mx C d' n' x := ⟨mdx_le hB x h.1, Nat.le_trans h.2.1 hd, Nat.le_trans h.2.2 hn⟩
theorem MxA.le (h : MxA B d n xs) (hB : B ≤ C) (hd : d ≤ d') (hn : n ≤ n') : MxA C d' n' xs := ⟨mdxA_le hB xs h.1, Nat.le_trans h.2.1 hd, Nat.le_trans h.2.2 hn⟩
theorem mx_int {i : Int} (h : i.natAbs ≤ B) : Mx B 0 1 (.int i) := ⟨by simpa [mdx] using h, by simp [PyData.depth], by simp [ndx]⟩
theorem mx_none : Mx B 0 1 .none := ⟨rfl, by simp [PyData.depth], by simp [ndx]⟩
theorem mx_bool {b : Bool} : Mx B 0 1 (.bool b) := ⟨rfl, by simp [PyData.depth], by simp [ndx]⟩
theorem mx_str {z : Str} (h : mdx 0 (.str z) = true) : Mx B 0 1 (.str z) := ⟨by simpa [mdx] using h, by simp [PyData.depth], by simp [ndx]⟩
theorem mx_nil : MxA B d n [] := ⟨rfl, by simp [PyData.depthAll], by simp [ndxA]⟩
theorem mx_cons (h : Mx B d n x) (t : MxA B d m xs) : MxA B d (n + m) (x :: xs) :=
  ⟨by rw [mdxA, h.1, t.1]; rfl, by rw [PyData.depthAll]; exact Nat.max_le.mpr ⟨h.2.1, t.2.1⟩, by rw [ndxA]; exact Nat.add_le_add h.2.2 t.2.2⟩
theorem mx_tup (h : MxA B d n xs) : Mx B (d + 1) (n + 1) (.tuple xs) :=
  ⟨by rw [mdx]; exact h.1, by rw [PyData.depth]; exact Nat.add_le_add_right h.2.1 1, by rw [ndx]; exact Nat.add_le_add_right h.2.2 1⟩
theorem mx_lst (h : MxA B d n xs) : Mx B (d + 1) (n + 1) (.list xs) :=
  ⟨by rw [mdx]; exact h.1, by rw [PyData.depth]; exact Nat.add_le_add_right h.2.1 1, by rw [ndx]; exact Nat.add_le_add_right h.2.2 1⟩
theorem mx_dic0 : Mx B 1 1 (.dict []) := ⟨by rw [mdx]; rfl, by rw [PyData.depth, PyData.depthKv]; exact Nat.le_refl _, by rw [ndx, ndxK]; exact Nat.le_refl _⟩
theorem mx_dic1 (h : Mx B d n x) : Mx B (d + 1) (n + 2) (.dict [(.int 0, x)]) := by
  refine ⟨?_, ?_, ?_⟩
  · rw [mdx, mdxK, mdxK, h.1]
    rfl
  · have := h.2.1
    simp only [PyData.depth, PyData.depthKv]
    omega
  · have := h.2.2
    simp only [ndx, ndxK]
    omega
theorem mx_all : ∀ {xs : List D}, (∀ x ∈ xs, Mx B d n x) → MxA B d (n * xs.length) xs
  | [], _ => mx_nil
  | x :: xs, h => by
    have := mx_cons (h x List.mem_cons_self) (mx_all (xs := xs) fun y hy => h y (List.mem_cons_of_mem _ hy))
    refine this.le (Nat.le_refl _) (Nat.le_refl _) ?_
    rw [List.length_cons, Nat.mul_add]
    omega
theorem MxA.un (h : MxA B d n (x :: xs)) : Mx B d n x ∧ MxA B d n xs ∧ ndx x + ndxA xs ≤ n := by
  obtain ⟨h1, h2, h3⟩ := h
  rw [mdxA, Bool.and_eq_true] at h1
  rw [PyData.depthAll] at h2
  rw [ndxA] at h3
  exact ⟨⟨h1.1, Nat.le_trans (Nat.le_max_left _ _) h2, by omega⟩, ⟨h1.2, Nat.le_trans (Nat.le_max_right _ _) h2, by omega⟩, h3⟩
theorem MxA.app : ∀ {xs : List D} {n : Nat}, MxA B d n xs → MxA B d m ys → MxA B d (n + m) (xs ++ ys)
  | [], n, _, h => h.le (Nat.le_refl _) (Nat.le_refl _) (by omega)
  | x :: xs, n, h, h2 => by
    obtain ⟨a, b, c⟩ := h.un
    have t := MxA.app (n := ndxA xs) (xs := xs) ⟨b.1, b.2.1, Nat.le_refl _⟩ h2
    exact (mx_cons (n := ndx x) ⟨a.1, a.2.1, Nat.le_refl _⟩ t).le (Nat.le_refl _) (Nat.le_refl _) (by omega)
theorem MxA.take : ∀ {xs : List D} {n : Nat} (k : Nat), MxA B d n xs → MxA B d n (xs.take k)
  | [], n, k, h => by rw [List.take_nil]; exact h
  | x :: xs, n, 0, _ => mx_nil
  | x :: xs, n, k + 1, h => by
    obtain ⟨a, b, c⟩ := h.un
    have t := MxA.take (n := ndxA xs) k (xs := xs) ⟨b.1, b.2.1, Nat.le_refl _⟩
    exact (mx_cons (n := ndx x) ⟨a.1, a.2.1, Nat.le_refl _⟩ t).le (Nat.le_refl _) (Nat.le_refl _) c
theorem MxA.drop : ∀ {xs : List D} {n : Nat} (k : Nat), MxA B d n xs → MxA B d n (xs.drop k)
  | xs, n, 0, h => h
  | [], n, k + 1, h => h
  | x :: xs, n, k + 1, h => MxA.drop k h.un.2.1
theorem MxA.mem : ∀ {xs : List D} {x : D}, MxA B d n xs → x ∈ xs → Mx B d n x
  | y :: xs, x, h, hx => by
    rcases List.mem_cons.mp hx with rfl | hx
    · exact h.un.1
    · exact MxA.mem h.un.2.1 hx
theorem MxA.len : ∀ {xs : List D} {n : Nat}, MxA B d n xs → xs.length ≤ n
  | [], n, _ => Nat.zero_le _
  | x :: xs, n, h => by
    obtain ⟨a, b, c⟩ := h.un
    have := MxA.len (n := ndxA xs) (xs := xs) ⟨b.1, b.2.1, Nat.le_refl _⟩
    have hx := ndx_pos x
    rw [List.length_cons]
    omega
theorem MxA.rev (h : MxA B d n xs) : MxA B d n xs.reverse := by
  induction xs generalizing n with
  | nil => exact h
  | cons x xs ih =>
    obtain ⟨a, b, c⟩ := h.un
    rw [List.reverse_cons]
    have t := ih (n := ndxA xs) ⟨b.1, b.2.1, Nat.le_refl _⟩
    exact (t.app (mx_cons (n := ndx x) (m := 0) ⟨a.1, a.2.1, Nat.le_refl _⟩ mx_nil)).le (Nat.le_refl _) (Nat.le_refl _) (by omega)
theorem MxA.split {k : Nat} (h : xs[k]? = some x) : ndxA xs = ndxA (xs.take k) + ndx x + ndxA (xs.drop (k + 1)) := by
  induction xs generalizing k with
  | nil => simp at h
  | cons y xs ih =>
    cases k with
    | zero =>
      cases h
      rw [ndxA, List.take_zero, ndxA, List.drop_succ_cons, List.drop_zero]
      omega
    | succ k =>
      have := ih (k := k) h
      rw [ndxA, List.take_succ_cons, ndxA, List.drop_succ_cons, this]
      omega
theorem Mx.of_tup (h : Mx B d n (.tuple xs)) : MxA B (d - 1) (n - 1) xs ∧ 1 ≤ d ∧ 1 ≤ n := by
  obtain ⟨h1, h2, h3⟩ := h
  rw [mdx] at h1
  rw [PyData.depth] at h2
  rw [ndx] at h3
  exact ⟨⟨h1, by omega, by omega⟩, by omega, by omega⟩
end
end DL
namespace DL
open PySem PySem.Spec PyProof.Rows L2
/-! ### objects that are written: read and stored in their slots -/
/-- x[e], x a list that is written -/
def mIxM (i : Nat) (mb : ME) : ME := fun env P => (∃ w xs, env[i]? = some (.mo w (.lst xs))) ∧ mb env fun y e1 => match e1[i]?, y with
  | some (.mo _ (.lst xs)), .int k => ∃ x, atI xs k = some x ∧ P x e1
  | _, _ => False
/-- x[k] = e -/
def sIxM (i : Nat) (mv mk : ME) : MS := fun E env => mv env fun x e1 => (∃ w xs, e1[i]? = some (.mo w (.lst xs))) ∧ mk e1 fun y e2 => match e2[i]?, y with
  | some (.mo w (.lst xs)), .int k => ∃ j, ixN xs.length k = some j ∧ E.nx (e2.set i (.mo w (.lst (xs.set j x))))
  | _, _ => False
/-- len(x) -/
def mLenM (i : Nat) : ME := fun env P => match env[i]? with
  | some (.mo _ (.lst xs)) => P (.int xs.length) env
  | _ => False
section
variable {X : Cx} {e b : Expr} {i : Nat} {x : Str} {px p pos pos' : Pos} {mb mv : ME} {nb nv : Nat}
theorem ge_ixM (i : Nat) {x : Str} {b : Expr} (hb : GE X b nb mb) (hs : PlainIx b) (hN : X.N[i]? = some x := by rfl) (hv : Vis X.env.scope x := by first | exact Or.inl rfl | exact Or.inr (Or.inl rfl) | exact Or.inr (Or.inr rfl)) (hd : (x == ("__debug__" : Str)) = false := by decide)
    (hcd : (x == ("__classdict__" : Str)) = false := by decide) : GE X (.Subscript (.Name x px) b pos) nb (mIxM i mb) := pe_imp (pe_ix ix_list (pe_var hN hv hd hcd) hb hs) fun σ H Q h => by
  obtain ⟨W, B, G0, H0, G, env, P, R, ⟨⟨w, xs, hx⟩, hm⟩, q⟩ := h
  obtain ⟨l, e1, _, _, vs, hl, hq⟩ := R.get_mo hx
  refine ⟨_, e1, W, B, G0, H0, G, env, _, R, hm, fun y e2 v G2 H2 p2 s2 R2 d2 => ?_⟩
  split at p2
  · rename_i w2 ys k hy
    obtain ⟨l2, f1, _, _, us, hl2, hq2⟩ := R2.get_mo hy
    rw [e1] at f1
    cases f1
    cases dp_int d2
    obtain ⟨z, ez, hP⟩ := p2
    obtain ⟨u, eu, du⟩ := dpAll_atI hq2 ez
    exact ⟨l, us, _, u, rfl, rfl, SqL.of hl2, eu, q _ _ _ _ _ hP s2 R2 du⟩
  · exact p2.elim
theorem gs_ixM (i : Nat) {x : Str} {e b : Expr} (he : GE X e nv mv) (hb : GE X b nb mb) (hN : X.N[i]? = some x := by rfl) (hv : Vis X.env.scope x := by first | exact Or.inl rfl | exact Or.inr (Or.inl rfl) | exact Or.inr (Or.inr rfl)) (hd : (x == ("__debug__" : Str)) = false := by decide)
    (hcd : (x == ("__classdict__" : Str)) = false := by decide)
    (ha : ∀ v, assign (.Subscript (.Name x px) b pos') X.env v = (do
      let ov ← holding [v] (eval (.Name x px) X.env)
      let iv ← holding [v, ov] (eval b X.env)
      standAt pos'
      holding [v, ov, iv] (setItem ov iv v)
      release [v, ov, iv] []) := by intro _; rfl)
    (hs : swapsWithSole [.Subscript (.Name x px) b pos'] e pos.line X.env = pure false := by rfl) (hw : swappedStores [.Subscript (.Name x px) b pos'] e X.env = pure none := by rfl)
    (h1 : (assignEach [.Subscript (.Name x px) b pos'] X.env).map (·.2) = [assign (.Subscript (.Name x px) b pos') X.env] := by rfl) :
    GS X (.Assign [.Subscript (.Name x px) b pos'] e pos) (nv + nb) (sIxM i mv mb) := ps_imp (ps_asg he (pg_sub (pe_var hN hv hd hcd) hb set_list ha) hs hw h1) fun D σ H h => by
  obtain ⟨W, B, G0, H0, G, env, E, R, hm, q⟩ := h
  refine ⟨W, B + nb, G0, H0, G, env, _, R.le (by omega), hm, fun x e1 v G1 H1 p1 s1 R1 d1 => ?_⟩
  obtain ⟨⟨w, xs, hx⟩, p1⟩ := p1
  obtain ⟨l, f1, _, _, vs, hl, hq⟩ := R1.get_mo hx
  refine ⟨_, f1, W, B, G0, H0, G1, e1, _, R1, p1, fun y e2 u G2 H2 p2 s2 R2 d2 => ?_⟩
  split at p2
  · rename_i w2 ys k hy
    obtain ⟨l2, f2, _, _, us, hl2, hq2⟩ := R2.get_mo hy
    rw [f1] at f2
    cases f2
    cases dp_int d2
    obtain ⟨j, ej, hP⟩ := p2
    refine ⟨l, us, _, j, rfl, rfl, hl2, by rw [dpAll_len hq2]; exact ej, ?_⟩
    exact q.nx _ _ _ _ hP (s1.trans s2) (R2.put hy f1 ⟨_, upd_same, dpAll_set (dp_same s2 d1) j hq2⟩)
  · exact p2.elim
end
/-! ### calls to which objects are lent -/
abbrev SpM := List EV → (D → List SC → Prop) → Prop
inductive ArgsM (K : PySem.W.Frag) (k : Wk) (σ : L2.St) (G : Hp) : List V → List EV → Prop
  | nil : ArgsM K k σ G [] []
  | cons {v : V} {vs : List V} {a : EV} {as : List EV} : ArgOk K k G a v → ArgsM K k σ G vs as → ArgsM K k σ G (v :: vs) (a :: as)
  | at {i : Nat} {v : V} {vs : List V} {as : List EV} : σ[i]? = some (some v) → ArgsM K k σ G vs as → ArgsM K k σ G (v :: vs) (.at i :: as)
theorem argOk_same {K : PySem.W.Frag} {k : Wk} {G G' : Hp} {a : EV} {v : V} (e : Same G G') (h : ArgOk K k G a v) : ArgOk K k G' a v := by
  cases a with
  | d x => exact dp_same (v := v) e h
  | hd => exact h
  | un => exact h.elim
  | mo _ _ => exact h.elim
  | «at» _ => exact h.elim
theorem argsM_same {K : PySem.W.Frag} {k : Wk} {σ : L2.St} {G G' : Hp} (e : Same G G') : ∀ {vs : List V} {as : List EV}, ArgsM K k σ G vs as → ArgsM K k σ G' vs as
  | _, _, .nil => .nil
  | _, _, .cons a t => .cons (argOk_same e a) (argsM_same e t)
  | _, _, .at a t => .at a (argsM_same e t)
def tB (K : PySem.W.Frag) (n : Nat) (m : MA) : TA := fun σ H Q => ∃ (W : Wd) (B : Nat) (G0 H0 G : Hp) (env : DEnv) (P : List EV → DEnv → Prop), Rel K W (B + n) G0 H0 G env σ H ∧ m env P ∧
  ∀ as env' vs G' H', P as env' → Same G G' → Rel K W B G0 H0 G' env' σ H' → ArgsM K W.dk σ G' vs as → Q vs H'
abbrev GB (X : Cx) (es : List Expr) (n : Nat) (m : MA) : Prop := PA X es (tB X.K n m)
section
variable {X : Cx} {e : Expr} {es : List Expr} {pos : Pos} {me : ME} {m1 : MA} {ne n1 : Nat}
theorem gb_nil : GB X [] 0 mNil := pa_imp pa_nil fun σ H Q h => by
  obtain ⟨W, B, G0, H0, G, env, P, R, hm, q⟩ := h
  exact q _ _ _ _ _ hm (Same.refl _) R .nil
theorem gb_cons (ha : GE X e ne me) (hr : GB X es n1 m1) (hs : starEach (e :: es) X.env = (false, eval e X.env) :: starEach es X.env := by rfl) : GB X (e :: es) (ne + n1) (mCons me m1) := pa_imp (pa_cons ha hr hs) fun σ H Q h => by
  obtain ⟨W, B, G0, H0, G, env, P, R, hm, q⟩ := h
  refine ⟨W, B + n1, G0, H0, G, env, _, R.le (by omega), hm, fun x e1 v G1 H1 p1 s1 R1 d1 => ⟨W, _, G0, H0, G1, e1, _, R1, p1, fun as e2 vs G2 H2 p2 s2 R2 d2 => ?_⟩⟩
  exact q _ e2 _ G2 H2 p2 (s1.trans s2) R2 (.cons (a := .d x) (dp_same s2 d1) d2)
theorem gb_hd (i : Nat) {x : Str} (hr : GB X es n1 m1) (hN : X.N[i]? = some x := by rfl) (hv : Vis X.env.scope x := by first | exact Or.inl rfl | exact Or.inr (Or.inl rfl) | exact Or.inr (Or.inr rfl)) (hd : (x == ("__debug__" : Str)) = false := by decide)
    (hcd : (x == ("__classdict__" : Str)) = false := by decide) (hs : starEach (.Name x pos :: es) X.env = (false, eval (.Name x pos) X.env) :: starEach es X.env := by rfl) : GB X (.Name x pos :: es) n1 (mConsH i m1) := pa_imp (pa_cons (pe_var hN hv hd hcd) hr hs) fun σ H Q h => by
  obtain ⟨W, B, G0, H0, G, env, P, R, hm, q⟩ := h
  unfold mConsH at hm
  split at hm
  · obtain ⟨e1, nn⟩ := R.get_hd (by assumption)
    refine ⟨_, e1, W, B, G0, H0, G, env, _, R, hm, fun as e2 vs G2 H2 p2 s2 R2 d2 => ?_⟩
    exact q _ e2 _ G2 H2 p2 s2 R2 (.cons (a := .hd) ⟨rfl, nn⟩ d2)
  · exact hm.elim
theorem gb_mo (i : Nat) {x : Str} (hr : GB X es n1 m1) (hN : X.N[i]? = some x := by rfl) (hv : Vis X.env.scope x := by first | exact Or.inl rfl | exact Or.inr (Or.inl rfl) | exact Or.inr (Or.inr rfl)) (hd : (x == ("__debug__" : Str)) = false := by decide)
    (hcd : (x == ("__classdict__" : Str)) = false := by decide) (hs : starEach (.Name x pos :: es) X.env = (false, eval (.Name x pos) X.env) :: starEach es X.env := by rfl) : GB X (.Name x pos :: es) n1 (mConsM i m1) := pa_imp (pa_cons (pe_var hN hv hd hcd) hr hs) fun σ H Q h => by
  obtain ⟨W, B, G0, H0, G, env, P, R, hm, q⟩ := h
  unfold mConsM at hm
  split at hm
  · obtain ⟨l, e1, _⟩ := R.get_mo (by assumption)
    refine ⟨_, e1, W, B, G0, H0, G, env, _, R, hm, fun as e2 vs G2 H2 p2 s2 R2 d2 => ?_⟩
    exact q _ e2 _ G2 H2 p2 s2 R2 (.at e1 d2)
  · exact hm.elim
end
/-- the arguments as the callee sees them: the slots' contents, numbered -/
def resM : List EV → DEnv → Nat → Option (List EV)
  | [], _, _ => some []
  | .at i :: r, e, n => match e[i]? with
    | some (.mo _ c) => (resM r e (n + 1)).map (.mo (some n) c :: ·)
    | _ => none
  | a :: r, e, n => (resM r e n).map (a :: ·)
/-- the slots that are lent -/
def atsM : List EV → List Nat
  | [] => []
  | .at i :: r => i :: atsM r
  | _ :: r => atsM r
/-- the new contents put back -/
def putM : DEnv → List Nat → List SC → DEnv
  | e, i :: is, c :: cs => match e[i]? with
    | some (.mo w _) => putM (e.set i (.mo w c)) is cs
    | _ => putM e is cs
  | e, _, _ => e
def mCallM (sp : SpM) (a : MA) : ME := fun env P => a env fun as e1 => (atsM as).Nodup ∧ ∃ as', resM as e1 0 = some as' ∧ sp as' fun x cs => P x (putM e1 (atsM as) cs)
/-- the callee's arguments: the lent ones in order from n on -/
inductive ArgsL (K : PySem.W.Frag) (k : Wk) (sh : List Addr) (G H : Hp) : Nat → List V → List EV → Prop
  | nil : ArgsL K k sh G H sh.length [] []
  | cons {n : Nat} {v : V} {vs : List V} {a : EV} {as : List EV} : ArgOk K k G a v → ArgsL K k sh G H n vs as → ArgsL K k sh G H n (v :: vs) (a :: as)
  | mo {n : Nat} {l : Addr} {c : SC} {vs : List V} {as : List EV} : sh[n]? = some l → ScOk K G H l c → ArgsL K k sh G H (n + 1) vs as → ArgsL K k sh G H n (.ref l :: vs) (.mo (some n) c :: as)
theorem argsL_len {K : PySem.W.Frag} {k : Wk} {sh : List Addr} {G H : Hp} : ∀ {n : Nat} {vs : List V} {as : List EV}, ArgsL K k sh G H n vs as → vs.length = as.length
  | _, _, _, .nil => rfl
  | _, _, _, .cons _ t => congrArg (· + 1) (argsL_len t)
  | _, _, _, .mo _ _ t => congrArg (· + 1) (argsL_len t)
/-- a def's promise: as spD, the contents of what was lent told, too -/
def spDM (K : PySem.W.Frag) (c : Nat) (sp : SpM) : Sp := fun vs H Q _ => ∃ (W : Wd) (B : Nat) (G : Hp) (as : List EV) (P : D → List SC → Prop), W.sh.Nodup ∧ RW W (B + c) G H G H ∧ ArgsL K W.dk W.sh G H 0 vs as ∧ sp as P ∧
  ∀ x v cs G' H', P x cs → RW W B G H G' H' → (∀ (j : Nat) l, W.sh[j]? = some l → ∃ c', cs[j]? = some c' ∧ ScOk K G' H' l c') → Dr K G' v x → Q v H'
end DL
namespace DL
open PySem PySem.Spec PyProof.Rows L2
section
variable {K : PySem.W.Frag} {k : Wk} {sh : List Addr} {G H : Hp}
theorem argsL_get : ∀ {n i : Nat} {vs : List V} {as : List EV} {a : EV}, ArgsL K k sh G H n vs as → as[i]? = some a →
    ∃ v, vs[i]? = some v ∧ (ArgOk K k G a v ∨ ∃ j l c, a = .mo (some j) c ∧ v = .ref l ∧ sh[j]? = some l ∧ ScOk K G H l c ∧ n ≤ j)
  | _, 0, _, _, _, .cons a _, h => by
    cases h
    exact ⟨_, rfl, .inl a⟩
  | n, 0, _, _, _, .mo h1 h2 _, h => by
    cases h
    exact ⟨_, rfl, .inr ⟨n, _, _, rfl, rfl, h1, h2, Nat.le_refl _⟩⟩
  | _, i + 1, _, _, _, .cons _ t, h => argsL_get (i := i) t h
  | n, i + 1, _, _, _, .mo _ _ t, h => by
    obtain ⟨v, e, q⟩ := argsL_get (i := i) t h
    refine ⟨v, e, ?_⟩
    rcases q with q | ⟨j, l, c, r1, r2, r3, r4, r5⟩
    · exact .inl q
    · exact .inr ⟨j, l, c, r1, r2, r3, r4, by omega⟩
theorem argsL_lt : ∀ {n i i' : Nat} {vs : List V} {as : List EV} {j j' : Nat} {c c' : SC}, ArgsL K k sh G H n vs as → as[i]? = some (.mo (some j) c) → as[i']? = some (.mo (some j') c') → i < i' → j < j'
  | _, 0, _, _, _, _, _, _, _, .cons a _, h1, _, _ => by
    cases h1
    exact a.elim
  | n, 0, i' + 1, _, _, _, _, _, _, .mo _ _ t, h1, h2, _ => by
    cases h1
    obtain ⟨v, e, q⟩ := argsL_get t h2
    rcases q with q | ⟨j, l, c, r1, r2, r3, r4, r5⟩
    · exact q.elim
    · cases r1
      omega
  | _, i + 1, i' + 1, _, _, _, _, _, _, .cons _ t, h1, h2, hl => argsL_lt (i := i) (i' := i') t h1 h2 (by omega)
  | _, i + 1, i' + 1, _, _, _, _, _, _, .mo _ _ t, h1, h2, hl => argsL_lt (i := i) (i' := i') t h1 h2 (by omega)
end
theorem rel_startM {K : PySem.W.Frag} {W : Wd} {B : Nat} {G H : Hp} {vs : List V} {as : List EV} (N : List Str) (nd : W.sh.Nodup) (r : RW W B G H G H) (a : ArgsL K W.dk W.sh G H 0 vs as) : Rel K W B G H G (env0 N as) (L2.start N vs) H := by
  have hl := argsL_len a
  have key : ∀ (i : Nat) e s, (env0 N as)[i]? = some e → (L2.start N vs)[i]? = some s → e = .un ∨ (as[i]? = some e ∧ ∃ v, s = some v ∧ (ArgOk K W.dk G e v ∨ ∃ j l c, e = .mo (some j) c ∧ v = .ref l ∧ W.sh[j]? = some l ∧ ScOk K G H l c ∧ 0 ≤ j)) := fun i e s h1 h2 => by
    unfold env0 at h1
    unfold L2.start at h2
    by_cases hi : i < as.length
    · rw [List.getElem?_append_left hi] at h1
      rw [List.getElem?_append_left (by rw [List.length_map]; omega), List.getElem?_map] at h2
      obtain ⟨v, e1, q⟩ := argsL_get a h1
      rw [e1] at h2
      cases h2
      exact .inr ⟨h1, v, rfl, q⟩
    · rw [List.getElem?_append_right (by omega)] at h1
      obtain ⟨h3, h4⟩ := List.getElem?_eq_some_iff.mp h1
      rw [List.getElem_replicate] at h4
      exact .inl h4.symm
  have gm : ∀ l j, W.sh[j]? = some l → G l = none := fun l j h => r.gm l (.inr (List.mem_of_getElem? h))
  refine { r with len := ?_, slot := fun i e s h1 h2 => ?_, dis := fun i j wi ci wj cj l ne h1 h2 h3 h4 => ?_ }
  · unfold env0 L2.start
    rw [List.length_append, List.length_append, List.length_map, List.length_replicate, List.length_replicate, hl]
  · rcases key i e s h1 h2 with rfl | ⟨_, v, rfl, q | ⟨j, l, c, rfl, rfl, hj, hc, _⟩⟩
    · trivial
    · cases e with
      | un => trivial
      | d x => exact ⟨v, rfl, q⟩
      | mo w c => exact q.elim
      | «at» _ => trivial
      | hd => exact ⟨congrArg some q.1, q.2⟩
    · exact ⟨l, rfl, gm l j hj, hj, hc⟩
  · rcases key i _ _ h1 h3 with e | ⟨a1, v, ev, q | ⟨j1, l1, c1, e1, rfl, hj1, _, _⟩⟩
    · cases e
    · exact q.elim
    · rcases key j _ _ h2 h4 with e | ⟨a2, v2, ev2, q | ⟨j2, l2, c2, e2, rfl, hj2, _, _⟩⟩
      · cases e
      · exact q.elim
      · cases ev
        cases ev2
        cases e1
        cases e2
        have : j1 = j2 := by
          obtain ⟨b1, g1⟩ := List.getElem?_eq_some_iff.mp hj1
          obtain ⟨b2, g2⟩ := List.getElem?_eq_some_iff.mp hj2
          exact (List.getElem_inj (h₀ := b1) (h₁ := b2) nd).mp (g1.trans g2.symm)
        subst this
        rcases Nat.lt_or_gt_of_ne ne with h | h
        · exact absurd (argsL_lt a a1 a2 h) (Nat.lt_irrefl _)
        · exact absurd (argsL_lt a a2 a1 h) (Nat.lt_irrefl _)
/-- the contents of what was lent, at the end -/
def finM : List EV → DEnv → Option (List SC)
  | [], _ => some []
  | .mo (some n) _ :: r, .mo (some m) c :: e => if n = m then (finM r e).map (c :: ·) else none
  | .mo (some _) _ :: _, _ => none
  | _ :: r, _ :: e => finM r e
  | _ :: _, [] => none
theorem fin_ok {K : PySem.W.Frag} {k : Wk} {W : Wd} {G H H0 G' H' : Hp} : ∀ {n : Nat} {vs : List V} {as : List EV} {env : DEnv} {σ : L2.St} {cs : List SC}, ArgsL K k W.sh G H n vs as → finM as env = some cs → env.length = σ.length →
    (∀ (i : Nat) e s, env[i]? = some e → σ[i]? = some s → SlotOk K W H0 G' H' e s) → ∀ (j : Nat) l, W.sh[n + j]? = some l → ∃ c', cs[j]? = some c' ∧ ScOk K G' H' l c'
  | _, _, _, env, σ, cs, .nil, hf, hl, hs, j, l, hj => by
    rw [List.getElem?_eq_none (by omega)] at hj
    cases hj
  | n, _, _, env, σ, cs, .cons (a := a) h t, hf, hl, hs, j, l, hj => by
    cases env with
    | nil =>
      cases a with
      | mo w c => exact h.elim
      | un => cases hf
      | d x => cases hf
      | hd => cases hf
      | «at» i => cases hf
    | cons e env =>
      cases σ with
      | nil => cases hl
      | cons s σ =>
        have go : ∀ vs' as', finM as' env = some cs → ArgsL K k W.sh G H n vs' as' → ∃ c', cs[j]? = some c' ∧ ScOk K G' H' l c' := fun vs' as' hf' t' =>
          fin_ok t' hf' (by simpa using hl) (fun i e s h1 h2 => hs (i + 1) e s (by simpa using h1) (by simpa using h2)) j l hj
        cases a with
        | mo w c => exact h.elim
        | un => exact h.elim
        | d x => exact go _ _ (by simpa [finM] using hf) t
        | hd => exact go _ _ (by simpa [finM] using hf) t
        | «at» i => exact h.elim
  | n, _, _, env, σ, cs, .mo (l := l0) (c := c0) h1 h2 t, hf, hl, hs, j, l, hj => by
    cases env with
    | nil => cases hf
    | cons e env =>
      cases σ with
      | nil => cases hl
      | cons s σ =>
        cases e with
        | mo w c =>
          cases w with
          | none => cases hf
          | some m =>
            rw [finM] at hf
            by_cases z : n = m
            · rw [if_pos z] at hf
              subst z
              cases hr : finM _ env with
              | none =>
                rw [hr] at hf
                cases hf
              | some cs' =>
                rw [hr] at hf
                cases hf
                cases j with
                | zero =>
                  obtain ⟨l2, _, _, o2, q2⟩ := hs 0 _ s rfl rfl
                  have : l2 = l := by
                    have o2 : W.sh[n]? = some l2 := o2
                    rw [show n + 0 = n from rfl] at hj
                    rw [hj] at o2
                    cases o2
                    rfl
                  subst this
                  exact ⟨c, rfl, q2⟩
                | succ j =>
                  exact fin_ok t hr (by simpa using hl) (fun i e s h1 h2 => hs (i + 1) e s (by simpa using h1) (by simpa using h2)) j l (by rw [show n + 1 + j = n + (j + 1) by omega]; exact hj)
            · rw [if_neg z] at hf
              cases hf
        | un => cases hf
        | d x => cases hf
        | hd => cases hf
        | «at» i => cases hf
section
variable {P : Program} {w : World} {K : PySem.W.Frag} {mg : Str → Option Value} {base : Heap}
theorem okDM {x qual : Str} {st : Stmt} {f : Addr} {fd : FuncData} {N ps : List Str} {k n c : Nat} {sp : SpM} {ms : MS} (F : Fun K x qual st f fd) (S : FnScope N ps (defScope st)) (len : ∀ as Q, sp as Q → as.length = ps.length)
    (hbody : ∀ (cdv : Value) (A : Around) (fs : List Env) (s : Shared) (H : Hp) (E : XK), Rm k (A.deeper (envOfC qual (defScope st) s.heap.objs.size f cdv)) →
      GSs (cxOf CX0 P w K mg base N qual (defScope st) f cdv A fs s H E).nox (defBody st) n ms) (hn : n ≤ c)
    (hd : ∀ as Q, sp as Q → ms { nx := fun env => ∃ cs, finM as env = some cs ∧ Q .none cs, rt := fun x env => ∃ cs, finM as env = some cs ∧ Q x cs } (env0 N as)) : FnG P w K mg base CX0 (k + 1) f fd ps (spDM K c sp) := by
  refine Fun.okG F S (fun vs H Q E h => ?_) (fun cdv A fs s H vs Q E hr h => ?_)
  · obtain ⟨W, B, G, as, Pd, nd, r, a, h, _⟩ := h
    rw [argsL_len a]
    exact len as Pd h
  · obtain ⟨W, B, G, as, Pd, nd, r, a, h, q⟩ := h
    have fin : ∀ {B' : Nat} {env : DEnv} {σ : L2.St} {G' H' : Hp} {cs : List SC}, Rel K W B' G H G' env σ H' → finM as env = some cs → ∀ (j : Nat) l, W.sh[j]? = some l → ∃ c', cs[j]? = some c' ∧ ScOk K G' H' l c' := fun R hf j l hj =>
      fin_ok a hf R.len R.slot j l (by rw [Nat.zero_add]; exact hj)
    refine ⟨_, (hbody cdv A fs s H E hr).nox, W, B, G, H, G, env0 N as, _, rel_startM N nd (r.le (by omega)) a, hd as Pd h, ?_⟩
    exact ⟨fun e σ g H' ⟨cs, hf, p⟩ z R => q _ _ cs g H' p R.toRW (fin R hf) .non, fun x e σ v g H' ⟨cs, hf, p⟩ z R d => q x v cs g H' p R.toRW (fin R hf) d, fun _ _ _ _ p => p.elim, fun _ _ _ _ p => p.elim⟩
end
end DL
namespace DL
open PySem PySem.Spec PyProof.Rows L2
/-- slots and the addresses in them -/
inductive Lent (env : DEnv) (σ : L2.St) : List Nat → List Addr → Prop
  | nil : Lent env σ [] []
  | cons {i : Nat} {l : Addr} {is : List Nat} {ls : List Addr} : σ[i]? = some (some (.ref l)) → (∃ w c, env[i]? = some (.mo w c)) → Lent env σ is ls → Lent env σ (i :: is) (l :: ls)
section
variable {K : PySem.W.Frag} {W : Wd} {B : Nat} {G0 H0 G H G' H' : Hp} {env : DEnv} {σ : L2.St}
theorem Lent.mem : ∀ {is : List Nat} {ls : List Addr} {l : Addr}, Lent env σ is ls → l ∈ ls → ∃ i ∈ is, σ[i]? = some (some (.ref l)) ∧ ∃ w c, env[i]? = some (.mo w c)
  | _, _, _, .cons h1 h2 t, m => by
    rcases List.mem_cons.mp m with rfl | m
    · exact ⟨_, List.mem_cons_self, h1, h2⟩
    · obtain ⟨i, hi, q⟩ := t.mem m
      exact ⟨i, List.mem_cons_of_mem _ hi, q⟩
theorem Lent.nodup (R : Rel K W B G0 H0 G env σ H) : ∀ {is : List Nat} {ls : List Addr}, Lent env σ is ls → is.Nodup → ls.Nodup
  | _, _, .nil, _ => .nil
  | _, _, .cons (i := i) (l := l) h1 ⟨w, c, h2⟩ t, nd => by
    rw [List.nodup_cons] at nd ⊢
    refine ⟨fun m => ?_, t.nodup R nd.2⟩
    obtain ⟨i', hi', hs, w', c', he⟩ := t.mem m
    have ne : i ≠ i' := fun z => nd.1 (z ▸ hi')
    exact R.dis i i' _ _ _ _ l ne h2 he h1 hs
theorem Lent.set {i : Nat} {e : EV} : ∀ {is : List Nat} {ls : List Addr}, Lent env σ is ls → i ∉ is → Lent (env.set i e) σ is ls
  | _, _, .nil, _ => .nil
  | _, _, .cons (i := j) h1 ⟨w, c, h2⟩ t, n => by
    have ne : i ≠ j := fun z => n (by rw [z]; exact List.mem_cons_self)
    exact .cons h1 ⟨w, c, by rw [List.getElem?_set_ne ne]; exact h2⟩ (t.set fun z => n (List.mem_cons_of_mem _ z))
theorem putM_len : ∀ (is : List Nat) (cs : List SC) (env : DEnv), (putM env is cs).length = env.length
  | [], _, env => by rw [putM]; intro _ _ _ _ z; cases z
  | _ :: _, [], env => by rw [putM]; intro _ _ _ _ _ z; cases z
  | i :: is, c :: cs, env => by
    rw [putM]
    split
    · rw [putM_len is cs, List.length_set]
    · exact putM_len is cs env
theorem putM_get : ∀ {is : List Nat} {ls : List Addr} {env : DEnv} {cs : List SC}, Lent env σ is ls → is.Nodup → (∀ (j : Nat) l, ls[j]? = some l → ∃ c', cs[j]? = some c' ∧ ScOk K G' H' l c') → ∀ (i : Nat) e, (putM env is cs)[i]? = some e →
    (env[i]? = some e ∧ i ∉ is) ∨ ∃ w c c' l, env[i]? = some (.mo w c) ∧ e = .mo w c' ∧ σ[i]? = some (some (.ref l)) ∧ ScOk K G' H' l c'
  | _, _, env, cs, .nil, _, _, i, e, h => by
    rw [putM] at h
    · exact .inl ⟨h, by simp⟩
    · intro _ _ _ _ z
      cases z
  | _, _, env, cs, .cons (i := i0) (l := l0) (is := is) (ls := ls) h1 ⟨w, c, h2⟩ t, nd, hc, i, e, h => by
    obtain ⟨c0, e0, q0⟩ := hc 0 l0 rfl
    cases cs with
    | nil => cases e0
    | cons c1 cs =>
      cases e0
      rw [putM, h2] at h
      have h : (putM (env.set i0 (.mo w c0)) is cs)[i]? = some e := h
      rw [List.nodup_cons] at nd
      have hil : i0 < env.length := (List.getElem?_eq_some_iff.mp h2).1
      rcases putM_get (t.set nd.1) nd.2 (fun j l hj => hc (j + 1) l hj) i e h with ⟨g, n⟩ | ⟨w2, c2, c3, l2, g, ge, gs, gq⟩
      · by_cases z : i0 = i
        · subst z
          rw [List.getElem?_set_self hil] at g
          cases g
          exact .inr ⟨w, c, c0, l0, h2, rfl, h1, q0⟩
        · rw [List.getElem?_set_ne z] at g
          exact .inl ⟨g, fun m => (List.mem_cons.mp m).elim (fun y => z y.symm) n⟩
      · by_cases z : i0 = i
        · subst z
          rw [List.getElem?_set_self hil] at g
          cases g
          exact .inr ⟨w, c, c3, l2, h2, ge, gs, gq⟩
        · rw [List.getElem?_set_ne z] at g
          exact .inr ⟨w2, c2, c3, l2, g, ge, gs, gq⟩
theorem res_ok (R : Rel K W B G0 H0 G env σ H) : ∀ {n : Nat} {vs : List V} {as as' : List EV}, ArgsM K W.dk σ G vs as → resM as env n = some as' →
    ∃ ls, Lent env σ (atsM as) ls ∧ ∀ sh : List Addr, (∀ (j : Nat) l, ls[j]? = some l → sh[n + j]? = some l) → sh.length = n + ls.length → ArgsL K W.dk sh G H n vs as'
  | n, _, _, as', .nil, h => by
    rw [resM] at h
    cases h
    refine ⟨[], .nil, fun sh _ hl => ?_⟩
    have : n = sh.length := by simpa using hl.symm
    subst this
    exact .nil
  | n, _, _, as', .cons (a := a) ha t, h => by
    have go : ∀ {r r' : List EV} {us : List V}, resM r env n = some r' → (∃ ls, Lent env σ (atsM r) ls ∧ ∀ sh : List Addr, (∀ (j : Nat) l, ls[j]? = some l → sh[n + j]? = some l) → sh.length = n + ls.length → ArgsL K W.dk sh G H n us r') →
        ∀ {v}, ArgOk K W.dk G a v → ∃ ls, Lent env σ (atsM r) ls ∧ ∀ sh : List Addr, (∀ (j : Nat) l, ls[j]? = some l → sh[n + j]? = some l) → sh.length = n + ls.length → ArgsL K W.dk sh G H n (v :: us) (a :: r') := fun _ ⟨ls, h1, h2⟩ _ hv => ⟨ls, h1, fun sh q1 q2 => .cons hv (h2 sh q1 q2)⟩
    cases a with
    | un => exact ha.elim
    | mo _ _ => exact ha.elim
    | «at» _ => exact ha.elim
    | d x =>
      rw [resM, Option.map_eq_some_iff] at h
      · obtain ⟨r', hr, rfl⟩ := h
        exact go hr (res_ok R t hr) ha
      · intro _ z
        cases z
    | hd =>
      rw [resM, Option.map_eq_some_iff] at h
      · obtain ⟨r', hr, rfl⟩ := h
        exact go hr (res_ok R t hr) ha
      · intro _ z
        cases z
  | n, _, _, as', .at (i := i) hi t, h => by
    rw [resM] at h
    split at h
    · rename_i w c hw
      rw [Option.map_eq_some_iff] at h
      obtain ⟨r', hr, rfl⟩ := h
      obtain ⟨ls, h1, h2⟩ := res_ok R t hr
      obtain ⟨l, e1, g, o, q⟩ := R.get_mo hw
      rw [e1] at hi
      cases hi
      refine ⟨l :: ls, .cons e1 ⟨w, c, hw⟩ h1, fun sh q1 q2 => .mo (q1 0 l rfl) q (h2 sh (fun j l hj => ?_) ?_)⟩
      · rw [show n + 1 + j = n + (j + 1) by omega]
        exact q1 (j + 1) l hj
      · rw [q2, List.length_cons]
        omega
    · cases h
theorem callM_ok {cc : Nat} {sp : SpM} {E : XK} {n1 : Nat} {m1 : MA} {Q : VK} (h : tD K (n1 + cc) (mCallM sp m1) σ H Q) : tCall (spDM K cc sp) [] E (tB K n1 m1) σ H Q := by
  obtain ⟨W, B, G0, H0, G, env, P, R, hm, q⟩ := h
  refine ⟨W, B + cc, G0, H0, G, env, _, R.le (by omega), hm, fun as e1 vs G1 H1 p1 s1 R1 a1 => ?_⟩
  show spDM K cc sp (vs ++ []) H1 Q E
  rw [List.append_nil]
  obtain ⟨nd, as', hr, hsp⟩ := p1
  obtain ⟨ls, hL, hA⟩ := res_ok R1 a1 hr
  have own : ∀ l ∈ ls, G1 l = none ∧ (W.mu l ∨ H0 l = none) ∧ ¬ W.dk.mu l ∧ ∃ o, H1 l = some o := fun l m => by
    obtain ⟨i, _, hs, w, c, he⟩ := hL.mem m
    obtain ⟨l2, e2, g, o, qc⟩ := R1.get_mo he
    rw [hs] at e2
    cases e2
    refine ⟨g, ?_, R1.mo_ndk he hs, scok_some qc⟩
    cases w with
    | none => exact .inr o.1
    | some j => exact .inl (.inr (List.mem_of_getElem? o))
  refine ⟨⟨W.dk, ls⟩, B, G1, as', _, hL.nodup R1 nd, ?_, hA ls (fun j l hj => by rw [Nat.zero_add]; exact hj) (Nat.zero_add _).symm, hsp, fun x v cs G2 H2 p2 r2 hc d2 => ?_⟩
  · exact ⟨Same.refl _, R1.pub, fun a m => m.elim (fun m => R1.gm a (.inl m)) fun m => (own a m).1, ⟨R1.inv.1, fun a m => (own a m).2.2.1, fun a m => (own a m).2.2.2⟩, fun _ _ h _ => h, fun a o h h' => by rw [h] at h'; cases h'⟩
  · refine q x _ v G2 H2 p2 (s1.trans r2.g0) (R1.after' (W' := ⟨W.dk, ls⟩) rfl (fun a m => (own a m).2.1) r2 (putM_len _ _ _) fun i e he => ?_) d2
    rcases putM_get hL nd hc i e he with ⟨g, n⟩ | g
    · refine .inl ⟨g, fun w c l ew hs m => ?_⟩
      subst ew
      obtain ⟨i', hi', hs', w', c', he'⟩ := hL.mem m
      exact R1.dis i i' _ _ _ _ l (fun z => n (z ▸ hi')) g he' hs hs'
    · exact .inr g
end
structure CalM (P : Program) (w : World) (K : PySem.W.Frag) (mg : Str → Option Value) (base : Heap) (x : Str) (k : Nat) (ps : List Str) (c : Nat) (sp : SpM) : Prop where
  ex : ∃ f fd, FnG P w K mg base CX0 k f fd ps (spDM K c sp) ∧ mg x = some (.ref f) ∧ PySem.W.keepIn K (.ref f) = true ∧ Binds K fd ps []
section
variable {X : Cx} {k c : Nat} {ps : List Str} {sp : SpM} {x : Str} {p pos : Pos} {e : Expr} {es : List Expr} {m1 : MA} {n1 : Nat}
theorem ge_calM (C : CalM X.prog X.w X.K X.mg X.base x k ps c sp) (r : Rm k X.A) (hg : Gl X x)
    (ha : GB X (e :: es) n1 m1) (hdb : (x == ("__debug__" : Str)) = false := by decide) (he : starEach (e :: es) X.env = (false, eval e X.env) :: starEach es X.env := by rfl) (hpl : (backTo pos (starEach es X.env)).any (·.1) = false := by rfl) :
    GE X (.Call (.Name x p) (e :: es) [] pos) (n1 + c) (mCallM sp m1) := by
  obtain ⟨f, fd, F, hm, hk, hb⟩ := C.ex
  exact pe_imp (pe_callG F r hg hm hk hb .nil pass0 ha hdb he hpl) fun σ H Q h => callM_ok h
end
end DL
namespace DL
open PySem PySem.Spec PyProof.Rows L2
/-! ### in, for things of any shape in a list -/
def cInD : D → D → (Bool → Prop) → Prop
  | x, .list ys, P => (okEq x = true ∧ okEq (.list ys) = true) ∧ P (inD x ys)
  | _, _, _ => False
def cNotInD : D → D → (Bool → Prop) → Prop := fun x y P => cInD x y fun b => P (!b)
section
variable {X : Cx}
theorem okEq_dp {K : PySem.W.Frag} {G H : Hp} {v : V} {x : D} (s : Pub G H) (h : okEq x = true) (d : Dr K G v x) : Dp K H v x ∧ SeqAt.shaped x = true := by
  unfold okEq at h
  rw [Bool.and_eq_true] at h
  exact ⟨dr_dp (dp_pub s d h.2) h.2, h.1⟩
theorem od_inD (hu : X.A.units + 65 < cLine) : OpR X (compareOp .In) (rDC2 X.K cInD) := by
  intro pins s σ H x y v u Q I rx ry h
  obtain ⟨G, dx, dy, P, sG, d1, d2, hf, q⟩ := h
  unfold cInD at hf
  split at hf
  · obtain ⟨a1, a2⟩ := okEq_dp sG hf.1.1 d1
    obtain ⟨b1, b2⟩ := okEq_dp sG hf.1.2 d2
    exact op_inD hu pins s σ H _ _ v u Q I rx ry ⟨_, _, a1, b1, a2, b2, q _ hf.2⟩
  · exact hf.elim
theorem od_notInD (hu : X.A.units + 65 < cLine) : OpR X (compareOp .NotIn) (rDC2 X.K cNotInD) := by
  intro pins s σ H x y v u Q I rx ry h
  obtain ⟨G, dx, dy, P, sG, d1, d2, hf, q⟩ := h
  unfold cNotInD cInD at hf
  split at hf
  · obtain ⟨a1, a2⟩ := okEq_dp sG hf.1.1 d1
    obtain ⟨b1, b2⟩ := okEq_dp sG hf.1.2 d2
    exact op_notInD hu pins s σ H _ _ v u Q I rx ry ⟨_, _, a1, b1, a2, b2, q _ hf.2⟩
  · exact hf.elim
end
end DL
namespace DL
open PySem PySem.Spec PyProof.Rows L2
/-! ### what all laws share -/
theorem ct_big {n : Nat} (h : n ≤ 2 ^ 64) : n ≤ ctMax := by
  have e : ctMax = 2 ^ 100000 := by unfold ctMax; rfl
  rw [e]
  exact Nat.le_trans h (Nat.pow_le_pow_right (by decide) (by decide))
def spLaw (K : PySem.W.Frag) : Sp := fun vs H Q _ => ∃ (a : Addr) (ns : List Int), vs = [.ref a] ∧ SqL K H a (ns.map V.int) ∧ ns.length ≤ 63 ∧ (∀ z ∈ ns, Builtin.Int.intBits z ≤ 1048576) ∧ ∀ H', Q (.bl true) H'
theorem rel_deck {K : PySem.W.Frag} {dk c a : Addr} {H : Hp} {n m : Nat} (inv : deckInv dk c ctMax H) (hn : n ≤ ctMax) : Rel K (.of (some (dk, c))) n (fun _ => none) (fun _ => none) (fun _ => none) (.un :: .hd :: List.replicate m .un) (some (.ref a) :: some (.ref dk) :: List.replicate m none) H where
  g0 := Same.refl _
  pub := fun _ _ h => (nomatch h)
  gm := fun _ _ => rfl
  inv := Wd.low (.of (some (dk, c))) ctMax n H hn (of_inv.mpr inv)
  fr := fun _ _ h => (nomatch h)
  pn := fun _ _ h => (nomatch h)
  len := by simp
  slot := fun i e s h1 h2 => by
    match i, h1, h2 with
    | 0, h1, h2 => cases h1; trivial
    | 1, h1, h2 =>
      cases h1
      cases h2
      exact ⟨rfl, fun z => (nomatch z)⟩
    | i + 2, h1, h2 =>
      obtain ⟨h3, h4⟩ := List.getElem?_eq_some_iff.mp (show (List.replicate m EV.un)[i]? = some e from h1)
      rw [List.getElem_replicate] at h4
      subst h4
      trivial
  dis := fun i j wi ci wj cj l ne h1 => by
    match i, h1 with
    | 0, h1 => cases h1
    | 1, h1 => cases h1
    | i + 2, h1 =>
      obtain ⟨h3, h4⟩ := List.getElem?_eq_some_iff.mp (show (List.replicate m EV.un)[i]? = some (.mo wi ci) from h1)
      rw [List.getElem_replicate] at h4
      cases h4
def gE1 : List EV → List EV → List EV := fun as bs => as ++ bs
/-- no object that is written -/
def NM (e : EV) : Prop := ∀ w c, e ≠ .mo w c
theorem nm_un : NM .un := fun w c z => by cases z
theorem nm_d {x : D} : NM (.d x) := fun w c z => by cases z
/-- an if that is passed by -/
theorem if_no {t : MT} {a rest : MS} {E : DEnds} {env : DEnv} (ht : ∀ Pc : Bool → DEnv → Prop, Pc false env → t env Pc) (h : rest E env) : sSeq (sIf t a sNext) rest E env := ht _ h
theorem if_no1 {t : MT} {a : MS} {E : DEnds} {env : DEnv} (ht : ∀ Pc : Bool → DEnv → Prop, Pc false env → t env Pc) (h : E.nx env) : sIf t a sNext E env := ht _ h
/-- of a truth -/
theorem dec_ite {p : Prop} [Decidable p] {A B : Prop} (h1 : p → A) (h2 : ¬ p → B) : match decide p with | true => A | false => B := by
  by_cases z : p
  · rw [decide_eq_true z]
    exact h1 z
  · rw [decide_eq_false z]
    exact h2 z
end DL
namespace DL
open PySem PySem.Spec PyProof.Rows L2
/-- a def as it stands behind the top -/
structure Df (K : PySem.W.Frag) (x : Str) (st : Stmt) : Prop where
  ex : ∃ f fd, PySem.W.nsIn K mainGlobals x = some (some (.ref f)) ∧ Fun K x x st f fd
theorem df_mk {K : PySem.W.Frag} {x : Str} {st : Stmt} {f : Addr} {oc : Value} {od an : Option Addr} {sl : Array (Option Value)} {kV doc pm cd ct : Value} (a : PySem.W.nsIn K mainGlobals x = some (some (.ref f)))
    (l : K.lookup f = some ⟨oc, od, .func (PySem.W.fnOf x x (defArgs st) (defBody st) (defScope st) .none kV doc pm an cd ct), sl⟩) (c : PySem.W.codeIn K cd x = true) (k : PySem.W.keepIn K (.ref f) = true) : Df K x st := ⟨f, _, a, fun_mk l c k⟩
section
variable {P : Program} {w : World} {K : PySem.W.Frag} {h : Heap} {mg : Str → Option Value} {base : Heap}
theorem cal_mk {x : Str} {st : Stmt} {k c : Nat} {ps : List Str} {sp : List EV → (D → Prop) → Prop} (X : K.In h) (G : h.Ns mainGlobals mg) (d : Df K x st)
    (hb : ∀ (kV doc pm : Value) (an : Option Addr) (cdv ct : Value) (us : List Value), us.length = ps.length → bindArgs (PySem.W.fnOf x x (defArgs st) (defBody st) (defScope st) .none kV doc pm an cdv ct) ⟨us, []⟩ = pure (ps.zip us))
    (hF : ∀ f fd, Fun K x x st f fd → FnG P w K mg base CX0 k f fd ps (spD K c sp)) : Cal P w K mg base x k ps c sp := by
  obtain ⟨f, fd, a, F⟩ := d.ex
  exact ⟨f, fd, hF f fd F, PySem.W.mg_of X G a, F.kp, F.binds hb⟩
theorem calK_mk {x : Str} {st : Stmt} {k c : Nat} {ps : List Str} {sp : List EV → (D → Prop) → Prop} (X : K.In h) (G : h.Ns mainGlobals mg) (d : Df K x st)
    (hb : ∀ (kV doc pm : Value) (an : Option Addr) (cdv ct : Value) (us : List Value), us.length = ps.length → bindArgs (PySem.W.fnOf x x (defArgs st) (defBody st) (defScope st) .none kV doc pm an cdv ct) ⟨[], ps.zip us⟩ = pure (ps.zip us))
    (hF : ∀ f fd, Fun K x x st f fd → FnG P w K mg base CX0 k f fd ps (spD K c sp)) : CalK P w K mg base x k ps c sp := by
  obtain ⟨f, fd, a, F⟩ := d.ex
  refine ⟨f, fd, hF f fd F, PySem.W.mg_of X G a, F.kp, ?_⟩
  obtain ⟨oc, od, kV, doc, pm, an, cdv, ct, osl, rfl, lk, hcd⟩ := F.ex
  exact fun s us hl => .of_eq (hb kV doc pm an cdv ct us hl)
/-- a constant of the module -/
theorem glob_atom {x : Str} {u : Value} {v : V} {y : D} (X : K.In h) (G : h.Ns mainGlobals mg) (a : PySem.W.nsIn K mainGlobals x = some (some u)) (r : RelV v u) (hd : ∀ G, Dr K G v y) : GlobD K mg x y := ⟨v, u, PySem.W.mg_of X G a, r, hd⟩
theorem glob_int {x : Str} {i : Int} {t : Tok} (X : K.In h) (G : h.Ns mainGlobals mg) (a : PySem.W.nsIn K mainGlobals x = some (some (.int i t))) : GlobD K mg x (.int i) := ⟨.int i, _, PySem.W.mg_of X G a, ⟨t, rfl⟩, fun _ => .int i⟩
theorem glob_str {x : Str} {z : Str} {t : Tok} (X : K.In h) (G : h.Ns mainGlobals mg) (a : PySem.W.nsIn K mainGlobals x = some (some (.str z t))) : GlobD K mg x (.str z) := ⟨.str z, _, PySem.W.mg_of X G a, ⟨t, rfl⟩, fun _ => .str z⟩
theorem glob_tup {x : Str} {a : Addr} {od : Option Addr} {its : List Value} {n : Nat} {sl : Array (Option Value)} {ys : List PyData} {vs : List V} (X : K.In h) (G : h.Ns mainGlobals mg) (e : PySem.W.nsIn K mainGlobals x = some (some (.ref a)))
    (l : K.lookup a = some ⟨.type "tuple", od, .seq its.toArray n, sl⟩) (hz : its.length ≤ sizeLine) (hv : Vals vs its) (hd : ∀ G, DrAll K G vs ys) : GlobD K mg x (.tuple ys) :=
  ⟨.ref a, .ref a, PySem.W.mg_of X G e, rfl, fun G => .tup (.inr ⟨_, its.toArray, n, l, rfl, rfl, by rw [List.size_toArray]; exact hz, by simpa using hv⟩) (hd G)⟩
/-- a def with one keyword-only default, as it stands behind the top -/
structure DfK (K : PySem.W.Frag) (x : Str) (st : Stmt) (nm : Str) (y : D) : Prop where
  ex : ∃ f fd v, PySem.W.nsIn K mainGlobals x = some (some (.ref f)) ∧ Fun K x x st f fd ∧ FunD K x x (defArgs st) (defBody st) (defScope st) [] [(nm, v)] f fd ∧ ∀ G, Dr K G v y
theorem dfk_mk {K : PySem.W.Frag} {x nm : Str} {st : Stmt} {f D T : Addr} {oc : Value} {od od2 an : Option Addr} {sl sl2 : Array (Option Value)} {doc pm cd ct : Value} {its : List Value} {n : Nat} {ys : List PyData} {vs : List V} (a : PySem.W.nsIn K mainGlobals x = some (some (.ref f)))
    (l : K.lookup f = some ⟨oc, od, .func (PySem.W.fnOf x x (defArgs st) (defBody st) (defScope st) .none (.ref D) doc pm an cd ct), sl⟩) (c : PySem.W.codeIn K cd x = true) (k : PySem.W.keepIn K (.ref f) = true)
    (e : PySem.W.nsIn K D nm = some (some (.ref T))) (l2 : K.lookup T = some ⟨.type "tuple", od2, .seq its.toArray n, sl2⟩) (hz : its.length ≤ sizeLine) (hv : Vals vs its) (hd : ∀ G, DrAll K G vs ys) : DfK K x st nm (.tuple ys) := by
  refine ⟨f, _, .ref T, a, fun_mk l c k, ⟨⟨oc, od, .none, .ref D, doc, pm, an, cd, ct, sl, rfl, l, c, .inl ⟨rfl, rfl⟩, .inr ⟨D, rfl, fun q hq => ?_⟩⟩, k⟩, fun G => .tup (.inr ⟨_, its.toArray, n, l2, rfl, rfl, by rw [List.size_toArray]; exact hz, by simpa using hv⟩) (hd G)⟩
  have : q = (nm, V.ref T) := by simpa using hq
  subst this
  exact ⟨_, e, rfl⟩
theorem args_app {W : Wk} {G : Hp} : ∀ {vs us : List V} {as bs : List EV}, ArgsOk K W G vs as → ArgsOk K W G us bs → ArgsOk K W G (vs ++ us) (as ++ bs)
  | _, _, _, _, .nil, h => h
  | _, _, _, _, .cons a t, h => .cons a (args_app t h)
theorem kn_d {st : Stmt} {k n : Nat} {y : D} {x : Str} {ps : List Str} {sp : List EV → (D → Prop) → Prop} (X : K.In h) (G : h.Ns mainGlobals mg) (d : DfK K x st "delays" y)
    (hb : ∀ (kV doc pm : Value) (an : Option Addr) (cdv ct : Value) (us ws : List Value), us.length = n → ws.length = 1 → bindArgs (PySem.W.fnOf x x (defArgs st) (defBody st) (defScope st) .none kV doc pm an cdv ct) ⟨us, (["delays"] : List Str).zip ws⟩ = pure (ps.zip (us ++ ws)))
    (hF : ∀ f fd, Fun K x x st f fd → FnG P w K mg base CX0 k f fd ps (spD K 0 sp)) : CalN P w K mg base x k n ["delays"] 0 gE1 sp := by
  obtain ⟨f, fd, v, a, F, FD, hv⟩ := d.ex
  obtain ⟨mv, kb⟩ := FD.kbinds0 (ps := ps) n ["delays"] [] (fun us _ ws => us ++ ws) (by simp) (fun q hq => by cases hq) (fun r1 _ r3 => r1.append r3) fun D doc pm an cdv ct us mv ws l1 l2 l3 => hb (.ref D) doc pm an cdv ct us ws l1 l3
  exact ⟨f, fd, _, _, _, hF f fd F, PySem.W.mg_of X G a, F.kp, kb, fun W G vs zs as bs h1 h2 _ _ => args_app h1 h2⟩
theorem fn_never {f : Addr} {fd : FuncData} {k c : Nat} {ps : List Str} {sp : List EV → (D → Prop) → Prop} (h : ∀ as P, ¬ sp as P) : FnG P w K mg base CX0 k f fd ps (spD K c sp) :=
  ⟨fun vs H Q E ⟨W, B, G, as, Pd, r, a, z, _⟩ => (h as Pd z).elim, fun A st s H args us vs Q E r z1 z2 z3 z4 => by
    obtain ⟨W, B, G, as, Pd, r, a, z, _⟩ := z4
    exact (h as Pd z).elim⟩
theorem fn_neverM {f : Addr} {fd : FuncData} {k c : Nat} {ps : List Str} {sp : SpM} (h : ∀ as P, ¬ sp as P) : FnG P w K mg base CX0 k f fd ps (spDM K c sp) :=
  ⟨fun vs H Q E ⟨W, B, G, as, Pd, nd, r, a, z, _⟩ => (h as Pd z).elim, fun A st s H args us vs Q E r z1 z2 z3 z4 => by
    obtain ⟨W, B, G, as, Pd, nd, r, a, z, _⟩ := z4
    exact (h as Pd z).elim⟩
theorem calM_mk {x : Str} {st : Stmt} {k c : Nat} {ps : List Str} {sp : SpM} (X : K.In h) (G : h.Ns mainGlobals mg) (d : Df K x st)
    (hb : ∀ (kV doc pm : Value) (an : Option Addr) (cdv ct : Value) (us : List Value), us.length = ps.length → bindArgs (PySem.W.fnOf x x (defArgs st) (defBody st) (defScope st) .none kV doc pm an cdv ct) ⟨us, []⟩ = pure (ps.zip us))
    (hF : ∀ f fd, Fun K x x st f fd → FnG P w K mg base CX0 k f fd ps (spDM K c sp)) : CalM P w K mg base x k ps c sp := by
  obtain ⟨f, fd, a, F⟩ := d.ex
  exact ⟨f, fd, hF f fd F, PySem.W.mg_of X G a, F.kp, F.binds hb⟩
end
end DL
namespace DL
open PySem PySem.Spec PyProof.Rows L2
/-! ### instances: fields -/
def putFD (f : Str) (y : D) : List (Str × D) → List (Str × D)
  | [] => [(f, y)]
  | (g, x) :: r => if g = f then (g, y) :: r else (g, x) :: putFD f y r
theorem drFs_get {K : PySem.W.Frag} {G : Hp} {f : Str} : ∀ {us : List (Str × V)} {fs : List (Str × D)} {y : D}, DrFs K G us fs → fs.lookup f = some y → ∃ v, us.lookup f = some v ∧ Dr K G v y
  | _, _, _, .nil, h => by cases h
  | _, _, y, .cons (k := k) (v := v) (vs := vs) (d := d) (ds := ds) a t, h => by
    rw [List.lookup_cons] at h ⊢
    cases hk : (f == k) with
    | true =>
      rw [hk] at h
      cases h
      exact ⟨v, rfl, a⟩
    | false =>
      rw [hk] at h
      exact drFs_get t h
theorem drFs_no {K : PySem.W.Frag} {G : Hp} {f : Str} : ∀ {us : List (Str × V)} {fs : List (Str × D)}, DrFs K G us fs → fs.lookup f = none → us.lookup f = none
  | _, _, .nil, _ => rfl
  | _, _, .cons (k := k) a t, h => by
    rw [List.lookup_cons] at h ⊢
    cases hk : (f == k) with
    | true =>
      rw [hk] at h
      cases h
    | false =>
      rw [hk] at h
      exact drFs_no t h
theorem drFs_len {α : Type} {K : PySem.W.Frag} {G : Hp} : ∀ {us : List (α × V)} {fs : List (α × D)}, DrFs K G us fs → us.length = fs.length
  | _, _, .nil => rfl
  | _, _, .cons _ t => congrArg (· + 1) (drFs_len t)
theorem drFs_put {K : PySem.W.Frag} {G : Hp} {f : Str} {v : V} {y : D} (a : Dr K G v y) : ∀ {us : List (Str × V)} {fs : List (Str × D)}, DrFs K G us fs → DrFs K G (putF f v us) (putFD f y fs)
  | _, _, .nil => .cons a .nil
  | _, _, .cons (k := k) b t => by
    rw [putF, putFD]
    by_cases h : k = f
    · rw [if_pos h, if_pos h]
      exact .cons a t
    · rw [if_neg h, if_neg h]
      exact .cons b (drFs_put a t)
def mFld (C : Addr) (i : Nat) (f : Str) : ME := fun env P => match env[i]? with
  | some (.mo _ (.ins C' fs)) => C' = C ∧ ∃ y, fs.lookup f = some y ∧ P y env
  | _ => False
def sFldM (C : Addr) (i : Nat) (f : Str) (m : ME) : MS := fun E env => m env fun y e1 => match e1[i]? with
  | some (.mo w (.ins C' fs)) => C' = C ∧ fs.length < 1000 ∧ E.nx (e1.set i (.mo w (.ins C' (putFD f y fs))))
  | _ => False
/-- of a number: x.f += e -/
def sFldI (C : Addr) (i : Nat) (f : Str) (m : ME) : MS := fun E env => match env[i]? with
  | some (.mo _ (.ins C' fs)) => C' = C ∧ ∃ a, fs.lookup f = some (.int a) ∧ m env fun y e1 => match e1[i]?, y with
    | some (.mo w (.ins C' fs')), .int b => C' = C ∧ fs'.length < 1000 ∧ E.nx (e1.set i (.mo w (.ins C' (putFD f (.int (a + b)) fs'))))
    | _, _ => False
  | _ => False
section
variable {X : Cx} {e : Expr} {C : Addr} {i : Nat} {x f : Str} {px p pos pos' tpos : Pos} {m : ME} {n : Nat}
theorem ge_fld (C : Addr) (i : Nat) {x f : Str} (c : Cls X.K C) (nf : NoAttr X.K C f) (hN : X.N[i]? = some x := by rfl) (hv : Vis X.env.scope x := by first | exact Or.inl rfl | exact Or.inr (Or.inl rfl) | exact Or.inr (Or.inr rfl)) (hd : (x == ("__debug__" : Str)) = false := by decide)
    (hcd : (x == ("__classdict__" : Str)) = false := by decide) (hb : attributeBase (.Name x px) f X.env (eval (.Name x px) X.env) = eval (.Name x px) X.env := by rfl) : GE X (.Attribute (.Name x px) f pos) 0 (mFld C i f) := pe_imp (pe_fld (pe_var hN hv hd hcd) hb) fun σ H Q h => by
  obtain ⟨W, B, G0, H0, G, env, P, R, hm, q⟩ := h
  unfold mFld at hm
  split at hm
  · obtain ⟨l, e1, _, _, dx, us, hl, hq⟩ := R.get_mo (by assumption)
    obtain ⟨rfl, y, hy, hP⟩ := hm
    obtain ⟨v, hv, dv⟩ := drFs_get hq hy
    exact ⟨_, e1, l, _, dx, us, v, rfl, hl, c, nf, hv, q _ _ _ _ _ hP (Same.refl _) R dv⟩
  · exact hm.elim
theorem gs_fldM (C : Addr) (i : Nat) {x f : Str} (c : Cls X.K C) (nf : NoAttr X.K C f) (he : GE X e n m) (hN : X.N[i]? = some x := by rfl) (hv : Vis X.env.scope x := by first | exact Or.inl rfl | exact Or.inr (Or.inl rfl) | exact Or.inr (Or.inr rfl)) (hd : (x == ("__debug__" : Str)) = false := by decide)
    (hcd : (x == ("__classdict__" : Str)) = false := by decide) (hs : swapsWith e (some (.Attribute (.Name x px) f pos')) pos.line X.env = pure false := by rfl) : GS X (.Assign [.Attribute (.Name x px) f pos'] e pos) n (sFldM C i f m) := ps_imp (ps_fld (pe_var hN hv hd hcd) he hs) fun D σ H h => by
  obtain ⟨W, B, G0, H0, G, env, E, R, hm, q⟩ := h
  refine ⟨W, B, G0, H0, G, env, _, R, hm, fun y e1 v G1 H1 p1 s1 R1 d1 => ?_⟩
  split at p1
  · rename_i w C' fs hx
    obtain ⟨l, f1, _, _, dx, us, hl, hq⟩ := R1.get_mo hx
    obtain ⟨rfl, hlen, hP⟩ := p1
    refine ⟨_, f1, l, _, dx, us, rfl, hl, c, nf, by rw [drFs_len hq]; exact hlen, ?_⟩
    exact q.nx _ _ _ _ hP s1 (R1.put hx f1 ⟨dx, _, upd_same, drFs_put d1 hq⟩)
  · exact p1.elim
theorem gs_fldI (C : Addr) (i : Nat) {x f : Str} (c : Cls X.K C) (nf : NoAttr X.K C f) (he : GE X e n m) (hN : X.N[i]? = some x := by rfl) (hv : Vis X.env.scope x := by first | exact Or.inl rfl | exact Or.inr (Or.inl rfl) | exact Or.inr (Or.inr rfl)) (hd : (x == ("__debug__" : Str)) = false := by decide)
    (hcd : (x == ("__classdict__" : Str)) = false := by decide) : GS X (.AugAssign (.Attribute (.Name x px) f tpos) .Add e pos) n (sFldI C i f m) := ps_imp (ps_fldaug (pe_var hN hv hd hcd) he in_add) fun D σ H h => by
  obtain ⟨W, B, G0, H0, G, env, E, R, hm, q⟩ := h
  unfold sFldI at hm
  split at hm
  · rename_i w C' fs hx
    obtain ⟨l, f1, _, _, dx, us, hl, hq⟩ := R.get_mo hx
    obtain ⟨rfl, a, ha, hm⟩ := hm
    obtain ⟨v, hv, dv⟩ := drFs_get hq ha
    cases dp_int dv
    refine ⟨_, f1, l, _, dx, us, _, rfl, hl, c, nf, hv, W, B, G0, H0, G, env, _, R, hm, fun y e1 u G1 H1 p1 s1 R1 d1 => ?_⟩
    split at p1
    · rename_i w2 C2 fs2 b hx2
      obtain ⟨l2, f2, _, _, dx2, us2, hl2, hq2⟩ := R1.get_mo hx2
      rw [f1] at f2
      cases f2
      cases dp_int d1
      obtain ⟨rfl, hlen, hP⟩ := p1
      refine ⟨a, b, rfl, rfl, dx2, us2, hl2, by rw [drFs_len hq2]; exact hlen, ?_⟩
      exact q.nx _ _ _ _ hP s1 (R1.put hx2 f1 ⟨dx2, _, upd_same, drFs_put (.int _) hq2⟩)
    · exact p1.elim
  · exact hm.elim
end
end DL
namespace DL
open PySem PySem.Spec PyProof.Rows L2
/-! ### instances: methods -/
structure MthM (P : Program) (w : World) (K : PySem.W.Frag) (mg : Str → Option Value) (base : Heap) (C : Addr) (m : Str) (k : Nat) (ps : List Str) (c : Nat) (sp : SpM) : Prop where
  ex : ∃ f fd, FnG P w K mg base CX0 k f fd ps (spDM K c sp) ∧ Meth K C m f ∧ Binds K fd ps []
/-- x.m(..), x an instance that is written -/
def mMeth (C : Addr) (m : Str) (sp : SpM) (i : Nat) (a : MA) : ME := fun env P => match env[i]? with
  | some (.mo _ (.ins C' fs)) => C' = C ∧ fs.lookup m = none ∧ mCallM sp (mConsM i a) env P
  | _ => False
section
variable {X : Cx} {C : Addr} {m : Str} {k c : Nat} {ps : List Str} {sp : SpM} {x : Str} {px apos pos : Pos} {e o : Expr} {es : List Expr} {m1 : MA} {n1 : Nat} {ta : TE} {t : TA} {spv : Sp} {f : Addr} {fd : FuncData}
theorem pe_methG {pl : Sem Bool} (he : PE X o ta) (cl : Cls X.K C) (hm : Meth X.K C m f) (F : FnG X.prog X.w X.K X.mg X.base CX0 k f fd ps spv) (r : Rm k X.A) (hb : Binds X.K fd ps []) (ha : PA X (e :: es) t)
    (hst : starEach (e :: es) X.env = (false, eval e X.env) :: starEach es X.env := by rfl) (hpl : (backTo pos (starEach es X.env)).any (·.1) = false := by rfl)
    (ht : eval (.Call (.Attribute o m apos) (e :: es) [] pos) X.env = (do
      let ov ← eval o X.env
      standAt apos.atName
      let (f, first) ← holding [ov] (getMethod ov m pl)
      callWith pos f first (backTo pos (starEach (e :: es) X.env)) (backToKw pos (keywordEach [] X.env))) := by rfl) :
    PE X (.Call (.Attribute o m apos) (e :: es) [] pos) (tMeth C m spv [] E0 ta t) := by
  refine ⟨fun pins s σ H Q I h => ?_⟩
  refine PySem.W.methodCall_KW (pl := pl) (thn (he.run pins s σ H _ I h) fun u s1 ⟨x, H1, I1, rx, a, dx, fs, ex, ea, l, q⟩ => ?_) ht
  subst ex
  obtain rfl : u = Value.ref a := rx
  refine getmeth_ok I1 ea cl hm l ?_
  refine PySem.W.callWith_K (first := [.ref a]) (h₀ := X.base) I.ok.mod.kin hm.kp (thn (ha.run pos pins s1 σ H1 _ I1 q) fun us s2 ⟨vs, H2, I2, rr, q2⟩ => ⟨I2.kIn, ?_⟩) hst hpl
  exact runG (us := .ref a :: us) (vs := .ref a :: vs) F r hb .nil pass0 I2 (.cons rfl rr) q2
theorem pe_meth0G {pl : Sem Bool} (he : PE X o ta) (cl : Cls X.K C) (hm : Meth X.K C m f) (F : FnG X.prog X.w X.K X.mg X.base CX0 k f fd ps spv) (r : Rm k X.A) (hb : Binds X.K fd ps [])
    (ht : eval (.Call (.Attribute o m apos) [] [] pos) X.env = (do
      let ov ← eval o X.env
      standAt apos.atName
      let (f, first) ← holding [ov] (getMethod ov m pl)
      callWith pos f first (backTo pos (starEach [] X.env)) (backToKw pos (keywordEach [] X.env))) := by rfl) :
    PE X (.Call (.Attribute o m apos) [] [] pos) (tMeth C m spv [] E0 ta tNil) := by
  refine ⟨fun pins s σ H Q I h => ?_⟩
  refine PySem.W.methodCall_KW (pl := pl) (thn (he.run pins s σ H _ I h) fun u s1 ⟨x, H1, I1, rx, a, dx, fs, ex, ea, l, q⟩ => ?_) ht
  subst ex
  obtain rfl : u = Value.ref a := rx
  refine getmeth_ok I1 ea cl hm l ?_
  exact PySem.W.callWith_K0 (first := [.ref a]) I1.kIn hm.kp (runG (us := [.ref a]) (vs := [.ref a]) F r hb .nil pass0 I1 (.cons rfl .nil) q)
/-- the receiver and the arguments, from the data -/
theorem meth_ok {i : Nat} {cc : Nat} {σ : L2.St} {H : Hp} {Q : VK} {E : XK} (h : tD X.K (n1 + cc) (mMeth C m sp i m1) σ H Q) : tMeth C m (spDM X.K cc sp) [] E (tVar i) (tB X.K n1 m1) σ H Q := by
  obtain ⟨W, B, G0, H0, G, env, P, R, hm, q⟩ := h
  unfold mMeth at hm
  split at hm
  · rename_i w C' fs hx
    obtain ⟨rfl, hno, hm⟩ := hm
    obtain ⟨l, e1, hg, ho, dx, us, hl, hq⟩ := R.get_mo hx
    refine ⟨_, e1, l, dx, us, rfl, hl, drFs_no hq hno, ?_⟩
    have h2 : tD X.K (n1 + cc) (mCallM sp (mConsM i m1)) σ H Q := ⟨W, B, G0, H0, G, env, P, R, hm, q⟩
    have h3 := callM_ok (E := E) h2
    obtain ⟨W', B', G0', H0', G', env', P', R', hm', q'⟩ := h3
    unfold mConsM at hm'
    split at hm'
    · rename_i w2 c2 hx2
      obtain ⟨l2, e2, _⟩ := R'.get_mo hx2
      rw [e1] at e2
      cases e2
      refine ⟨W', B', G0', H0', G', env', _, R', hm', fun as env2 vs G2 H2 p2 s2 R2 a2 => ?_⟩
      exact q' _ env2 (.ref l :: vs) G2 H2 p2 s2 R2 (.at e1 a2)
    · exact hm'.elim
  · exact hm.elim
theorem ge_mth (i : Nat) {x : Str} {pl : Sem Bool} (M : MthM X.prog X.w X.K X.mg X.base C m k ps c sp) (cl : Cls X.K C) (r : Rm k X.A) (ha : GB X (e :: es) n1 m1) (hN : X.N[i]? = some x := by rfl) (hv : Vis X.env.scope x := by first | exact Or.inl rfl | exact Or.inr (Or.inl rfl) | exact Or.inr (Or.inr rfl)) (hd : (x == ("__debug__" : Str)) = false := by decide)
    (hcd : (x == ("__classdict__" : Str)) = false := by decide) (hst : starEach (e :: es) X.env = (false, eval e X.env) :: starEach es X.env := by rfl) (hpl : (backTo pos (starEach es X.env)).any (·.1) = false := by rfl)
    (ht : eval (.Call (.Attribute (.Name x px) m apos) (e :: es) [] pos) X.env = (do
      let ov ← eval (.Name x px) X.env
      standAt apos.atName
      let (f, first) ← holding [ov] (getMethod ov m pl)
      callWith pos f first (backTo pos (starEach (e :: es) X.env)) (backToKw pos (keywordEach [] X.env))) := by rfl) :
    GE X (.Call (.Attribute (.Name x px) m apos) (e :: es) [] pos) (n1 + c) (mMeth C m sp i m1) := by
  obtain ⟨f, fd, F, hm, hb⟩ := M.ex
  exact pe_imp (pe_methG (pl := pl) (pe_var hN hv hd hcd) cl hm F r hb ha hst hpl ht) fun σ H Q h => meth_ok h
theorem ge_mth0 (i : Nat) {x : Str} {pl : Sem Bool} (M : MthM X.prog X.w X.K X.mg X.base C m k ps c sp) (cl : Cls X.K C) (r : Rm k X.A) (hN : X.N[i]? = some x := by rfl) (hv : Vis X.env.scope x := by first | exact Or.inl rfl | exact Or.inr (Or.inl rfl) | exact Or.inr (Or.inr rfl)) (hd : (x == ("__debug__" : Str)) = false := by decide)
    (hcd : (x == ("__classdict__" : Str)) = false := by decide)
    (ht : eval (.Call (.Attribute (.Name x px) m apos) [] [] pos) X.env = (do
      let ov ← eval (.Name x px) X.env
      standAt apos.atName
      let (f, first) ← holding [ov] (getMethod ov m pl)
      callWith pos f first (backTo pos (starEach [] X.env)) (backToKw pos (keywordEach [] X.env))) := by rfl) :
    GE X (.Call (.Attribute (.Name x px) m apos) [] [] pos) c (mMeth C m sp i mNil) := by
  obtain ⟨f, fd, F, hm, hb⟩ := M.ex
  refine pe_imp (pe_meth0G (pl := pl) (pe_var hN hv hd hcd) cl hm F r hb ht) fun σ H Q h => ?_
  have h2 : tD X.K (0 + c) (mMeth C m sp i mNil) σ H Q := by rw [Nat.zero_add]; exact h
  obtain ⟨v, e1, a, dx, fs, ex, hl, hno, q⟩ := meth_ok (E := E0) h2
  refine ⟨v, e1, a, dx, fs, ex, hl, hno, ?_⟩
  obtain ⟨W', B', G0', H0', G', env', P', R', hm', q'⟩ := q
  exact q' _ _ _ _ _ hm' (Same.refl _) R' .nil
end
end DL
namespace DL
open PySem PySem.Spec PyProof.Rows L2
/-! ### a comprehension whose turns write objects -/
/-- the slots vs from env, the others from e -/
def mergeE (env e : DEnv) : List Nat → DEnv
  | [] => e
  | v :: vs => match env[v]? with
    | some x => (mergeE env e vs).set v x
    | none => mergeE env e vs
theorem mergeE_len (env e : DEnv) : ∀ vs, (mergeE env e vs).length = e.length
  | [] => rfl
  | v :: vs => by
    rw [mergeE]
    split
    · rw [List.length_set, mergeE_len env e vs]
    · exact mergeE_len env e vs
theorem mergeE_out {env e : DEnv} {i : Nat} : ∀ {vs : List Nat}, i ∉ vs → (mergeE env e vs)[i]? = e[i]?
  | [], _ => rfl
  | v :: vs, h => by
    have ih := mergeE_out (env := env) (e := e) (i := i) (vs := vs) fun z => h (List.mem_cons_of_mem _ z)
    rw [mergeE]
    split
    · rw [List.getElem?_set_ne fun z => h (by rw [z]; exact List.mem_cons_self)]
      exact ih
    · exact ih
theorem mergeE_in {env e : DEnv} (hl : env.length = e.length) {i : Nat} : ∀ {vs : List Nat}, i ∈ vs → (mergeE env e vs)[i]? = env[i]?
  | v :: vs, h => by
    rw [mergeE]
    by_cases z : v = i
    · subst z
      split
      · rename_i x hx
        have := (List.getElem?_eq_some_iff.mp hx).1
        rw [List.getElem?_set_self (by rw [mergeE_len]; omega), hx]
      · rename_i hx
        rw [hx, List.getElem?_eq_none_iff, mergeE_len, ← hl]
        exact List.getElem?_eq_none_iff.mp hx
    · have hm : i ∈ vs := (List.mem_cons.mp h).resolve_left fun y => z y.symm
      have ih := mergeE_in (env := env) (e := e) hl hm
      split
      · rw [List.getElem?_set_ne z]
        exact ih
      · exact ih
section
variable {K : PySem.W.Frag} {W : Wd} {B B' : Nat} {G0 H0 G H G' H' : Hp} {env e : DEnv} {σ : L2.St}
theorem Rel.merge {vs : List Nat} (r : Rel K W B G0 H0 G env σ H) (n : noOwn env vs) (s : Same G G') (q : Rel K W B' G0 H0 G' (wipeE e vs) (L2.wipe σ vs) H') (hl : e.length = env.length) : Rel K W B' G0 H0 G' (mergeE env e vs) σ H' :=
  { q.toRW with
    len := by rw [mergeE_len, hl]; exact r.len
    slot := fun i x s' h1 h2 => by
      by_cases z : i ∈ vs
      · rw [mergeE_in hl.symm z] at h1
        have h := r.slot i x s' h1 h2
        cases x with
        | un => trivial
        | d x =>
          obtain ⟨v, e1, q1⟩ := h
          exact ⟨v, e1, dp_same s q1⟩
        | mo w c => exact absurd h1 (n i z w c)
        | «at» _ => trivial
        | hd => exact h
      · rw [mergeE_out z] at h1
        exact q.slot i x s' (by rw [wipeE_out z]; exact h1) (by rw [wipe_out' z]; exact h2)
    dis := fun i j wi ci wj cj l ne h1 h2 h3 h4 => by
      have f : ∀ {k : Nat} {w c}, (mergeE env e vs)[k]? = some (.mo w c) → k ∉ vs ∧ e[k]? = some (.mo w c) := fun {k w c} h => by
        by_cases z : k ∈ vs
        · rw [mergeE_in hl.symm z] at h
          exact absurd h (n k z w c)
        · rw [mergeE_out z] at h
          exact ⟨z, h⟩
      obtain ⟨z1, g1⟩ := f h1
      obtain ⟨z2, g2⟩ := f h2
      exact q.dis i j wi ci wj cj l ne (by rw [wipeE_out z1]; exact g1) (by rw [wipeE_out z2]; exact g2) (by rw [wipe_out' z1]; exact h3) (by rw [wipe_out' z2]; exact h4) }
end
theorem wipe_idem (σ : L2.St) (vs : List Nat) : wipe (wipe σ vs) vs = wipe σ vs := by
  apply List.ext_getElem?
  intro n
  by_cases hn : n ∈ vs
  · cases z1 : (wipe (wipe σ vs) vs)[n]? with
    | none =>
      rw [List.getElem?_eq_none_iff, wipe_length] at z1
      exact (List.getElem?_eq_none_iff.mpr z1).symm
    | some y =>
      have b1 := (List.getElem?_eq_some_iff.mp z1).1
      rw [wipe_length] at b1
      rw [List.getElem?_eq_getElem b1]
      cases y with
      | some u => exact absurd hn (wipe_some z1).2
      | none =>
        cases z2 : (wipe σ vs)[n] with
        | none => rfl
        | some u => exact absurd hn (wipe_some ((List.getElem?_eq_getElem b1).trans (congrArg some z2))).2
  · rw [wipe_out' hn]
def mLcS (g : MG) (tt : MT) (te : ME) (vs : List Nat) : List D → List D → DEnv → (List D → DEnv → Prop) → Prop
  | [], acc, env, P => P acc env
  | x :: xs, acc, env, P => g x (wipeE env vs) fun e1 => tt e1 fun b e2 => match b with
    | true => te e2 fun y e3 => acc.length < sizeLine ∧ mLcS g tt te vs xs (acc ++ [y]) (mergeE env e3 vs) P
    | false => mLcS g tt te vs xs acc (mergeE env e2 vs) P
def mLcSC (nb c : Nat) (i : MI) (g : MG) (tt : MT) (te : ME) (vs : List Nat) : MF := fun env P => i env fun ds e1 => ds.length * nb ≤ c ∧ noOwn e1 vs ∧ mLcS g tt te vs ds [] e1 P
theorem lcS_ok {K : PySem.W.Frag} {mi : MI} {mg : MG} {mt : MT} {me : ME} {vs : List Nat} {ni nt ne c : Nat} {σ : L2.St} {H : Hp} {Q : VK} (h : tF K (ni + c) (mLcSC (nt + ne) c mi mg mt me vs) σ H Q) : tLc (tI K ni mi) (tG K vs mg) (tDT K nt mt) (tD K ne me) vs σ H Q := by
  obtain ⟨W, B, G0, H0, G, env, P, R, hm, q⟩ := h
  refine ⟨W, B + c, G0, H0, G, env, _, R.le (by omega), hm, fun ds e1 J G1 H1 p1 s1 R1 it A hA => ?_⟩
  obtain ⟨cost, no, p1⟩ := p1
  obtain ⟨R2, f1, f2, f3, f4⟩ := R1.fresh (o := .lst []) hA
  let Iv : Nat → Hp → Prop := fun i H' => ∃ G' av acc e', Same G1 G' ∧ Rel K W (B + (ds.length - i) * (nt + ne)) G0 H0 G' e' σ H' ∧ noOwn e' vs ∧ H' A = some (.lst av) ∧ G' A = none ∧ (∀ (i : Nat) l w c, e'[i]? = some (.mo w c) → σ[i]? = some (some (.ref l)) → l ≠ A) ∧ DrAll K G' av acc ∧ mLcS mg mt me vs (ds.drop i) acc e' P
  refine ⟨fun i m H' => m = ds.length - i ∧ i ≤ ds.length ∧ Iv i H', ⟨ds.length, rfl, Nat.zero_le _, G1, [], [], e1, Same.refl _, R2.le (by rw [Nat.sub_zero]; omega), no, upd_same, f1, f4, .nil, p1⟩, ?_⟩
  rintro i m H' ⟨rfl, hi, G', av, acc, e', s', R', no', hA', gA', oA', dA', p'⟩
  by_cases hlt : i < ds.length
  · have hx : ds[i]? = some ds[i] := List.getElem?_eq_getElem hlt
    have hd : ds.drop i = ds[i] :: ds.drop (i + 1) := List.drop_eq_getElem_cons hlt
    obtain ⟨hgo, hy⟩ := (it G' H' s' R'.pub i).1 _ hx
    rw [hd] at p'
    rw [turn_cost hlt] at R'
    refine .inr ⟨hgo, fun H2 => Iv (i + 1) H2, fun H2 hN => ⟨ds.length - (i + 1), by omega, rfl, hlt, hN⟩, fun v H2 y => ?_⟩
    obtain ⟨G2, g2, d2⟩ := hy v H2 y
    have R3 := R'.grow g2
    have hA2 : H2 A = some (.lst av) := g2.eh _ _ hA'
    have gA2 : G2 A = none := by
      cases z : G2 A with
      | none => rfl
      | some o =>
        have := g2.new A o z gA'
        rw [hA'] at this
        cases this
    have hg0 : G0 A = none := R3.g0.free gA2
    have R4 := (R3.guard hA2 gA2 oA').wipe vs
    refine ⟨W, _, G0, upd H0 A (.lst av), G2, _, _, _, R4, d2, p', fun e3 σ3 G3 H3 p3 s3 R5 w1 w2 => ⟨by rw [w1, wipe_idem], ?_⟩⟩
    have g3 : Same G' G3 := g2.eg.trans s3
    refine ⟨W, B + (ds.length - (i + 1)) * (nt + ne) + ne, G0, upd H0 A (.lst av), G3, e3, _, R5.le (by omega), p3, fun b e4 G4 H4 p4 s4 R6 => ?_⟩
    have sT : Same G1 G4 := (s'.trans g3).trans s4
    have back : ∀ (B5 : Nat) (G5 H5 : Hp) (e5 : DEnv), Same G3 G5 → Rel K W B5 G0 (upd H0 A (.lst av)) G5 e5 σ3 H5 → Rel K W B5 G0 H0 G5 (mergeE e' e5 vs) σ H5 ∧ noOwn (mergeE e' e5 vs) vs ∧ H5 A = some (.lst av) ∧ G5 A = none ∧ (∀ (i : Nat) l w c, (mergeE e' e5 vs)[i]? = some (.mo w c) → σ[i]? = some (some (.ref l)) → l ≠ A) := fun B5 G5 H5 e5 s5 R7 => by
      have l5 : e5.length = e'.length := by
        have a1 := R7.len
        have a2 := R5.len
        have a3 := R3.len
        have a4 : σ3.length = σ.length := by
          have := congrArg List.length w1
          rw [wipe_length, wipe_length, wipe_length] at this
          exact this
        omega
      have R8 := R7.wipe vs
      rw [w1, wipe_idem] at R8
      obtain ⟨R9, u1, u2, u3⟩ := R8.unguard f3 hg0 f2
      have no5 : noOwn (mergeE e' e5 vs) vs := fun j hj w c z => by
        rw [mergeE_in l5.symm hj] at z
        exact no' j hj w c z
      refine ⟨R3.merge no' (s3.trans s5) R9 l5, no5, u1, u2, fun j l w c h1 h2 => ?_⟩
      by_cases z : j ∈ vs
      · exact absurd h1 (no5 j z w c)
      · rw [mergeE_out z] at h1
        exact u3 j l w c (by rw [wipeE_out z]; exact h1) (by rw [wipe_out' z]; exact h2)
    cases b with
    | true =>
      refine iteT ⟨W, B + (ds.length - (i + 1)) * (nt + ne), G0, upd H0 A (.lst av), G4, e4, _, R6, p4, fun y e5 u G5 H5 p5 s5 R7 d5 => ?_⟩
      obtain ⟨hl, p5⟩ := p5
      obtain ⟨Rb, nb, b1, b2, b3⟩ := back _ G5 H5 e5 (s4.trans s5) R7
      refine ⟨av, b1, by rw [dpAll_len dA']; exact hl, G5, av ++ [u], acc ++ [y], mergeE e' e5 vs, sT.trans s5, ?_, nb, upd_same, b2, b3, dpAll_app (dpAll_same ((g3.trans s4).trans s5) dA') (dpAll_one d5), p5⟩
      refine { g0 := Rb.g0, pub := fun a o e => ?_, gm := Rb.gm, inv := W.loc _ H5 _ (fun a m => ?_) Rb.inv, fr := fun a o e m => ?_, pn := Rb.pn, len := Rb.len, slot := fun j e s h1 h2 => ?_, dis := Rb.dis }
      · have ne : a ≠ A := fun z => by
          subst z
          rw [b2] at e
          cases e
        rw [upd_ne ne]
        exact Rb.pub a o e
      · rw [upd_ne fun z => by subst z; exact f3 m]
      · have ne : a ≠ A := fun z => by
          subst z
          rw [f2] at e
          cases e
        rw [upd_ne ne]
        exact Rb.fr a o e m
      · have q := Rb.slot j e s h1 h2
        cases e with
        | mo w2 c2 =>
          obtain ⟨l2, ee, n2, o2, q1⟩ := q
          refine ⟨l2, ee, n2, o2, scok_later (Same.refl _) (fun u hu => ?_) q1⟩
          subst ee
          rw [upd_ne (b3 j l2 w2 c2 h1 h2)]
          exact hu
        | un => trivial
        | d x => exact q
        | hd => exact q
        | «at» _ => trivial
    | false =>
      obtain ⟨Rb, nb, b1, b2, b3⟩ := back _ G4 H4 e4 s4 (R6.le (Nat.le_add_right _ _))
      exact iteF ⟨G4, av, acc, mergeE e' e4 vs, sT, Rb, nb, b1, b2, b3, dpAll_same (g3.trans s4) dA', p4⟩
  · have e : i = ds.length := by omega
    subst e
    rw [List.drop_length] at p'
    exact .inl ⟨(it G' H' s' R'.pub _).2 (Nat.le_refl _), q _ e' A G' H' p' (s1.trans s') (R'.le (by omega)) ⟨av, hA', gA', f2, f3, oA', dA'⟩⟩
section
variable {X : Cx} {elt tg iter : Expr} {ifs : List Expr} {scope : Scope} {own : List (Str × Nat)} {pos spos py : Pos} {mi : MI} {mg : MG} {mt : MT} {me : ME} {ni nt ne : Nat}
theorem gf_lcS (c : Nat) (hc : X.calm = true) (hN : X.N.Nodup) (hi : GI X tg iter ni mi) (ok : BlkOk X.N X.env.scope scope own)
    (hg : ∀ (s : Shared) (H : Hp) (C : Addr) (cl : List (Str × Addr)) (fp : List Addr), GG (X.blk s H scope (compEnvC scope cl C X.env) fp) tg (own.map (·.2)) mg) (ht : ∀ (s : Shared) (H : Hp) (C : Addr) (cl : List (Str × Addr)) (fp : List Addr), GTs (X.blk s H scope (compEnvC scope cl C X.env) fp) ifs nt mt)
    (he : ∀ (s : Shared) (H : Hp) (C : Addr) (cl : List (Str × Addr)) (fp : List Addr), GE (X.blk s H scope (compEnvC scope cl C X.env) fp) elt ne me) (hs : ∀ x, foldedSetIterable iter X.env x = pure x := by intro _; rfl) :
    GF X (.ListComp elt [⟨tg, iter, ifs, 0⟩] scope pos) (ni + c) (mLcSC (nt + ne) c mi mg mt me (own.map (·.2))) := pe_imp (pe_lc hc hN hi ok hg ht he hs) fun σ H Q h => lcS_ok h
theorem gs_setLcS (c : Nat) {i : Nat} {y : Str} (hc : X.calm = true) (hN : X.N.Nodup) (hy : X.N[i]? = some y) (hyl : X.env.scope.names.lookup y = some .local)
    (hsw : swapsWith (.ListComp elt [⟨tg, iter, ifs, 0⟩] scope pos) (some (.Name y py)) spos.line X.env = pure true) (hi : GI X tg iter ni mi) (ok : BlkOk X.N X.env.scope scope own)
    (hg : ∀ (s : Shared) (H : Hp) (C : Addr) (cl : List (Str × Addr)) (fp : List Addr), GG (X.blk s H scope (compEnvC scope cl C X.env) fp) tg (own.map (·.2)) mg) (ht : ∀ (s : Shared) (H : Hp) (C : Addr) (cl : List (Str × Addr)) (fp : List Addr), GTs (X.blk s H scope (compEnvC scope cl C X.env) fp) ifs nt mt)
    (he : ∀ (s : Shared) (H : Hp) (C : Addr) (cl : List (Str × Addr)) (fp : List Addr), GE (X.blk s H scope (compEnvC scope cl C X.env) fp) elt ne me) (hs : ∀ x, foldedSetIterable iter X.env x = pure x := by intro _; rfl) :
    GS X (.Assign [.Name y py] (.ListComp elt [⟨tg, iter, ifs, 0⟩] scope pos) spos) (ni + c) (sSetF i (mLcSC (nt + ne) c mi mg mt me (own.map (·.2)))) := ps_imp (ps_setLc hc hN hy hyl hsw hi ok hg ht he hs) fun D σ H h => by
  obtain ⟨W, B, G0, H0, G, env, E, R, hm, q⟩ := h
  refine lcS_ok ⟨W, B, G0, H0, G, env, _, R, hm, fun xs e1 p G1 H1 p1 s1 R1 d1 => ?_⟩
  exact q.nx _ _ _ _ p1 s1 (R1.set_own d1)
end
end DL
namespace DL
open PySem PySem.Spec PyProof.Rows L2
/-! ### instances made -/
theorem make_guards {A : Around} {C : Addr} {us : List Value} {kw : List (Str × Value)} : (A.under (.builtin "type.__call__" ⟨.ref C :: us, kw⟩)).guards = A.guards := by
  first | rfl | simp [Around.under, Code.weight, Code.isCreation, Code.isGuard, Code.isCaller, Code.frames, Code.isFrame, guardIds]
theorem Rm.make {k : Nat} {A : Around} (r : Rm (k + 1) A) (C : Addr) (us : List Value) (kw : List (Str × Value)) : Rm k (A.under (.builtin "type.__call__" ⟨.ref C :: us, kw⟩)) := ⟨r.rm.make C us kw, by rw [make_guards]; exact r.gd⟩
structure MkM (P : Program) (w : World) (K : PySem.W.Frag) (mg : Str → Option Value) (base : Heap) (x : Str) (C : Addr) (k : Nat) (ps : List Str) (c : Nat) (sp : SpM) : Prop where
  ex : ∃ f fd, FnG P w K mg base CX0 k f fd ps (spDM K c sp) ∧ Mk K C f ∧ Binds K fd ps [] ∧ mg x = some (.ref C)
section
variable {X : Cx} {C : Addr} {k : Nat} {ps : List Str} {x : Str} {p pos : Pos} {e : Expr} {es : List Expr} {t : TA} {spv : Sp} {f : Addr} {fd : FuncData}
theorem run_makeG {pins : List (Addr × Obj)} {σ : L2.St} {H : Hp} {s : Shared} {Q : VK} {us : List Value} {vs : List V} (M : Mk X.K C f) (F : FnG X.prog X.w X.K X.mg X.base CX0 k f fd ps spv) (hr : Rm (k + 1) X.A) {ds : List Value} {dvs : List V} (hb : Binds X.K fd ps ds) (hd : Vals dvs ds)
    (I : Inv X pins σ H s) (r : Vals vs us)
    (h : ∀ x dx, H x = none → H dx = none → dx ≠ x → spv (.ref x :: (vs ++ dvs)) (upd (upd H dx (.own x)) x (.ins C dx [])) (fun v H2 => v = .non ∧ Q (.ref x) H2) E0) :
    wpAny (model X.prog X.w) X.A (call (.ref C) us) (EP X pins σ Q) X.xe s := by
  have hq := h (s.heap.objs.size + 1) s.heap.objs.size (I.hok.fresh (Nat.le_succ _)) (I.hok.fresh (Nat.le_refl _)) (Nat.ne_of_lt (Nat.lt_succ_self _))
  have I2 := Inv.made (C := C) I
  have r2 : Vals (V.ref (s.heap.objs.size + 1) :: (vs ++ dvs)) (Value.ref (s.heap.objs.size + 1) :: (us ++ ds)) := .cons rfl (r.append hd)
  have hl : (Value.ref (s.heap.objs.size + 1) :: us ++ ds).length = ps.length := by
    have e := r2.length
    rw [F.len _ _ _ _ hq] at e
    exact e.symm
  refine wpAny_call (make_map (f := f) I.kIn M.makes M.init (beq_iff_eq.mp M.fn) (codeAny_mono (F.run _ X.stack _ _ ⟨Value.ref (s.heap.objs.size + 1) :: us, []⟩ (Value.ref (s.heap.objs.size + 1) :: (us ++ ds)) _ _ E0 (hr.make C us [])
    (I2.env0.make C us []) (hb _ (Value.ref (s.heap.objs.size + 1) :: us) I2.kIn hl) r2 hq) fun r s' hq' => ?_))
  cases r with
  | error e => exact hq'.elim
  | ok fl =>
    cases fl with
    | ret u =>
      obtain ⟨v, H', I3, rv, ev, q3⟩ := I2.after hq'
      subst ev
      exact ⟨rv, ⟨V.ref (s.heap.objs.size + 1), H', I3, rfl, q3⟩⟩
    | next => exact False.elim hq'
    | brk => exact False.elim hq'
    | cont => exact False.elim hq'
theorem pe_makeG (M : Mk X.K C f) (F : FnG X.prog X.w X.K X.mg X.base CX0 k f fd ps spv) (hr : Rm (k + 1) X.A) (hg : Gl X x) (hm : X.mg x = some (.ref C)) (hb : Binds X.K fd ps [])
    (ha : PA X (e :: es) t) (hdb : (x == ("__debug__" : Str)) = false := by decide) (he : starEach (e :: es) X.env = (false, eval e X.env) :: starEach es X.env := by rfl) (hpl : (backTo pos (starEach es X.env)).any (·.1) = false := by rfl) :
    PE X (.Call (.Name x p) (e :: es) [] pos) (tMake C spv [] E0 t) := by
  refine ⟨fun pins s σ H Q I h => ?_⟩
  refine wpAny_Call_Name_kw (ld_glob I hg hm ?_ hdb)
  refine PySem.W.callWith_K (h₀ := X.base) I.ok.mod.kin M.kp (thn (ha.run pos pins s σ H _ I h) fun us s1 ⟨vs, H1, I1, r, q⟩ => ⟨I1.kIn, ?_⟩) he hpl
  exact run_makeG M F hr hb .nil I1 r q
end
theorem argsL_of {K : PySem.W.Frag} {k : Wk} {sh : List Addr} {G H : Hp} : ∀ {vs : List V} {as : List EV}, ArgsOk K k G vs as → ArgsL K k sh G H sh.length vs as
  | _, _, .nil => .nil
  | _, _, .cons a t => .cons a (argsL_of t)
/-- C(..).m() -/
def mMkM (C : Addr) (m : Str) (spI spM : SpM) (a : MA) : ME := fun env P => a env fun as e1 => spI (.mo (some 0) (.ins C []) :: as) fun y cs => y = .none ∧ ∃ fs, cs = [.ins C fs] ∧ fs.lookup m = none ∧ spM [.mo (some 0) (.ins C fs)] fun z _ => P z e1
section
variable {X : Cx} {C : Addr} {m x : Str} {k1 k2 ci cm : Nat} {ps1 ps2 : List Str} {spI spM : SpM} {p p2 apos pos : Pos} {e : Expr} {es : List Expr} {m1 : MA} {n1 : Nat}
theorem mkm_ok {σ : L2.St} {H : Hp} {Q : VK} (h : tD X.K (n1 + (ci + cm)) (mMkM C m spI spM m1) σ H Q) : tMeth C m (spDM X.K cm spM) [] E0 (tMake C (spDM X.K ci spI) [] E0 (tA X.K n1 m1)) tNil σ H Q := by
  obtain ⟨W, B, G0, H0, G, env, P, R, hm, q⟩ := h
  refine ⟨W, B + (ci + cm), G0, H0, G, env, _, R.le (by omega), hm, fun as e1 vs G1 H1 p1 s1 R1 a1 a dx ha hdx hne => ?_⟩
  show spDM X.K ci spI (.ref a :: (vs ++ [])) _ _ _
  rw [List.append_nil]
  have ga : G1 a = none := R1.pub.free ha
  have ndk : ∀ b, H1 b = none → ¬ W.dk.mu b := fun b hb mm => by
    obtain ⟨o, ho⟩ := W.dk.trk _ H1 b R1.inv.1 mm
    rw [hb] at ho
    cases ho
  have up : ∀ b o, H1 b = some o → upd (upd H1 dx (.own a)) a (.ins C dx []) b = some o := fun b o hb => by
    rw [upd_ne (ne_of_none hb ha), upd_ne (ne_of_none hb hdx)]
    exact hb
  have dkl : ∀ B', W.dk.inv B' H1 → W.dk.inv B' (upd (upd H1 dx (.own a)) a (.ins C dx [])) := fun B' hi => W.dk.loc B' H1 _ (fun b mb => by
    obtain ⟨o, ho⟩ := W.dk.trk _ H1 b hi mb
    rw [up b o ho, ho]) hi
  have step : RW (.of W.dk) (B + (ci + cm)) G1 H1 G1 (upd (upd H1 dx (.own a)) a (.ins C dx [])) :=
    ⟨Same.refl _, R1.pub.after up, fun b mb => R1.gm b (.inl (of_mu.mp mb)), of_inv.mpr (dkl _ R1.inv.1), fun b o hb _ => up b o hb, fun b o h1 h2 => by rw [h1] at h2; cases h2⟩
  refine ⟨⟨W.dk, [a]⟩, B + cm, G1, _, _, by simp, ⟨Same.refl _, step.pub, fun b mb => ?_, ⟨(W.dk.low _ _ _ (by omega) (dkl _ R1.inv.1)), fun b hb => ?_, fun b hb => ?_⟩, fun _ _ h _ => h, fun b o h1 h2 => by rw [h1] at h2; cases h2⟩, .mo (c := .ins C []) rfl (show ∃ dx' us, _ ∧ _ from ⟨dx, [], upd_same, .nil⟩) (argsL_of a1), p1, fun y v cs G2 H2 p2 r2 hc d2 => ?_⟩
  · rcases mb with mb | mb
    · exact R1.gm b (.inl mb)
    · have : b = a := by simpa using mb
      subst this
      exact ga
  · have : b = a := by simpa using hb
    subst this
    exact ndk b ha
  · have : b = a := by simpa using hb
    subst this
    exact ⟨_, upd_same⟩
  · obtain ⟨ey, fs, ec, hno, hsp⟩ := p2
    subst ey
    subst ec
    obtain ⟨c', hc1, hc2⟩ := hc 0 a rfl
    cases hc1
    obtain ⟨dx', us, hl, hq⟩ := hc2
    cases dp_non d2
    have r1 : RW (.of W.dk) (B + cm) G1 H1 G2 H2 := (step.le (B' := B + (ci + cm)) (by omega)).trans (W' := ⟨W.dk, [a]⟩) rfl (fun b hb => .inr (by
      have : b = a := by simpa using hb
      subst this
      exact ha)) r2
    refine ⟨rfl, a, dx', us, rfl, hl, drFs_no hq hno, ?_⟩
    show spDM X.K cm spM [.ref a] H2 Q E0
    refine ⟨⟨W.dk, [a]⟩, B, G2, _, _, by simp, r2.self, .mo (c := .ins C fs) rfl (show ∃ dx' us, _ ∧ _ from ⟨dx', us, hl, hq⟩) .nil, hsp, fun z v cs G3 H3 p3 r3 _ d3 => ?_⟩
    have r4 : RW (.of W.dk) B G1 H1 G3 H3 := r1.trans (W' := ⟨W.dk, [a]⟩) rfl (fun b hb => .inr (by
      have : b = a := by simpa using hb
      subst this
      exact ha)) r3
    exact q z e1 v G3 H3 p3 (s1.trans r4.g0) (R1.after r4) d3
theorem ge_mkm {pl : Sem Bool} (MI : MkM X.prog X.w X.K X.mg X.base x C k1 ps1 ci spI) (MM : MthM X.prog X.w X.K X.mg X.base C m k2 ps2 cm spM) (cl : Cls X.K C) (r1 : Rm (k1 + 1) X.A) (r2 : Rm k2 X.A) (hg : Gl X x) (ha : GA X (e :: es) n1 m1)
    (hdb : (x == ("__debug__" : Str)) = false := by decide) (he : starEach (e :: es) X.env = (false, eval e X.env) :: starEach es X.env := by rfl) (hpl : (backTo p2 (starEach es X.env)).any (·.1) = false := by rfl)
    (ht : eval (.Call (.Attribute (.Call (.Name x p) (e :: es) [] p2) m apos) [] [] pos) X.env = (do
      let ov ← eval (.Call (.Name x p) (e :: es) [] p2) X.env
      standAt apos.atName
      let (f, first) ← holding [ov] (getMethod ov m pl)
      callWith pos f first (backTo pos (starEach [] X.env)) (backToKw pos (keywordEach [] X.env))) := by rfl) :
    GE X (.Call (.Attribute (.Call (.Name x p) (e :: es) [] p2) m apos) [] [] pos) (n1 + (ci + cm)) (mMkM C m spI spM m1) := by
  obtain ⟨f1, fd1, F1, M1, b1, g1⟩ := MI.ex
  obtain ⟨f2, fd2, F2, M2, b2⟩ := MM.ex
  exact pe_imp (pe_meth0G (pl := pl) (pe_makeG M1 F1 r1 hg g1 b1 ha hdb he hpl) cl M2 F2 r2 b2 ht) fun σ H Q h => mkm_ok h
end
end DL
namespace DL
open PySem PySem.Spec PyProof.Rows L2
/-! ### dicts -/
def keyOf : D → Option Key
  | .int i => some (.inl i)
  | .str z => some (.inr z)
  | _ => none
theorem keyOf_kV {K : PySem.W.Frag} {G : Hp} {v : V} {x : D} {k : Key} (h : keyOf x = some k) (d : Dr K G v x) : v = kV k := by
  cases x <;> simp [keyOf] at h
  · subst h
    cases d
    rfl
  · subst h
    cases d
    rfl
theorem keyOf_keyD (k : Key) : keyOf (keyD k) = some k := by cases k <;> rfl
def putKD : List (Key × D) → Key → D → List (Key × D)
  | [], k, y => [(k, y)]
  | (g, x) :: r, k, y => if g = k then (g, y) :: r else (g, x) :: putKD r k y
def valKD : List (Key × D) → Key → Option D
  | [], _ => none
  | (g, x) :: r, k => if g = k then some x else valKD r k
/-- of published ones -/
def valDD : List (D × D) → Key → Option D
  | [], _ => none
  | (g, x) :: r, k => if keyOf g = some k then some x else valDD r k
theorem valV_cons {g k : Key} {v : V} {r : List (Key × V)} : valV ((g, v) :: r) k = if g = k then some v else valV r k := by
  unfold valV
  rw [List.find?_cons]
  by_cases h : g = k
  · simp [h]
  · simp [h]
theorem putK_cons {g k : Key} {x v : V} {r : List (Key × V)} (nd : (((g, x) :: r).map (·.1)).Nodup) : putK ((g, x) :: r) k v = if g = k then (g, v) :: r else (g, x) :: putK r k v := by
  unfold putK
  by_cases h : g = k
  · subst h
    rw [if_pos rfl, if_pos (by simp)]
    rw [List.map_cons, List.nodup_cons] at nd
    rw [List.map_cons, if_pos rfl]
    congr 1
    conv => rhs; rw [← List.map_id r]
    refine List.map_congr_left fun p hp => ?_
    rw [if_neg fun z => nd.1 (List.mem_map.mpr ⟨p, hp, z⟩)]
    rfl
  · rw [if_neg h]
    by_cases z : (r.any fun kv => decide (kv.1 = k)) = true
    · rw [if_pos z, if_pos (by rw [List.any_cons, z, Bool.or_true]), List.map_cons, if_neg h]
    · rw [if_neg z, if_neg (by rw [List.any_cons]; simp [h]; simpa using z)]
      rfl
section
variable {K : PySem.W.Frag} {G : Hp}
theorem fs_keys : ∀ {us : List (Key × V)} {ks : List (Key × D)}, DrFs K G us ks → us.map (·.1) = ks.map (·.1)
  | _, _, .nil => rfl
  | _, _, .cons _ t => by rw [List.map_cons, List.map_cons, fs_keys t]
theorem fs_val (k : Key) : ∀ {us : List (Key × V)} {ks : List (Key × D)}, DrFs K G us ks → (∃ v y, valV us k = some v ∧ valKD ks k = some y ∧ Dr K G v y) ∨ (valV us k = none ∧ valKD ks k = none)
  | _, _, .nil => .inr ⟨rfl, rfl⟩
  | _, _, .cons (k := g) a t => by
    rw [valV_cons, valKD]
    by_cases h : g = k
    · rw [if_pos h, if_pos h]
      exact .inl ⟨_, _, rfl, rfl, a⟩
    · rw [if_neg h, if_neg h]
      exact fs_val k t
theorem fs_put {k : Key} {v : V} {y : D} (a : Dr K G v y) : ∀ {us : List (Key × V)} {ks : List (Key × D)}, DrFs K G us ks → (ks.map (·.1)).Nodup → DrFs K G (putK us k v) (putKD ks k y)
  | _, _, .nil, _ => .cons a .nil
  | _, _, .cons (k := g) (v := v0) (vs := vs0) b t, nd => by
    have nd2 : (((g, v0) :: vs0 : List (Key × V)).map (·.1)).Nodup := by
      rw [List.map_cons, fs_keys t]
      rw [List.map_cons] at nd
      exact nd
    rw [putK_cons nd2, putKD]
    by_cases h : g = k
    · rw [if_pos h, if_pos h]
      exact .cons a t
    · rw [if_neg h, if_neg h]
      rw [List.map_cons, List.nodup_cons] at nd
      exact .cons b (fs_put a t nd.2)
theorem kv_val (k : Key) : ∀ {us : List (Key × V)} {ds : List (D × D)}, DrKv K G us ds → (∃ v y, valV us k = some v ∧ valDD ds k = some y ∧ Dr K G v y) ∨ (valV us k = none ∧ valDD ds k = none)
  | _, _, .nil => .inr ⟨rfl, rfl⟩
  | _, _, .cons (k := g) a t => by
    rw [valV_cons, valDD, keyOf_keyD]
    by_cases h : g = k
    · rw [if_pos h, if_pos (by rw [h])]
      exact .inl ⟨_, _, rfl, rfl, a⟩
    · rw [if_neg h, if_neg (fun z => h (Option.some.inj z))]
      exact kv_val k t
end
/-- a new object in a slot -/
theorem Rel.newM {K : PySem.W.Frag} {W : Wd} {B : Nat} {G0 H0 G H : Hp} {env : DEnv} {σ : L2.St} {i : Nat} {p : Addr} {o : HO} {c : SC} (r : Rel K W B G0 H0 G env σ H) (hg : G p = none) (h0 : H0 p = none) (hm : ¬ W.mu p)
    (ho : ∀ (i : Nat) l w c, env[i]? = some (.mo w c) → σ[i]? = some (some (.ref l)) → l ≠ p) (hc : ScOk K G (upd H p o) p c) : Rel K W B G0 H0 G (env.set i (.mo none c)) (σ.set i (some (.ref p))) (upd H p o) where
  g0 := r.g0
  pub := fun a u e => by
    have ne : a ≠ p := fun z => by
      subst z
      rw [hg] at e
      cases e
    rw [upd_ne ne]
    exact r.pub a u e
  gm := r.gm
  inv := W.loc _ H _ (fun a m => by
    have ne : a ≠ p := fun z => by
      subst z
      exact hm m
    rw [upd_ne ne]) r.inv
  fr := fun a u e m => by
    have ne : a ≠ p := fun z => by
      subst z
      rw [h0] at e
      cases e
    rw [upd_ne ne]
    exact r.fr a u e m
  pn := r.pn
  len := by rw [List.length_set, List.length_set]; exact r.len
  slot := fun j e s h1 h2 => by
    by_cases z : i = j
    · subst z
      by_cases hl : i < env.length
      · rw [List.getElem?_set_self hl] at h1
        rw [List.getElem?_set_self (r.len ▸ hl)] at h2
        cases h1
        cases h2
        exact ⟨p, rfl, hg, ⟨h0, hm⟩, hc⟩
      · rw [List.getElem?_eq_none (by rw [List.length_set]; omega)] at h1
        cases h1
    · rw [List.getElem?_set_ne z] at h1 h2
      have q := r.slot j e s h1 h2
      cases e with
      | un => trivial
      | d x => exact q
      | hd => exact q
      | «at» _ => trivial
      | mo w2 c2 =>
        obtain ⟨l2, ee, n2, o2, q1⟩ := q
        subst ee
        refine ⟨l2, rfl, n2, o2, scok_later (Same.refl _) (fun u hu => ?_) q1⟩
        rw [upd_ne (ho j l2 w2 c2 h1 h2)]
        exact hu
  dis := fun j k wi ci wj cj l ne h1 h2 h3 h4 => by
    have bd : ∀ {n : Nat} {y}, (env.set i (.mo none c))[n]? = some y → n < env.length := fun {n y} h => by
      have := (List.getElem?_eq_some_iff.mp h).1
      rw [List.length_set] at this
      exact this
    have b1 := bd h1
    have b2 := bd h2
    by_cases z1 : i = j
    · subst z1
      rw [List.getElem?_set_self (r.len ▸ b1)] at h3
      cases h3
      rw [List.getElem?_set_ne ne] at h2 h4
      exact ho k _ _ _ h2 h4 rfl
    · rw [List.getElem?_set_ne z1] at h1 h3
      by_cases z2 : i = k
      · subst z2
        rw [List.getElem?_set_self (r.len ▸ b2)] at h4
        cases h4
        exact ho j _ _ _ h1 h3 rfl
      · rw [List.getElem?_set_ne z2] at h2 h4
        exact r.dis j k wi ci wj cj l ne h1 h2 h3 h4
/-- x = {..}, x a dict of one's own -/
def sSetD (i : Nat) (ms : List Ent) : MS := fun E env => mKvs ms env fun kvs e1 => E.nx (e1.set i (.mo none (.dic (kvs.map fun p => (Sum.inr p.1, p.2)))))
def sSetD0 (i : Nat) : MS := fun E env => E.nx (env.set i (.mo none (.dic [])))
/-- x[k] = e -/
def sDputM (i : Nat) (mv mk : ME) : MS := fun E env => mv env fun y e1 => (∃ w kvs, e1[i]? = some (.mo w (.dic kvs))) ∧ mk e1 fun z e2 => match e2[i]?, keyOf z with
  | some (.mo w (.dic kvs)), some k => ((kvs.map (·.1)).Nodup ∧ kvs.length < sizeLine) ∧ E.nx (e2.set i (.mo w (.dic (putKD kvs k y))))
  | _, _ => False
/-- x[k] -/
def mDixM (i : Nat) (mk : ME) : ME := fun env P => (∃ w kvs, env[i]? = some (.mo w (.dic kvs))) ∧ mk env fun z e1 => match e1[i]?, keyOf z with
  | some (.mo _ (.dic kvs)), some k => ∃ y, valKD kvs k = some y ∧ P y e1
  | _, _ => False
/-- k in x -/
def mDinM (neg : Bool) (i : Nat) (mk : ME) : MT := fun env P => mk env fun z e1 => match e1[i]?, keyOf z with
  | some (.mo _ (.dic kvs)), some k => P (if neg then !(valKD kvs k).isSome else (valKD kvs k).isSome) e1
  | _, _ => False
/-- a published dict: d[k] -/
def dDix : D → D → (D → Prop) → Prop
  | .dict ds, z, P => match keyOf z with
    | some k => ∃ y, valDD ds k = some y ∧ P y
    | none => False
  | _, _, _ => False
def fsKv (kvs : List (Str × D)) : List (Key × D) := kvs.map fun p => (Sum.inr p.1, p.2)
theorem kv_fs {K : PySem.W.Frag} {G : Hp} : ∀ {vs : List (Key × V)} {kvs : List (Str × D)}, DrKv K G vs (kvD kvs) → vs.map (·.1) = kvs.map (fun p => Sum.inr p.1) → DrFs K G vs (fsKv kvs)
  | [], [], _, _ => .nil
  | [], _ :: _, _, e => by cases e
  | _ :: _, [], _, e => by cases e
  | (g, v) :: vs, (z, y) :: kvs, h, e => by
    rw [List.map_cons, List.map_cons] at e
    have e1 : g = Sum.inr z := (List.cons.inj e).1
    subst e1
    cases h with
    | cons a t => exact .cons a (kv_fs t (List.cons.inj e).2)
theorem kv_keys {K : PySem.W.Frag} {G : Hp} : ∀ {vs : List (Key × V)} {kvs : List (Str × D)}, DrKv K G vs (kvD kvs) → vs.map (·.1) = kvs.map (fun p => Sum.inr p.1)
  | [], [], _ => rfl
  | [], _ :: _, h => by cases h
  | _ :: _, [], h => by cases h
  | (g, v) :: vs, (z, y) :: kvs, h => by
    have h : DrKv K G ((g, v) :: vs) ((.str z, y) :: kvD kvs) := h
    generalize hz : PyData.str z = dz at h
    cases h with
    | cons a t =>
      rw [List.map_cons, List.map_cons, kv_keys t]
      congr 1
      cases g with
      | inl _ => cases hz
      | inr _ =>
        cases hz
        rfl
section
variable {X : Cx} {pos pos' px : Pos} {keys : List (Option Expr)} {values : List Expr} {i : Nat} {x : Str} {e b a : Expr} {nv nb na : Nat} {mv mk ma mb : ME}
theorem gs_setD {pt : Pos} (ms : List Ent) (hN : X.N.Nodup) (hi : X.N[i]? = some x) (hx : Loc X.env.scope x) (h : PPs X pos keys values (dispT X.K ms)) (hall : keys.all (·.isSome) = true) (hl : keys.length = values.length) (h0 : keys ≠ []) (h15 : keys.length ≤ 15) (nd : (ms.map (·.1)).Nodup) (hk : ms.length ≤ 15)
    (hs : swapsWith (.Dict keys values pos) (some (.Name x pt)) pos'.line X.env = pure false := by rfl) (hf : X.fn x = true ∨ X.env.scope.names.lookup x = some .local := by first | exact .inl rfl | exact .inr rfl) :
    GS X (.Assign [.Name x pt] (.Dict keys values pos) pos') (dispN ms) (sSetD i ms) := ps_imp (ps_set hN hi hx (pe_disp h hall hl h0 h15) hs hf) fun D σ H h => by
  obtain ⟨W, B, G0, H0, G, env, E, R, hm, q⟩ := h
  intro p hp
  obtain ⟨R1, f1, f2, f3, f4⟩ := R.fresh (o := .dK []) hp
  have R2 := R1.guard upd_same f1 f4
  have g0 : G0 p = none := R.g0.free f1
  refine pairs_ok ms B G _ env _ _ R2 hm fun kvs e1 G1 H1 vs p1 s1 R3 dv ek => ?_
  obtain ⟨R4, hp4, gp4, ho4⟩ := R3.unguard f3 g0 f2
  have vl : vs.length = ms.length := by
    have := congrArg List.length ek
    simpa using this
  refine ⟨hp4, vs, rfl, by omega, ?_⟩
  have em : mergeK [] vs = vs := by
    refine merge_new vs [] ?_
    rw [List.nil_append, ek]
    have e2 : (ms.map fun t => (Sum.inr t.1 : Key)) = (ms.map (·.1)).map Sum.inr := by
      rw [List.map_map]
      rfl
    rw [e2]
    exact List.Pairwise.map _ (fun a b z w => z (Sum.inr.inj w)) nd
  rw [em]
  have ek2 := kv_keys dv
  exact q.nx _ _ _ _ p1 s1 (R4.newM gp4 f2 f3 ho4 (show ∃ us, _ ∧ _ from ⟨vs, upd_same, kv_fs dv ek2⟩))
theorem gs_setD0 {pt : Pos} (hN : X.N.Nodup) (hi : X.N[i]? = some x) (hx : Loc X.env.scope x) (hs : swapsWith (.Dict [] [] pos) (some (.Name x pt)) pos'.line X.env = pure false := by rfl) (hf : X.fn x = true ∨ X.env.scope.names.lookup x = some .local := by first | exact .inl rfl | exact .inr rfl) :
    GS X (.Assign [.Name x pt] (.Dict [] [] pos) pos') 0 (sSetD0 i) := ps_imp (ps_set hN hi hx pe_dnewK hs hf) fun D σ H h => by
  obtain ⟨W, B, G0, H0, G, env, E, R, hm, q⟩ := h
  intro p hp
  obtain ⟨R1, f1, f2, f3, f4⟩ := R.fresh (o := .dK []) hp
  exact q.nx _ _ _ _ hm (Same.refl _) (R.newM f1 f2 f3 f4 (show ∃ us, _ ∧ _ from ⟨[], upd_same, .nil⟩))
theorem gs_dputM (i : Nat) {x : Str} (hu : X.A.units + 64 < cLine) (he : GE X e nv mv) (hb : GE X b nb mk) (hN : X.N[i]? = some x := by rfl) (hv : Vis X.env.scope x := by first | exact Or.inl rfl | exact Or.inr (Or.inl rfl) | exact Or.inr (Or.inr rfl)) (hd : (x == ("__debug__" : Str)) = false := by decide)
    (hcd : (x == ("__classdict__" : Str)) = false := by decide) (hs : swapsWith e (some (.Subscript (.Name x px) b pos')) pos.line X.env = pure false := by rfl) :
    GS X (.Assign [.Subscript (.Name x px) b pos'] e pos) (nv + nb) (sDputM i mv mk) := ps_imp (ps_dput (by omega) (pe_var hN hv hd hcd) hb he hs) fun D σ H h => by
  obtain ⟨W, B, G0, H0, G, env, E, R, hm, q⟩ := h
  refine ⟨W, B + nb, G0, H0, G, env, _, R.le (by omega), hm, fun y e1 v G1 H1 p1 s1 R1 d1 => ?_⟩
  obtain ⟨⟨w, kvs, hx⟩, p1⟩ := p1
  obtain ⟨l, f1, _, _, us, hl, hq⟩ := R1.get_mo hx
  refine ⟨_, f1, W, B, G0, H0, G1, e1, _, R1, p1, fun z e2 u G2 H2 p2 s2 R2 d2 => ?_⟩
  split at p2
  · rename_i w2 kvs2 k hy hk
    obtain ⟨l2, f2, _, _, us2, hl2, hq2⟩ := R2.get_mo hy
    rw [f1] at f2
    cases f2
    have ek := keyOf_kV hk d2
    subst ek
    obtain ⟨⟨nd, hlen⟩, hP⟩ := p2
    refine ⟨l, _, rfl, DPut.k hl2 (by rw [drFs_len hq2]; exact hlen), ?_⟩
    exact q.nx _ _ _ _ hP (s1.trans s2) (R2.put hy f1 (show ∃ us, _ ∧ _ from ⟨_, upd_same, fs_put (dp_same s2 d1) hq2 nd⟩))
  · exact p2.elim
theorem ge_dixM (i : Nat) {x : Str} (hu : X.A.units + 64 < cLine) (hb : GE X b nb mk) (hsl : NoSl b) (hN : X.N[i]? = some x := by rfl) (hv : Vis X.env.scope x := by first | exact Or.inl rfl | exact Or.inr (Or.inl rfl) | exact Or.inr (Or.inr rfl)) (hd : (x == ("__debug__" : Str)) = false := by decide)
    (hcd : (x == ("__classdict__" : Str)) = false := by decide) : GE X (.Subscript (.Name x px) b pos) nb (mDixM i mk) := pe_imp (pe_dget (by omega) (pe_var hN hv hd hcd) hb hsl) fun σ H Q h => by
  obtain ⟨W, B, G0, H0, G, env, P, R, ⟨⟨w, kvs, hx⟩, hm⟩, q⟩ := h
  obtain ⟨l, f1, _, _, us, hl, hq⟩ := R.get_mo hx
  refine ⟨_, f1, W, B, G0, H0, G, env, _, R, hm, fun z e2 u G2 H2 p2 s2 R2 d2 => ?_⟩
  split at p2
  · rename_i w2 kvs2 k hy hk
    obtain ⟨l2, f2, _, _, us2, hl2, hq2⟩ := R2.get_mo hy
    rw [f1] at f2
    cases f2
    have ek := keyOf_kV hk d2
    subst ek
    obtain ⟨y, hv, hP⟩ := p2
    rcases fs_val k hq2 with ⟨v, y', g1, g2, dv⟩ | ⟨_, g2⟩
    · rw [hv] at g2
      cases g2
      refine ⟨l, v, rfl, ?_, q _ _ _ _ _ hP s2 R2 dv⟩
      rw [← g1]
      exact DGet.k hl2
    · rw [hv] at g2
      cases g2
  · exact p2.elim
theorem ge_dix (hu : X.A.units + 64 < cLine) (ha : GE X a na ma) (hb : GE X b nb mb) (hsl : NoSl b) : GE X (.Subscript a b pos) (na + nb) (mOp dDix ma mb) := pe_imp (pe_dget (by omega) ha hb hsl) fun σ H Q h => by
  refine two_ok (r := fun x y H Q => ∃ a v, x = .ref a ∧ DGet H a y (some v) ∧ Q v H) (fun x y H Q z => ?_) h
  obtain ⟨G, dx, dy, P, sG, d1, d2, hf, q⟩ := z
  unfold dDix at hf
  split at hf
  · obtain ⟨l, us, rfl, hl, hq⟩ := dp_dic d1
    split at hf
    · rename_i k hk
      have ek := keyOf_kV hk d2
      subst ek
      obtain ⟨y', hv, hP⟩ := hf
      rcases kv_val k hq with ⟨v, y2, g1, g2, dv⟩ | ⟨_, g2⟩
      · rw [hv] at g2
        cases g2
        refine ⟨l, v, rfl, ?_, q _ _ G H hP (Grow.refl sG) dv⟩
        rw [← g1]
        exact dget_rd (sG.dk hl)
      · rw [hv] at g2
        cases g2
    · exact hf.elim
  · exact hf.elim
end
end DL
namespace DL
open PySem PySem.Spec PyProof.Rows L2
/-! ### a dict of the module: texts to texts or numbers -/
def lookS (kvs : List (Str × D)) (z : Str) : Option D := kvs.lookup z
structure GDict (K : PySem.W.Frag) (w : World) (mg : Str → Option Value) (x : Str) (kvs : List (Str × D)) : Prop where
  ex : ∃ (d : Addr) (es : Array DictEntry) (n : Nat), mg x = some (.ref d) ∧ KDict K w d es n ∧ ∀ z : Str, (kvs.lookup z = none ∧ PySem.W.nsIn K d z = some none) ∨ ∃ y u v, kvs.lookup z = some y ∧ PySem.W.nsIn K d z = some (some u) ∧ RelV v u ∧ ∀ G, Dr K G v y
/-- entries by data -/
inductive EntR (K : PySem.W.Frag) : List DictEntry → List (Str × D) → Prop
  | nil : EntR K [] []
  | cons {e : DictEntry} {es : List DictEntry} {z : Str} {t : Tok} {y : D} {v : V} {kvs : List (Str × D)} : e.key = .str z t → RelV v e.val → (∀ G, Dr K G v y) → EntR K es kvs → EntR K (e :: es) ((z, y) :: kvs)
theorem entR_ref {K : PySem.W.Frag} : ∀ {es : List DictEntry} {kvs : List (Str × D)}, EntR K es kvs → es.any (·.refKey) = false
  | _, _, .nil => rfl
  | _, _, .cons (e := e) h _ _ t => by
    rw [List.any_cons, entR_ref t, Bool.or_false]
    unfold DictEntry.refKey
    rw [h]
theorem entR_find {K : PySem.W.Frag} (x : Str) : ∀ {es : List DictEntry} {kvs : List (Str × D)}, EntR K es kvs → (kvs.lookup x = none ∧ es.find? (·.key.isStr x) = none) ∨ ∃ y e v, kvs.lookup x = some y ∧ es.find? (·.key.isStr x) = some e ∧ RelV v e.val ∧ ∀ G, Dr K G v y
  | _, _, .nil => .inl ⟨rfl, rfl⟩
  | _, _, .cons (e := e) (z := z) (t := t) (y := y) (v := v) h r d tl => by
    rw [List.find?_cons, List.lookup_cons, h]
    have e1 : (Value.str z t).isStr x = (z == x) := rfl
    rw [e1]
    by_cases hz : x = z
    · subst hz
      have a1 : (x == x) = true := beq_self_eq_true x
      rw [a1]
      exact .inr ⟨y, e, v, rfl, rfl, r, d⟩
    · have a1 : (x == z) = false := beq_eq_false_iff_ne.mpr hz
      have a2 : (z == x) = false := beq_eq_false_iff_ne.mpr fun q => hz q.symm
      rw [a1, a2]
      exact entR_find x tl
theorem gdict_mk {K : PySem.W.Frag} {w : World} {h : Heap} {mg : Str → Option Value} {x : Str} {d : Addr} {es : List DictEntry} {n : Nat} {kvs : List (Str × D)} (X : K.In h) (G : h.Ns mainGlobals mg) (a : PySem.W.nsIn K mainGlobals x = some (some (.ref d)))
    (l : K.lookup d = some ⟨.type "dict", none, .dict es.toArray n, #[]⟩) (lit : PySem.W.KeysLit w.params es) (low : (d == sysModules) = false) (r : EntR K es kvs) : GDict K w mg x kvs := by
  refine ⟨d, es.toArray, n, PySem.W.mg_of X G a, ⟨l, lit, low⟩, fun z => ?_⟩
  have hn : PySem.W.nsIn K d z = (match es.find? (·.key.isStr z) with
      | some e => some (some e.val)
      | none => if es.any (·.refKey) then none else some none) := by
    unfold PySem.W.nsIn
    rw [l]
    rfl
  rcases entR_find z r with ⟨h1, h2⟩ | ⟨y, e, v, h1, h2, h3, h4⟩
  · refine .inl ⟨h1, ?_⟩
    rw [hn, h2, entR_ref r]
    rfl
  · refine .inr ⟨y, e.val, v, h1, ?_, h3, h4⟩
    rw [hn, h2]
def mGin (neg : Bool) (kvs : List (Str × D)) (m : ME) : MT := fun env P => m env fun y e1 => match y with
  | .str z => P (if neg then !(kvs.lookup z).isSome else (kvs.lookup z).isSome) e1
  | _ => False
def mGinV (neg : Bool) (kvs : List (Str × D)) (m : ME) : ME := fun env P => m env fun y e1 => match y with
  | .str z => P (.bool (if neg then !(kvs.lookup z).isSome else (kvs.lookup z).isSome)) e1
  | _ => False
def mGix (kvs : List (Str × D)) (m : ME) : ME := fun env P => m env fun y e1 => match y with
  | .str z => ∃ v, kvs.lookup z = some v ∧ P v e1
  | _ => False
section
variable {X : Cx} {e : Expr} {n : Nat} {m : ME} {x : Str} {kvs : List (Str × D)} {p pos : Pos}
theorem ix_kd {d : Addr} {es : Array DictEntry} {n : Nat} (D : KDict X.K X.w d es n) : IxR X (fun x y H Q => ∃ (z : Str) (u0 : Value) (v0 : V), x = .ref d ∧ y = .str z ∧ PySem.W.nsIn X.K d z = some (some u0) ∧ RelV v0 u0 ∧ Q v0 H) := by
  intro value slice pins s σ H x y v u Q I rx ry h hs
  have hx : x = .ref d := by
    obtain ⟨z, u0, v0, e, _⟩ := h
    exact e
  subst hx
  have hv : v = Value.ref d := rx
  subst hv
  exact tail_any (kd_type D I) PySem.F.slot_dict_getitem.lookup (op_item_kd D pins s σ H _ _ _ u Q I rx ry h) hs
theorem ge_gix (GD : GDict X.K X.w X.mg x kvs) (hg : Gl X x) (he : GE X e n m) (hs : PlainIx e) (hdb : (x == ("__debug__" : Str)) = false := by decide) : GE X (.Subscript (.Name x p) e pos) n (mGix kvs m) := by
  obtain ⟨d, es, k, hm, KD, hl⟩ := GD.ex
  refine pe_imp (pe_ix (ix_kd KD) (pe_glob (v := .ref d) hg hm rfl hdb) he hs) fun σ H Q h => ?_
  obtain ⟨W, B, G0, H0, G, env, P, R, hm, q⟩ := h
  refine ⟨W, B, G0, H0, G, env, _, R, hm, fun y e1 v G1 H1 p1 s1 R1 d1 => ?_⟩
  cases y with
  | str z =>
    cases dp_str d1
    obtain ⟨y, hy, hP⟩ := p1
    rcases hl z with ⟨h1, _⟩ | ⟨y', u, v', h1, h2, h3, h4⟩
    · rw [hy] at h1
      cases h1
    · rw [hy] at h1
      cases h1
      exact ⟨z, u, v', rfl, rfl, h2, h3, q _ _ _ _ _ hP s1 R1 (h4 G1)⟩
  | _ => exact p1.elim
theorem gin_ok {d : Addr} {σ : L2.St} {H : Hp} {Q : Bool → Hp → Prop} {neg : Bool} (hl : ∀ z : Str, (kvs.lookup z = none ∧ PySem.W.nsIn X.K d z = some none) ∨ ∃ y u v, kvs.lookup z = some y ∧ PySem.W.nsIn X.K d z = some (some u) ∧ RelV v u ∧ ∀ G, Dr X.K G v y)
    (h : tDT X.K n (mGin neg kvs m) σ H Q) : tTest (tOp (fun x y H Q => ∃ (z : Str) (r : Option Value), x = .str z ∧ y = .ref d ∧ PySem.W.nsIn X.K d z = some r ∧ Q (.bl (if neg then !r.isSome else r.isSome)) H) (tD X.K n m) (tC (.ref d))) σ H Q := by
  obtain ⟨W, B, G0, H0, G, env, P, R, hm, q⟩ := h
  refine ⟨W, B, G0, H0, G, env, _, R, hm, fun y e1 v G1 H1 p1 s1 R1 d1 => ?_⟩
  cases y with
  | str z =>
    cases dp_str d1
    rcases hl z with ⟨h1, h2⟩ | ⟨y', u, v', h1, h2, h3, h4⟩
    · refine ⟨z, none, rfl, rfl, h2, _, rfl, ?_⟩
      have p1 : P (if neg then !(kvs.lookup z).isSome else (kvs.lookup z).isSome) e1 := p1
      rw [h1] at p1
      exact q _ _ _ _ p1 s1 R1
    · refine ⟨z, some u, rfl, rfl, h2, _, rfl, ?_⟩
      have p1 : P (if neg then !(kvs.lookup z).isSome else (kvs.lookup z).isSome) e1 := p1
      rw [h1] at p1
      exact q _ _ _ _ p1 s1 R1
  | _ => exact p1.elim
theorem gt_gin (GD : GDict X.K X.w X.mg x kvs) (hg : Gl X x) (he : GE X e n m) (hdb : (x == ("__debug__" : Str)) = false := by decide) (hmk : behindInMarks .In (.Name x p) = false := by rfl) : GT X (.Compare e [.In] [.Name x p] pos) n (mGin false kvs m) := by
  obtain ⟨d, es, k, hm, KD, hl⟩ := GD.ex
  exact pt_imp (pt_cmpR (op_in_kd KD) he (pe_glob (v := .ref d) hg hm rfl hdb) hmk) fun σ H Q h => gin_ok (neg := false) hl h
theorem gt_gnin (GD : GDict X.K X.w X.mg x kvs) (hg : Gl X x) (he : GE X e n m) (hdb : (x == ("__debug__" : Str)) = false := by decide) (hmk : behindInMarks .NotIn (.Name x p) = false := by rfl) : GT X (.Compare e [.NotIn] [.Name x p] pos) n (mGin true kvs m) := by
  obtain ⟨d, es, k, hm, KD, hl⟩ := GD.ex
  exact pt_imp (pt_cmpR (op_notIn_kd KD) he (pe_glob (v := .ref d) hg hm rfl hdb) hmk) fun σ H Q h => gin_ok (neg := true) hl h
theorem ge_gin (GD : GDict X.K X.w X.mg x kvs) (hg : Gl X x) (he : GE X e n m) (hdb : (x == ("__debug__" : Str)) = false := by decide) (hmk : behindInMarks .In (.Name x p) = false := by rfl) : GE X (.Compare e [.In] [.Name x p] pos) n (mGinV false kvs m) := by
  obtain ⟨d, es, k, hm, KD, hl⟩ := GD.ex
  refine pe_imp (pe_cmpR (op_in_kd KD) he (pe_glob (v := .ref d) hg hm rfl hdb) hmk) fun σ H Q h => ?_
  obtain ⟨W, B, G0, H0, G, env, P, R, hm, q⟩ := h
  refine ⟨W, B, G0, H0, G, env, _, R, hm, fun y e1 v G1 H1 p1 s1 R1 d1 => ?_⟩
  cases y with
  | str z =>
    cases dp_str d1
    have p1 : P (.bool (kvs.lookup z).isSome) e1 := p1
    rcases hl z with ⟨h1, h2⟩ | ⟨y', u, v', h1, h2, h3, h4⟩
    · refine ⟨z, none, rfl, rfl, h2, ?_⟩
      rw [h1] at p1
      exact q _ _ _ _ _ p1 s1 R1 (.bl _)
    · refine ⟨z, some u, rfl, rfl, h2, ?_⟩
      rw [h1] at p1
      exact q _ _ _ _ _ p1 s1 R1 (.bl _)
  | _ => exact p1.elim
/-- x.partition(y) -/
def fPart : D → List D → (D → Prop) → Prop
  | .str a, [.str b], P => ((b.length == 0) = false ∧ a.length ≤ sizeLine) ∧ P (.tuple [.str (Txt.partition a b).1, .str (Txt.partition a b).2.1, .str (Txt.partition a b).2.2])
  | _, _, _ => False
theorem md_partition : MtR X "str.partition" (rDM X.K fPart) := by
  intro pins s σ H x xs v us Q I rx rs h
  obtain ⟨G, dx, ds, P, sG, d1, da, hf, q⟩ := h
  unfold fPart at hf
  split at hf
  · cases dp_str d1
    obtain ⟨w, rfl, d⟩ := all1 da
    cases dp_str d
    exact mt_partition pins s σ H _ _ v us Q I rx rs ⟨_, _, rfl, rfl, hf.1.1, hf.1.2, fun p hp => q _ _ _ _ hf.2 (Grow.new1 sG hp) (.tup (SqT.of upd_same) (.cons (.str _) (.cons (.str _) (.cons (.str _) .nil))))⟩
  · exact hf.elim
end
end DL
namespace DL
open PySem PySem.Spec PyProof.Rows L2
/-! ### f(.., [..]): a new list is lent -/
abbrev MAF := DEnv → (List EV → List D → DEnv → Prop) → Prop
def tAF (K : PySem.W.Frag) (n : Nat) (m : MAF) : TA := fun σ H Q => ∃ (W : Wd) (B : Nat) (G0 H0 G : Hp) (env : DEnv) (P : List EV → List D → DEnv → Prop), Rel K W (B + n) G0 H0 G env σ H ∧ m env P ∧
  ∀ as xs env' vs p G' H', P as xs env' → Same G G' → Rel K W B G0 H0 G' env' σ H' → ArgsOk K W.dk G' vs as → FreshAt K W H0 G' env' σ H' p xs → Q (vs ++ [.ref p]) H'
abbrev GAF (X : Cx) (es : List Expr) (n : Nat) (m : MAF) : Prop := PA X es (tAF X.K n m)
def mLastF (mf : MF) : MAF := fun env P => mf env fun xs e1 => P [] xs e1
def mConsF (a : ME) (r : MAF) : MAF := fun env P => a env fun x e1 => r e1 fun as xs e2 => P (.d x :: as) xs e2
def mConsHF (i : Nat) (r : MAF) : MAF := fun env P => match env[i]? with
  | some .hd => r env fun as xs e2 => P (.hd :: as) xs e2
  | _ => False
def mCallF (sp : SpM) (a : MAF) : ME := fun env P => a env fun as xs e1 => sp (as ++ [.mo (some 0) (.lst xs)]) fun x _ => P x e1
section
variable {X : Cx} {e : Expr} {es : List Expr} {pos : Pos} {me : ME} {m1 : MAF} {mf : MF} {ne n1 : Nat}
theorem gaf_last (h : GF X e ne mf) (hs : starEach [e] X.env = (false, eval e X.env) :: starEach [] X.env := by rfl) : GAF X [e] ne (mLastF mf) := pa_imp (pa_cons h pa_nil hs) fun σ H Q h => by
  obtain ⟨W, B, G0, H0, G, env, P, R, hm, q⟩ := h
  exact ⟨W, B, G0, H0, G, env, _, R, hm, fun xs e1 p G1 H1 p1 s1 R1 f1 => q [] xs e1 [] p G1 H1 p1 s1 R1 .nil f1⟩
theorem gaf_cons (ha : GE X e ne me) (hr : GAF X es n1 m1) (hs : starEach (e :: es) X.env = (false, eval e X.env) :: starEach es X.env := by rfl) : GAF X (e :: es) (ne + n1) (mConsF me m1) := pa_imp (pa_cons ha hr hs) fun σ H Q h => by
  obtain ⟨W, B, G0, H0, G, env, P, R, hm, q⟩ := h
  refine ⟨W, B + n1, G0, H0, G, env, _, R.le (by omega), hm, fun x e1 v G1 H1 p1 s1 R1 d1 => ⟨W, _, G0, H0, G1, e1, _, R1, p1, fun as xs e2 vs p G2 H2 p2 s2 R2 d2 f2 => ?_⟩⟩
  exact q _ xs e2 (v :: vs) p G2 H2 p2 (s1.trans s2) R2 (.cons (a := .d x) (dp_same s2 d1) d2) f2
theorem gaf_hd (i : Nat) {x : Str} (hr : GAF X es n1 m1) (hN : X.N[i]? = some x := by rfl) (hv : Vis X.env.scope x := by first | exact Or.inl rfl | exact Or.inr (Or.inl rfl) | exact Or.inr (Or.inr rfl)) (hd : (x == ("__debug__" : Str)) = false := by decide)
    (hcd : (x == ("__classdict__" : Str)) = false := by decide) (hs : starEach (.Name x pos :: es) X.env = (false, eval (.Name x pos) X.env) :: starEach es X.env := by rfl) : GAF X (.Name x pos :: es) n1 (mConsHF i m1) := pa_imp (pa_cons (pe_var hN hv hd hcd) hr hs) fun σ H Q h => by
  obtain ⟨W, B, G0, H0, G, env, P, R, hm, q⟩ := h
  unfold mConsHF at hm
  split at hm
  · obtain ⟨e1, nn⟩ := R.get_hd (by assumption)
    refine ⟨_, e1, W, B, G0, H0, G, env, _, R, hm, fun as xs e2 vs p G2 H2 p2 s2 R2 d2 f2 => ?_⟩
    exact q _ xs e2 (_ :: vs) p G2 H2 p2 s2 R2 (.cons (a := .hd) ⟨rfl, nn⟩ d2) f2
  · exact hm.elim
end
theorem argsL_snoc {K : PySem.W.Frag} {k : Wk} {l : Addr} {c : SC} {G H : Hp} (hc : ScOk K G H l c) : ∀ {vs : List V} {as : List EV}, ArgsOk K k G vs as → ArgsL K k [l] G H 0 (vs ++ [.ref l]) (as ++ [.mo (some 0) c])
  | _, _, .nil => .mo (n := 0) rfl hc .nil
  | _, _, .cons a t => .cons a (argsL_snoc hc t)
section
variable {K : PySem.W.Frag} {σ : L2.St} {H : Hp}
theorem callF_ok {cc : Nat} {sp : SpM} {E : XK} {n1 : Nat} {m1 : MAF} {Q : VK} (h : tD K (n1 + cc) (mCallF sp m1) σ H Q) : tCall (spDM K cc sp) [] E (tAF K n1 m1) σ H Q := by
  obtain ⟨W, B, G0, H0, G, env, P, R, hm, q⟩ := h
  refine ⟨W, B + cc, G0, H0, G, env, _, R.le (by omega), hm, fun as xs e1 vs p G1 H1 p1 s1 R1 a1 f1 => ?_⟩
  show spDM K cc sp ((vs ++ [.ref p]) ++ []) H1 Q E
  rw [List.append_nil]
  obtain ⟨us, hp, hg, h0, hmu, hd, hq⟩ := f1
  refine ⟨⟨W.dk, [p]⟩, B, G1, _, _, by simp, ⟨Same.refl _, R1.pub, fun a m => ?_, ⟨R1.inv.1, fun a m => ?_, fun a m => ?_⟩, fun _ _ h _ => h, fun a o h h' => by rw [h] at h'; cases h'⟩, argsL_snoc (c := .lst xs) (show ScOk K G1 H1 p (.lst xs) from ⟨us, hp, hq⟩) a1, p1, fun x v cs G2 H2 p2 r2 hc d2 => ?_⟩
  · rcases m with m | m
    · exact R1.gm a (.inl m)
    · have : a = p := by simpa using m
      subst this
      exact hg
  · have : a = p := by simpa using m
    subst this
    exact fun z => hmu (.inl z)
  · have : a = p := by simpa using m
    subst this
    exact ⟨_, hp⟩
  · refine q x _ v G2 H2 p2 (s1.trans r2.g0) (R1.after' (W' := ⟨W.dk, [p]⟩) rfl (fun a m => ?_) r2 rfl fun i e he => .inl ⟨he, fun w c l ew hs m => ?_⟩) d2
    · have : a = p := by simpa using m
      subst this
      exact .inr h0
    · subst ew
      exact hd i l w c he hs (by simpa using m)
end
section
variable {X : Cx} {k c : Nat} {ps : List Str} {sp : SpM} {x : Str} {p pos : Pos} {e : Expr} {es : List Expr} {m1 : MAF} {n1 : Nat}
theorem ge_calF (C : CalM X.prog X.w X.K X.mg X.base x k ps c sp) (r : Rm k X.A) (hg : Gl X x)
    (ha : GAF X (e :: es) n1 m1) (hdb : (x == ("__debug__" : Str)) = false := by decide) (he : starEach (e :: es) X.env = (false, eval e X.env) :: starEach es X.env := by rfl) (hpl : (backTo pos (starEach es X.env)).any (·.1) = false := by rfl) :
    GE X (.Call (.Name x p) (e :: es) [] pos) (n1 + c) (mCallF sp m1) := by
  obtain ⟨f, fd, F, hm, hk, hb⟩ := C.ex
  exact pe_imp (pe_callG F r hg hm hk hb .nil pass0 ha hdb he hpl) fun σ H Q h => callF_ok h
end
end DL
namespace DL
open PySem PySem.Spec PyProof.Rows L2
/-! ### two targets, the first an own list, the second a difference -/
def sParFS (i j kb : Nat) (k : Int) (mf : MF) : MS := fun E env => mf env fun xs e1 => match e1[kb]? with
  | some (.d (.int y)) => E.nx ((e1.set i (.own xs)).set j (.d (.int (y - k))))
  | _ => False
theorem gs_parFS {X : Cx} {a : Expr} {n1 : Nat} {mf : MF} {pos : Pos} {i j kb : Nat} {k : Int} {x y z : Str} {px py pz pk pb pt pt2 : Pos} {jj : Nat} {kt k2 : Nat} (hc : X.calm = true) (hN : X.N.Nodup) (hi : X.N[i]? = some x) (hj : X.N[j]? = some y) (hij : i ≠ j) (hx : X.env.scope.names.lookup x = some .local) (hy : X.env.scope.names.lookup y = some .local)
    (ha : GF X a n1 mf) (hk : X.N[kb]? = some z) (hv : Vis X.env.scope z) (hw : swappedStores [.Tuple [.Name x px, .Name y py] kt pt] (.Tuple [a, .BinOp (.Name z pz) .Sub (.Constant (.int k) jj pk) pb] k2 pt2) X.env = pure (some [x, y]))
    (hd : (z == ("__debug__" : Str)) = false := by decide) (hcd : (z == ("__classdict__" : Str)) = false := by decide) (he : starEach [a, .BinOp (.Name z pz) .Sub (.Constant (.int k) jj pk) pb] X.env = (false, eval a X.env) :: starEach [.BinOp (.Name z pz) .Sub (.Constant (.int k) jj pk) pb] X.env := by rfl)
    (he2 : starEach [.BinOp (.Name z pz) .Sub (.Constant (.int k) jj pk) pb] X.env = (false, eval (.BinOp (.Name z pz) .Sub (.Constant (.int k) jj pk) pb) X.env) :: starEach [] X.env := by rfl)
    (hs : swapsWithSole [.Tuple [.Name x px, .Name y py] kt pt] (.Tuple [a, .BinOp (.Name z pz) .Sub (.Constant (.int k) jj pk) pb] k2 pt2) pos.line X.env = pure false := by rfl) : GS X (.Assign [.Tuple [.Name x px, .Name y py] kt pt] (.Tuple [a, .BinOp (.Name z pz) .Sub (.Constant (.int k) jj pk) pb] k2 pt2) pos) n1 (sParFS i j kb k mf) :=
  ps_imp (ps_par hc hN hi hj hij hx hy (pa_cons ha (pa_cons (pe_op op_sub (pe_var hk hv hd hcd) pe_int) pa_nil he2) he) hw hs) fun D σ H h => by
  obtain ⟨W, B, G0, H0, G, env, E, R, hm, q⟩ := h
  refine ⟨W, B, G0, H0, G, env, _, R, hm, fun xs e1 p G1 H1 p1 s1 R1 f1 => ?_⟩
  split at p1
  · obtain ⟨v, ev, dv⟩ := R1.get_d (by assumption)
    cases dp_int dv
    exact ⟨_, ev, _, _, rfl, rfl, _, _, rfl, q.nx _ _ _ _ p1 s1 ((R1.set_own f1).set_d (.int _))⟩
  · exact p1.elim
end DL
namespace DL
open PySem PySem.Spec PyProof.Rows L2
theorem mif_by {t : MT} {a b : ME} {env : DEnv} {Pd : D → DEnv → Prop} (k : Bool) (ht : ∀ Pc : Bool → DEnv → Prop, Pc k env → t env Pc) (h1 : k = true → a env Pd) (h2 : k = false → b env Pd) : mIf t a b env Pd := by
  refine ht _ ?_
  cases k with
  | true => exact h1 rfl
  | false => exact h2 rfl
/-- an if by its truth -/
theorem if_by {t : MT} {a rest : MS} {E : DEnds} {env : DEnv} (b : Bool) (ht : ∀ Pc : Bool → DEnv → Prop, Pc b env → t env Pc) (h1 : b = true → a { E with nx := rest E } env) (h2 : b = false → rest E env) : sSeq (sIf t a sNext) rest E env := by
  refine ht _ ?_
  cases b with
  | true => exact h1 rfl
  | false => exact h2 rfl
end DL
namespace DL
open PySem PySem.Spec PyProof.Rows L2
/-! ### str of an int or a text; a loop by an invariant -/
def dStrX : List D → (D → Prop) → Prop
  | [.int i], P => i.natAbs.log2 < 1920 ∧ P (.str (toString i))
  | [.str z], P => P (.str z)
  | _, _ => False
theorem cd_strX {X : Cx} : CallR X (.type "str") (rDC X.K dStrX) := by
  intro pins s σ H xs us Q I r h
  obtain ⟨G, ds, P, sG, da, hf, q⟩ := h
  unfold dStrX at hf
  split at hf
  · obtain ⟨v, rfl, d⟩ := all1 da
    cases dp_int d
    exact call_str_int pins s σ H _ us Q I r ⟨_, rfl, hf.1, q _ _ G H hf.2 (Grow.refl sG) (.str _)⟩
  · obtain ⟨v, rfl, d⟩ := all1 da
    cases dp_str d
    obtain ⟨u, rfl, t, rfl⟩ := vals1 r
    exact PySem.P.str_of_str ⟨.str _, H, I, ⟨t, rfl⟩, q _ _ G H hf (Grow.refl sG) (.str _)⟩
  · exact hf.elim
theorem sfor_by {g : MG} {b : MS} {E : DEnds} {xs : List D} {env : DEnv} (I : Nat → DEnv → Prop) (h0 : I 0 env)
    (hs : ∀ (i : Nat) (x : D) (env : DEnv) (N : DEnv → Prop), xs[i]? = some x → I i env → (∀ e, I (i + 1) e → N e) → g x env fun e1 => b { nx := N, rt := E.rt, bk := E.nx, ct := N } e1)
    (hd : ∀ env, I xs.length env → E.nx env) : sForL g b xs E env := by
  have key : ∀ (ys : List D) (k : Nat) (env : DEnv), xs.drop k = ys → k + ys.length = xs.length → I k env → sForL g b ys E env := by
    intro ys
    induction ys with
    | nil =>
      intro k env _ hl hI
      have e : k = xs.length := by simpa using hl
      subst e
      exact hd env hI
    | cons y r ih =>
      intro k env hk hl hI
      have hx : xs[k]? = some y := by
        have := congrArg (fun l => l[0]?) hk
        simpa using this
      have hr : xs.drop (k + 1) = r := by
        have := congrArg (fun l => l.drop 1) hk
        simpa using this
      rw [List.length_cons] at hl
      exact hs k y env _ hx hI fun e z => ih (k + 1) e hr (by omega) z
  exact key xs 0 env rfl (by simp) h0
theorem cut_1 (x : D) (xs : List D) : cutD (x :: xs) (some 1) none = xs := by
  unfold cutD
  have e1 : HT.sIx (x :: xs).length 0 (some 1) = 1 := by
    unfold HT.sIx
    simp
  have e2 : HT.sIx (x :: xs).length (x :: xs).length none = (x :: xs).length := rfl
  rw [e1, e2, List.drop_one, List.tail_cons, List.length_cons, Nat.add_sub_cancel, List.take_length]
end DL
namespace DL
open PySem PySem.Spec PyProof.Rows L2
/-! ### a loop whose items are read below, its body at the level of data -/
section
variable {X : Cx} {tg iter : Expr} {body : List Stmt} {mg : MG} {ms : MS} {pos : Pos} {vs : List Nat} {nb : Nat} {wi : TI}
theorem ps_forI (c : Nat) (ds : List D) {J : It} (hit : ∀ G, ItD X.K G J ds) (hp : PassesOwn (model X.prog X.w) X.A X.env X.xe) (hc : X.calm = true) (hi : PI X tg iter wi) (hg : GG X tg vs mg) (hb : GSs X body nb ms)
    (hs : ∀ x, foldedSetIterable iter X.env x = pure x := by intro _; rfl) : PS X (.For tg iter body [] pos) (fun D σ H => (∀ R : It → Hp → Prop, R J H → wi σ H R) ∧ ds.length * nb ≤ c ∧ tS X.K c (sForL mg ms ds) D σ H) := ps_imp (ps_for hp hc hi hg hb hs) fun D σ H h => by
  obtain ⟨hw, cost, W, B, G0, H0, G, env, E, R1, p1, q⟩ := h
  refine hw _ ?_
  have it := hit G
  refine ⟨fun i m σ' H' => m = ds.length - i ∧ i ≤ ds.length ∧ ∃ G' e', Same G G' ∧ Rel X.K W (B + (ds.length - i) * nb) G0 H0 G' e' σ' H' ∧ sForL mg ms (ds.drop i) E e', ⟨ds.length, rfl, Nat.zero_le _, G, env, Same.refl _, R1.le (by rw [Nat.sub_zero]; omega), p1⟩, ?_⟩
  rintro i m σ' H' ⟨rfl, hi, G', e', s', R', p'⟩
  by_cases hlt : i < ds.length
  · have hx : ds[i]? = some ds[i] := List.getElem?_eq_getElem hlt
    have hd : ds.drop i = ds[i] :: ds.drop (i + 1) := List.drop_eq_getElem_cons hlt
    obtain ⟨hgo, hy⟩ := (it G' H' s' R'.pub i).1 _ hx
    rw [hd] at p'
    rw [turn_cost hlt] at R'
    refine .inr ⟨hgo, fun σ2 H2 => ∃ G2 e2, Same G G2 ∧ Rel X.K W (B + (ds.length - (i + 1)) * nb) G0 H0 G2 e2 σ2 H2 ∧ sForL mg ms (ds.drop (i + 1)) E e2, fun σ2 H2 hN => ⟨ds.length - (i + 1), by omega, rfl, hlt, hN⟩, fun v H2 y => ?_⟩
    obtain ⟨G2, g2, d2⟩ := hy v H2 y
    refine ⟨W, _, G0, H0, G2, e', _, _, R'.grow g2, d2, p', fun e3 σ3 G3 H3 p3 s3 R3 _ _ => ?_⟩
    have sG : Same G G3 := s'.trans (g2.eg.trans s3)
    refine ⟨W, B + (ds.length - (i + 1)) * nb, G0, H0, G3, e3, _, R3.le (by omega), p3, ⟨fun e4 σ4 G4 H4 p4 s4 R4 => ⟨G4, e4, sG.trans s4, R4, p4⟩, fun x e4 σ4 v G4 H4 p4 s4 R4 => q.rt x e4 σ4 v G4 H4 p4 (sG.trans s4) (R4.le (by omega)), fun e4 σ4 G4 H4 p4 s4 R4 => q.nx e4 σ4 G4 H4 p4 (sG.trans s4) (R4.le (by omega)), fun e4 σ4 G4 H4 p4 s4 R4 => ⟨G4, e4, sG.trans s4, R4, p4⟩⟩⟩
  · have e : i = ds.length := by omega
    subst e
    rw [List.drop_length] at p'
    exact .inl ⟨(it G' H' s' R'.pub _).2 (Nat.le_refl _), q.nx e' σ' G' H' p' s' (R'.le (by omega))⟩
end
end DL
namespace DL
open PySem PySem.Spec PyProof.Rows L2
/-- a method as it stands behind the top -/
structure DfM (K : PySem.W.Frag) (C : Addr) (m qual : Str) (st : Stmt) : Prop where
  ex : ∃ f fd, PySem.W.findIn K (.ref C) m = some (some (.ref f)) ∧ PySem.W.isFn K (.ref f) = true ∧ Fun K m qual st f fd
theorem dfm_mk {K : PySem.W.Frag} {C : Addr} {m qual : Str} {st : Stmt} {f : Addr} {oc : Value} {od an : Option Addr} {sl : Array (Option Value)} {kV doc pm cd ct : Value} (a : PySem.W.findIn K (.ref C) m = some (some (.ref f))) (i : PySem.W.isFn K (.ref f) = true)
    (l : K.lookup f = some ⟨oc, od, .func (PySem.W.fnOf m qual (defArgs st) (defBody st) (defScope st) .none kV doc pm an cd ct), sl⟩) (c : PySem.W.codeIn K cd qual = true) (k : PySem.W.keepIn K (.ref f) = true) : DfM K C m qual st := ⟨f, _, a, i, fun_mk l c k⟩
/-- what stands of a class -/
structure DfC (K : PySem.W.Frag) (x : Str) (C : Addr) : Prop where
  at_ : PySem.W.nsIn K mainGlobals x = some (some (.ref C))
  cl : Cls K C
  mks : PySem.W.makesIn K C = true
  kp : PySem.W.keepIn K (.ref C) = true
section
variable {P : Program} {w : World} {K : PySem.W.Frag} {h : Heap} {mg : Str → Option Value} {base : Heap} {C : Addr}
theorem mth_mk {m qual : Str} {st : Stmt} {k c : Nat} {ps : List Str} {sp : SpM} (d : DfM K C m qual st)
    (hb : ∀ (kV doc pm : Value) (an : Option Addr) (cdv ct : Value) (us : List Value), us.length = ps.length → bindArgs (PySem.W.fnOf m qual (defArgs st) (defBody st) (defScope st) .none kV doc pm an cdv ct) ⟨us, []⟩ = pure (ps.zip us))
    (hF : ∀ f fd, Fun K m qual st f fd → FnG P w K mg base CX0 k f fd ps (spDM K c sp)) : MthM P w K mg base C m k ps c sp := by
  obtain ⟨f, fd, a, i, F⟩ := d.ex
  exact ⟨f, fd, hF f fd F, ⟨a, i, F.kp⟩, F.binds hb⟩
theorem mkm_mk {x qual : Str} {st : Stmt} {k c : Nat} {ps : List Str} {sp : SpM} (X : K.In h) (G : h.Ns mainGlobals mg) (D : DfC K x C) (d : DfM K C "__init__" qual st)
    (hb : ∀ (kV doc pm : Value) (an : Option Addr) (cdv ct : Value) (us : List Value), us.length = ps.length → bindArgs (PySem.W.fnOf "__init__" qual (defArgs st) (defBody st) (defScope st) .none kV doc pm an cdv ct) ⟨us, []⟩ = pure (ps.zip us))
    (hF : ∀ f fd, Fun K "__init__" qual st f fd → FnG P w K mg base CX0 k f fd ps (spDM K c sp)) : MkM P w K mg base x C k ps c sp := by
  obtain ⟨f, fd, a, i, F⟩ := d.ex
  exact ⟨f, fd, hF f fd F, ⟨D.mks, a, i, D.kp⟩, F.binds hb, PySem.W.mg_of X G D.at_⟩
end
end DL
namespace DL
open PySem PySem.Spec PyProof.Rows L2
/-! ### a star among the targets, at the level of data -/
/-- what the targets hold, the i-th of n with the rest -/
def starD (i n : Nat) (xs : List D) : List D := xs.take i ++ [.list ((xs.drop i).take (xs.length + 1 - n))] ++ (xs.drop i).drop (xs.length + 1 - n)
def gStarX (i n : Nat) (m : MGs) (xs : List D) (env : DEnv) (P : DEnv → Prop) : Prop := i < n ∧ n ≤ xs.length + 1 ∧ xs.length ≤ 16384 ∧ m (starD i n xs) env P
def gStarTp (i n : Nat) (m : MGs) : MG := fun x env P => match x with
  | .tuple xs => gStarX i n m xs env P
  | _ => False
def gStarLs (i n : Nat) (m : MGs) : MG := fun x env P => match x with
  | .list xs => gStarX i n m xs env P
  | _ => False
section
variable {X : Cx} {e : Expr} {es : List Expr} {pos : Pos} {vs : List Nat} {kk n i : Nat}
theorem star_ok {K : PySem.W.Frag} {W : Wd} {B : Nat} {G0 H0 G H : Hp} {env : DEnv} {σ : L2.St} {us : List V} {xs : List D} {m : MGs} {P : DEnv → Prop} {Q : L2.St → Hp → Prop} (R : Rel K W B G0 H0 G env σ H) (h2 : DrAll K G us xs) (hm : gStarX i n m xs env P)
    (q : ∀ env' σ' G' H', P env' → Same G G' → Rel K W B G0 H0 G' env' σ' H' → wipe σ' vs = wipe σ vs → wipeE env' vs = wipeE env vs → Q σ' H') :
    i < n ∧ n ≤ us.length + 1 ∧ us.length ≤ 16384 ∧ ∀ p, H p = none → tGs K vs m (starred i n us p) σ (upd H p (.lst (starMid i n us))) Q := by
  obtain ⟨a1, a2, a3, hm⟩ := hm
  rw [dpAll_len h2]
  refine ⟨a1, a2, a3, fun p hp => ?_⟩
  have l := dpAll_len h2
  have g : Grow G H (upd G p (.lst (starMid i n us))) (upd H p (.lst (starMid i n us))) := Grow.new1 R.pub hp
  have mid : DrAll K G (starMid i n us) ((xs.drop i).take (xs.length + 1 - n)) := by
    unfold starMid
    rw [l]
    exact dpAll_take _ (dpAll_drop i h2)
  have d : DrAll K (upd G p (.lst (starMid i n us))) (starred i n us p) (starD i n xs) := by
    unfold starred starD
    rw [l]
    exact dpAll_app (dpAll_app (dpAll_same g.eg (dpAll_take i h2)) (dpAll_one (.lst upd_same (dpAll_same g.eg mid)))) (dpAll_same g.eg (dpAll_drop _ (dpAll_drop i h2)))
  exact ⟨W, B, G0, H0, _, env, _, P, R.grow g, d, hm, fun e' σ' G' H' p' s' R' w1 w2 => q e' σ' G' H' p' (g.eg.trans s') R' w1 w2⟩
theorem gg_starT {m : MGs} (hc : X.calm = true) (h : PGs X es (tGs X.K vs m)) (hn : (assignEach es X.env).length = n := by rfl) (hst : (assignEach es X.env).findIdx? (·.1) = some i := by rfl) : GG X (.Tuple es kk pos) vs (gStarTp i n m) :=
  pg_imp (pg_starT hc h hn hst) fun v σ H Q h => by
  obtain ⟨W, B, G0, H0, G, env, x, P, R, d, hm, q⟩ := h
  cases x with
  | tuple xs =>
    obtain ⟨a, us, rfl, h1, h2⟩ := dp_tup d
    obtain ⟨b1, b2, b3, b4⟩ := star_ok R h2 hm q
    exact ⟨a, us, rfl, pub_sqT R.pub h1, b1, b2, b3, b4⟩
  | _ => exact hm.elim
theorem gg_starL {m : MGs} (hc : X.calm = true) (h : PGs X es (tGs X.K vs m)) (hn : (assignEach es X.env).length = n := by rfl) (hst : (assignEach es X.env).findIdx? (·.1) = some i := by rfl) : GG X (.Tuple es kk pos) vs (gStarLs i n m) :=
  pg_imp (pg_starL hc h hn hst) fun v σ H Q h => by
  obtain ⟨W, B, G0, H0, G, env, x, P, R, d, hm, q⟩ := h
  cases x with
  | list xs =>
    obtain ⟨a, us, rfl, h1, h2⟩ := dp_lst d
    obtain ⟨b1, b2, b3, b4⟩ := star_ok R h2 hm q
    exact ⟨a, us, rfl, SqL.of (R.pub.lst h1), b1, b2, b3, b4⟩
  | _ => exact hm.elim
/-- the star itself among them -/
theorem ggs_star {j : Nat} {x : Str} {m : MGs} {ps px : Pos} (hN : X.N.Nodup) (hi : X.N[j]? = some x) (hx : Loc X.env.scope x) (hv : j ∈ vs) (hr : PGs X es (tGs X.K vs m)) (hf : X.fn x = true ∨ X.env.scope.names.lookup x = some .local := by first | exact .inl rfl | exact .inr rfl | assumption)
    (hs : (assignEach (.Starred (.Name x px) ps :: es) X.env).map (·.2) = assign (.Name x px) X.env :: (assignEach es X.env).map (·.2) := by rfl) : PGs X (.Starred (.Name x px) ps :: es) (tGs X.K vs (gsCons j m)) := ⟨fun pins s σ H us ws Q I r h => by
  refine (pgs_star (pg_name hN hi hx hf) hr hs).run pins s σ H us ws Q I r ?_
  obtain ⟨W, B, G0, H0, G, env, xs, P, R, d, hm, q⟩ := h
  cases d with
  | nil => exact hm.elim
  | cons d1 d2 =>
    refine ⟨_, _, rfl, W, B, G0, H0, G, _, _, P, R.set_d d1, d2, hm, fun e2 σ2 G2 H2 p2 s2 R2 w2 w3 => ?_⟩
    exact q _ _ _ _ p2 s2 R2 (w2.trans (wipe_set hv)) (w3.trans (wipeE_set hv))⟩
end
end DL
namespace DL
open PySem PySem.Spec PyProof.Rows L2
/-! ### a list comprehension of two clauses -/
theorem lc_loop {K : PySem.W.Frag} {J : It} {mg : MG} {mt : MT} {me : ME} {vs : List Nat} {nt ne : Nat} {σ : L2.St} {W : Wd} {B : Nat} {G0 H0 G1 H1 : Hp} {e1 : DEnv} {A : Addr} {ds : List D} {av1 : List V} {acc1 : List D} {Pc : List D → Prop}
    (R1 : Rel K W (B + ds.length * (nt + ne)) G0 H0 G1 e1 σ H1) (it : ItD K G1 J ds) (no : noOwn e1 vs) (hA1 : H1 A = some (.lst av1)) (f1 : G1 A = none) (f2 : H0 A = none) (f3 : ¬ W.mu A) (f4 : ∀ (i : Nat) l w c, e1[i]? = some (.mo w c) → σ[i]? = some (some (.ref l)) → l ≠ A)
    (dA1 : DrAll K G1 av1 acc1) (p1 : mLcL mg mt me vs ds acc1 e1 Pc) {Fin : Hp → Prop} (q : ∀ ys av G' H', Pc ys → Same G1 G' → Rel K W B G0 H0 G' e1 σ H' → H' A = some (.lst av) → G' A = none → DrAll K G' av ys → Fin H') :
    ∃ Wm : Nat → Nat → Hp → Prop, (∃ m, Wm 0 m H1) ∧ ∀ i m H, Wm i m H → (J.stop i H ∧ Fin H) ∨ (J.go i H ∧ ∃ Nx : Hp → Prop, (∀ H', Nx H' → ∃ m', m' < m ∧ Wm (i + 1) m' H') ∧ ∀ x H', J.yld i H x H' → tG K vs mg x (wipe σ vs) H' fun σ2 H2 => wipe σ2 vs = wipe σ vs ∧ tDT K nt mt σ2 H2 fun b H3 =>
      if b = true then tD K ne me σ2 H3 fun y H4 => ∃ acc, H4 A = some (.lst acc) ∧ acc.length < sizeLine ∧ Nx (upd H4 A (.lst (acc ++ [y]))) else Nx H3) := by
  refine ⟨fun i m H' => m = ds.length - i ∧ i ≤ ds.length ∧ ∃ G' av acc, Same G1 G' ∧ Rel K W (B + (ds.length - i) * (nt + ne)) G0 H0 G' e1 σ H' ∧ H' A = some (.lst av) ∧ G' A = none ∧ (∀ (i : Nat) l w c, e1[i]? = some (.mo w c) → σ[i]? = some (some (.ref l)) → l ≠ A) ∧ DrAll K G' av acc ∧ mLcL mg mt me vs (ds.drop i) acc e1 Pc,
    ⟨ds.length, rfl, Nat.zero_le _, G1, av1, acc1, Same.refl _, R1.le (by rw [Nat.sub_zero]; exact Nat.le_refl _), hA1, f1, f4, dA1, p1⟩, ?_⟩
  rintro i m H' ⟨rfl, hi, G', av, acc, s', R', hA', gA', oA', dA', p'⟩
  by_cases hlt : i < ds.length
  · have hx : ds[i]? = some ds[i] := List.getElem?_eq_getElem hlt
    have hd : ds.drop i = ds[i] :: ds.drop (i + 1) := List.drop_eq_getElem_cons hlt
    obtain ⟨hgo, hy⟩ := (it G' H' s' R'.pub i).1 _ hx
    rw [hd] at p'
    rw [turn_cost hlt] at R'
    refine .inr ⟨hgo, fun H2 => ∃ G' av acc, Same G1 G' ∧ Rel K W (B + (ds.length - (i + 1)) * (nt + ne)) G0 H0 G' e1 σ H2 ∧ H2 A = some (.lst av) ∧ G' A = none ∧ (∀ (i : Nat) l w c, e1[i]? = some (.mo w c) → σ[i]? = some (some (.ref l)) → l ≠ A) ∧ DrAll K G' av acc ∧ mLcL mg mt me vs (ds.drop (i + 1)) acc e1 Pc, fun H2 hN => ⟨ds.length - (i + 1), by omega, rfl, hlt, hN⟩, fun v H2 y => ?_⟩
    obtain ⟨G2, g2, d2⟩ := hy v H2 y
    have R3 := R'.grow g2
    have hA2 : H2 A = some (.lst av) := g2.eh _ _ hA'
    have gA2 : G2 A = none := by
      cases z : G2 A with
      | none => rfl
      | some o =>
        have := g2.new A o z gA'
        rw [hA'] at this
        cases this
    have hg0 : G0 A = none := R3.g0.free gA2
    have R4 := (R3.guard hA2 gA2 oA').wipe vs
    refine ⟨W, _, G0, upd H0 A (.lst av), G2, _, _, _, R4, d2, p', fun e3 σ3 G3 H3 p3 s3 R5 w1 w2 => ⟨?_, ?_⟩⟩
    · have idem : ∀ (τ : L2.St), wipe (wipe τ vs) vs = wipe τ vs := fun τ => by
        apply List.ext_getElem?
        intro n
        by_cases hn : n ∈ vs
        · have l1 : (wipe (wipe τ vs) vs)[n]? = (wipe τ vs)[n]? := by
            cases z1 : (wipe (wipe τ vs) vs)[n]? with
            | none =>
              cases z2 : (wipe τ vs)[n]? with
              | none => rfl
              | some y =>
                have b1 := (List.getElem?_eq_some_iff.mp z2).1
                rw [List.getElem?_eq_none_iff, wipe_length] at z1
                omega
            | some y =>
              cases y with
              | some u => exact absurd hn (wipe_some z1).2
              | none =>
                cases z2 : (wipe τ vs)[n]? with
                | none =>
                  have b1 := (List.getElem?_eq_some_iff.mp z1).1
                  rw [List.getElem?_eq_none_iff] at z2
                  rw [wipe_length] at b1
                  omega
                | some y2 =>
                  cases y2 with
                  | none => rfl
                  | some u => exact absurd hn (wipe_some z2).2
          exact l1
        · rw [wipe_out' hn]
      rw [w1, idem]
    · have g3 : Same G' G3 := g2.eg.trans s3
      refine ⟨W, B + (ds.length - (i + 1)) * (nt + ne) + ne, G0, upd H0 A (.lst av), G3, e3, _, R5.le (by omega), p3, fun b e4 G4 H4 p4 s4 R6 => ?_⟩
      obtain ⟨rfl, p4⟩ := p4
      have sT : Same G1 G4 := (s'.trans g3).trans s4
      have idemE : ∀ (τ : DEnv), wipeE (wipeE τ vs) vs = wipeE τ vs := fun τ => by
        apply List.ext_getElem?
        intro n
        by_cases hn : n ∈ vs
        · cases z1 : (wipeE (wipeE τ vs) vs)[n]? with
          | none =>
            rw [List.getElem?_eq_none_iff, wipeE_length] at z1
            exact (List.getElem?_eq_none_iff.mpr z1).symm
          | some y =>
            have b1 := (List.getElem?_eq_some_iff.mp z1).1
            rw [wipeE_length] at b1
            rw [List.getElem?_eq_getElem b1, wipeE_in hn z1, wipeE_in hn (List.getElem?_eq_getElem b1)]
        · rw [wipeE_out hn]
      have back : ∀ (B5 : Nat) (G5 H5 : Hp), Same G3 G5 → Rel K W B5 G0 (upd H0 A (.lst av)) G5 e4 σ3 H5 → Rel K W B5 G0 H0 G5 e1 σ H5 ∧ H5 A = some (.lst av) ∧ G5 A = none ∧ (∀ (i : Nat) l w c, e1[i]? = some (.mo w c) → σ[i]? = some (some (.ref l)) → l ≠ A) := fun B5 G5 H5 s5 R7 => by
        have R8 := R7.wipe vs
        have idem' : wipe (wipe σ vs) vs = wipe σ vs := by
          have := w1
          apply List.ext_getElem?
          intro n
          by_cases hn : n ∈ vs
          · cases z1 : (wipe (wipe σ vs) vs)[n]? with
            | none =>
              rw [List.getElem?_eq_none_iff, wipe_length] at z1
              exact (List.getElem?_eq_none_iff.mpr z1).symm
            | some y =>
              have b1 := (List.getElem?_eq_some_iff.mp z1).1
              rw [wipe_length] at b1
              rw [List.getElem?_eq_getElem b1]
              cases y with
              | some u => exact absurd hn (wipe_some z1).2
              | none =>
                cases z2 : (wipe σ vs)[n] with
                | none => rfl
                | some u => exact absurd hn (wipe_some ((List.getElem?_eq_getElem b1).trans (congrArg some z2))).2
          · rw [wipe_out' hn]
        rw [w1, idem', w2, idemE] at R8
        obtain ⟨R9, u1, u2, u3⟩ := R8.unguard f3 hg0 f2
        exact ⟨R3.unwipe no (s3.trans s5) R9, u1, u2, oA'⟩
      cases b with
      | true =>
        refine iteT ⟨W, B + (ds.length - (i + 1)) * (nt + ne), G0, upd H0 A (.lst av), G4, e4, _, R6, p4, fun y e5 u G5 H5 p5 s5 R7 d5 => ?_⟩
        obtain ⟨rfl, hl, p5⟩ := p5
        obtain ⟨Rb, b1, b2, b3⟩ := back _ G5 H5 (s4.trans s5) R7
        refine ⟨av, b1, by rw [dpAll_len dA']; exact hl, G5, av ++ [u], acc ++ [y], sT.trans s5, ?_, upd_same, b2, b3, dpAll_app (dpAll_same ((g3.trans s4).trans s5) dA') (dpAll_one d5), p5⟩
        refine { g0 := Rb.g0, pub := fun a o e => ?_, gm := Rb.gm, inv := W.loc _ H5 _ (fun a m => ?_) Rb.inv, fr := fun a o e m => ?_, pn := Rb.pn, len := Rb.len, slot := fun j e s h1 h2 => ?_, dis := Rb.dis }
        · have ne : a ≠ A := fun z => by
            subst z
            rw [b2] at e
            cases e
          rw [upd_ne ne]
          exact Rb.pub a o e
        · rw [upd_ne fun z => by subst z; exact f3 m]
        · have ne : a ≠ A := fun z => by
            subst z
            rw [f2] at e
            cases e
          rw [upd_ne ne]
          exact Rb.fr a o e m
        · have q := Rb.slot j e s h1 h2
          cases e with
          | mo w2 c2 =>
            obtain ⟨l2, ee, n2, o2, q1⟩ := q
            refine ⟨l2, ee, n2, o2, scok_later (Same.refl _) (fun u hu => ?_) q1⟩
            subst ee
            rw [upd_ne (b3 j l2 w2 c2 h1 h2)]
            exact hu
          | un => trivial
          | d x => exact q
          | hd => exact q
          | «at» _ => trivial
      | false =>
        obtain ⟨Rb, b1, b2, b3⟩ := back _ G4 H4 s4 (R6.le (Nat.le_add_right _ _))
        exact iteF ⟨G4, av, acc, sT, Rb, b1, b2, b3, dpAll_same (g3.trans s4) dA', p4⟩
  · have e : i = ds.length := by omega
    subst e
    rw [List.drop_length] at p'
    exact .inl ⟨(it G' H' s' R'.pub _).2 (Nat.le_refl _), q _ av G' H' p' s' (R'.le (by omega)) hA' gA' dA'⟩

/-- the inner clause is walked by mLcL -/
def mLc2L (nb1 c1 : Nat) (g : MG) (tt : MT) (i1 : MI) (g1 : MG) (t1 : MT) (te : ME) (vs vs1 : List Nat) : List D → List D → DEnv → (List D → Prop) → Prop
  | [], acc, _, P => P acc
  | x :: xs, acc, env, P => g x (wipeE env vs) fun e1 => tt e1 fun b e2 => e2 = e1 ∧ match b with
    | true => i1 e2 fun ds e3 => e3 = e2 ∧ noOwn e3 vs1 ∧ ds.length * nb1 ≤ c1 ∧ mLcL g1 t1 te vs1 ds acc e3 fun acc' => mLc2L nb1 c1 g tt i1 g1 t1 te vs vs1 xs acc' env P
    | false => mLc2L nb1 c1 g tt i1 g1 t1 te vs vs1 xs acc env P
def mLc2C (nb c nb1 c1 : Nat) (i : MI) (g : MG) (tt : MT) (i1 : MI) (g1 : MG) (t1 : MT) (te : ME) (vs vs1 : List Nat) : MF := fun env P => i env fun ds e1 => ds.length * nb ≤ c ∧ noOwn e1 vs ∧ mLc2L nb1 c1 g tt i1 g1 t1 te vs vs1 ds [] e1 fun ys => P ys e1
theorem lc2_ok {K : PySem.W.Frag} {mi mi1 : MI} {mg mg1 : MG} {mt mt1 : MT} {me : ME} {vs vs1 : List Nat} {ni nt ni1 nt1 ne c c1 : Nat} {σ : L2.St} {H : Hp} {Q : VK} (h : tF K (ni + c) (mLc2C (nt + (ni1 + c1)) c (nt1 + ne) c1 mi mg mt mi1 mg1 mt1 me vs vs1) σ H Q) : tLc2 (tI K ni mi) (tG K vs mg) (tDT K nt mt) (tI K ni1 mi1) (tG K vs1 mg1) (tDT K nt1 mt1) (tD K ne me) vs vs1 σ H Q := by
  obtain ⟨W, B, G0, H0, G, env, P, R, hm, q⟩ := h
  refine ⟨W, B + c, G0, H0, G, env, _, R.le (by omega), hm, fun ds e1 J G1 H1 p1 s1 R1 it A hA => ?_⟩
  obtain ⟨cost, no, p1⟩ := p1
  obtain ⟨R2, f1, f2, f3, f4⟩ := R1.fresh (o := .lst []) hA
  refine ⟨fun i m H' => m = ds.length - i ∧ i ≤ ds.length ∧ ∃ G' av acc, Same G1 G' ∧ Rel K W (B + (ds.length - i) * (nt + (ni1 + c1))) G0 H0 G' e1 σ H' ∧ H' A = some (.lst av) ∧ G' A = none ∧ (∀ (i : Nat) l w c, e1[i]? = some (.mo w c) → σ[i]? = some (some (.ref l)) → l ≠ A) ∧ DrAll K G' av acc ∧ mLc2L (nt1 + ne) c1 mg mt mi1 mg1 mt1 me vs vs1 (ds.drop i) acc e1 (fun ys => P ys e1),
    ⟨ds.length, rfl, Nat.zero_le _, G1, [], [], Same.refl _, R2.le (by rw [Nat.sub_zero]; omega), upd_same, f1, f4, .nil, p1⟩, ?_⟩
  rintro i m H' ⟨rfl, hi, G', av, acc, s', R', hA', gA', oA', dA', p'⟩
  by_cases hlt : i < ds.length
  · have hx : ds[i]? = some ds[i] := List.getElem?_eq_getElem hlt
    have hd : ds.drop i = ds[i] :: ds.drop (i + 1) := List.drop_eq_getElem_cons hlt
    obtain ⟨hgo, hy⟩ := (it G' H' s' R'.pub i).1 _ hx
    rw [hd] at p'
    rw [turn_cost hlt] at R'
    refine .inr ⟨hgo, fun H2 => ∃ G' av acc, Same G1 G' ∧ Rel K W (B + (ds.length - (i + 1)) * (nt + (ni1 + c1))) G0 H0 G' e1 σ H2 ∧ H2 A = some (.lst av) ∧ G' A = none ∧ (∀ (i : Nat) l w c, e1[i]? = some (.mo w c) → σ[i]? = some (some (.ref l)) → l ≠ A) ∧ DrAll K G' av acc ∧ mLc2L (nt1 + ne) c1 mg mt mi1 mg1 mt1 me vs vs1 (ds.drop (i + 1)) acc e1 (fun ys => P ys e1), fun H2 hN => ⟨ds.length - (i + 1), by omega, rfl, hlt, hN⟩, fun v H2 y => ?_⟩
    obtain ⟨G2, g2, d2⟩ := hy v H2 y
    have R3 := R'.grow g2
    have hA2 : H2 A = some (.lst av) := g2.eh _ _ hA'
    have gA2 : G2 A = none := by
      cases z : G2 A with
      | none => rfl
      | some o =>
        have := g2.new A o z gA'
        rw [hA'] at this
        cases this
    have hg0 : G0 A = none := R3.g0.free gA2
    have R4 := (R3.guard hA2 gA2 oA').wipe vs
    refine ⟨W, _, G0, upd H0 A (.lst av), G2, _, _, _, R4, d2, p', fun e3 σ3 G3 H3 p3 s3 R5 w1 w2 => ⟨?_, ?_⟩⟩
    · have idem : ∀ (τ : L2.St), wipe (wipe τ vs) vs = wipe τ vs := fun τ => by
        apply List.ext_getElem?
        intro n
        by_cases hn : n ∈ vs
        · have l1 : (wipe (wipe τ vs) vs)[n]? = (wipe τ vs)[n]? := by
            cases z1 : (wipe (wipe τ vs) vs)[n]? with
            | none =>
              cases z2 : (wipe τ vs)[n]? with
              | none => rfl
              | some y =>
                have b1 := (List.getElem?_eq_some_iff.mp z2).1
                rw [List.getElem?_eq_none_iff, wipe_length] at z1
                omega
            | some y =>
              cases y with
              | some u => exact absurd hn (wipe_some z1).2
              | none =>
                cases z2 : (wipe τ vs)[n]? with
                | none =>
                  have b1 := (List.getElem?_eq_some_iff.mp z1).1
                  rw [List.getElem?_eq_none_iff] at z2
                  rw [wipe_length] at b1
                  omega
                | some y2 =>
                  cases y2 with
                  | none => rfl
                  | some u => exact absurd hn (wipe_some z2).2
          exact l1
        · rw [wipe_out' hn]
      rw [w1, idem]
    · have g3 : Same G' G3 := g2.eg.trans s3
      refine ⟨W, B + (ds.length - (i + 1)) * (nt + (ni1 + c1)) + (ni1 + c1), G0, upd H0 A (.lst av), G3, e3, _, R5.le (by omega), p3, fun b e4 G4 H4 p4 s4 R6 => ?_⟩
      obtain ⟨rfl, p4⟩ := p4
      have sT : Same G1 G4 := (s'.trans g3).trans s4
      have idemE : ∀ (τ : DEnv), wipeE (wipeE τ vs) vs = wipeE τ vs := fun τ => by
        apply List.ext_getElem?
        intro n
        by_cases hn : n ∈ vs
        · cases z1 : (wipeE (wipeE τ vs) vs)[n]? with
          | none =>
            rw [List.getElem?_eq_none_iff, wipeE_length] at z1
            exact (List.getElem?_eq_none_iff.mpr z1).symm
          | some y =>
            have b1 := (List.getElem?_eq_some_iff.mp z1).1
            rw [wipeE_length] at b1
            rw [List.getElem?_eq_getElem b1, wipeE_in hn z1, wipeE_in hn (List.getElem?_eq_getElem b1)]
        · rw [wipeE_out hn]
      have back : ∀ (B5 : Nat) (G5 H5 : Hp), Same G3 G5 → Rel K W B5 G0 (upd H0 A (.lst av)) G5 e4 σ3 H5 → Rel K W B5 G0 H0 G5 e1 σ H5 ∧ H5 A = some (.lst av) ∧ G5 A = none ∧ (∀ (i : Nat) l w c, e1[i]? = some (.mo w c) → σ[i]? = some (some (.ref l)) → l ≠ A) := fun B5 G5 H5 s5 R7 => by
        have R8 := R7.wipe vs
        have idem' : wipe (wipe σ vs) vs = wipe σ vs := by
          have := w1
          apply List.ext_getElem?
          intro n
          by_cases hn : n ∈ vs
          · cases z1 : (wipe (wipe σ vs) vs)[n]? with
            | none =>
              rw [List.getElem?_eq_none_iff, wipe_length] at z1
              exact (List.getElem?_eq_none_iff.mpr z1).symm
            | some y =>
              have b1 := (List.getElem?_eq_some_iff.mp z1).1
              rw [wipe_length] at b1
              rw [List.getElem?_eq_getElem b1]
              cases y with
              | some u => exact absurd hn (wipe_some z1).2
              | none =>
                cases z2 : (wipe σ vs)[n] with
                | none => rfl
                | some u => exact absurd hn (wipe_some ((List.getElem?_eq_getElem b1).trans (congrArg some z2))).2
          · rw [wipe_out' hn]
        rw [w1, idem', w2, idemE] at R8
        obtain ⟨R9, u1, u2, u3⟩ := R8.unguard f3 hg0 f2
        exact ⟨R3.unwipe no (s3.trans s5) R9, u1, u2, oA'⟩
      cases b with
      | true =>
        refine iteT ⟨W, B + (ds.length - (i + 1)) * (nt + (ni1 + c1)) + c1, G0, upd H0 A (.lst av), G4, e4, _, R6.le (by omega), p4, fun ds1 e5 J1 G5 H5 p5 s5 R7 it1 => ?_⟩
        obtain ⟨rfl, no1, cost1, p5⟩ := p5
        obtain ⟨R8, u1, u2, u3⟩ := R7.unguard f3 hg0 f2
        have cost2 : B + (ds.length - (i + 1)) * (nt + (ni1 + c1)) + ds1.length * (nt1 + ne) ≤ B + (ds.length - (i + 1)) * (nt + (ni1 + c1)) + c1 := Nat.add_le_add_left cost1 _
        refine lc_loop (B := B + (ds.length - (i + 1)) * (nt + (ni1 + c1))) (R8.le cost2) it1 no1 u1 u2 f2 f3 u3 (dpAll_same ((g3.trans s4).trans s5) dA') p5 (fun ys av2 G6 H6 p6 s6 R9 a1 a2 d6 => ?_)
        have R10 := R9.wipe vs
        rw [w1, wipe_idem, w2, idemE] at R10
        exact ⟨G6, av2, ys, (sT.trans s5).trans s6, R3.unwipe no (((s3.trans s4).trans s5).trans s6) R10, a1, a2, oA', d6, p6⟩
      | false =>
        obtain ⟨Rb, b1, b2, b3⟩ := back _ G4 H4 s4 (R6.le (Nat.le_add_right _ _))
        exact iteF ⟨G4, av, acc, sT, Rb, b1, b2, b3, dpAll_same (g3.trans s4) dA', p4⟩
  · have e : i = ds.length := by omega
    subst e
    rw [List.drop_length] at p'
    exact .inl ⟨(it G' H' s' R'.pub _).2 (Nat.le_refl _), q _ e1 A G' H' p' (s1.trans s') (R'.le (by omega)) ⟨av, hA', gA', f2, f3, oA', dA'⟩⟩
section
variable {X : Cx} {elt tg iter tg1 iter1 : Expr} {ifs ifs1 : List Expr} {scope : Scope} {own : List (Str × Nat)} {pos spos py : Pos} {mi mi1 : MI} {mg mg1 : MG} {mt mt1 : MT} {me : ME} {ni nt ni1 nt1 ne : Nat} {vs1 : List Nat}
theorem gf_lc2 (c c1 : Nat) (hc : X.calm = true) (hN : X.N.Nodup) (hi : GI X tg iter ni mi) (ok : BlkOk X.N X.env.scope scope own) (hv : ∀ i ∈ vs1, i ∈ own.map (·.2))
    (hg : ∀ (s : Shared) (H : Hp) (C : Addr) (cl : List (Str × Addr)) (fp : List Addr), GG (X.blk s H scope (compEnvC scope cl C X.env) fp) tg (own.map (·.2)) mg) (ht : ∀ (s : Shared) (H : Hp) (C : Addr) (cl : List (Str × Addr)) (fp : List Addr), GTs (X.blk s H scope (compEnvC scope cl C X.env) fp) ifs nt mt)
    (hi1 : ∀ (s : Shared) (H : Hp) (C : Addr) (cl : List (Str × Addr)) (fp : List Addr), GI (X.blk s H scope (compEnvC scope cl C X.env) fp) tg1 iter1 ni1 mi1)
    (hg1 : ∀ (s : Shared) (H : Hp) (C : Addr) (cl : List (Str × Addr)) (fp : List Addr), GG (X.blk s H scope (compEnvC scope cl C X.env) fp) tg1 vs1 mg1) (ht1 : ∀ (s : Shared) (H : Hp) (C : Addr) (cl : List (Str × Addr)) (fp : List Addr), GTs (X.blk s H scope (compEnvC scope cl C X.env) fp) ifs1 nt1 mt1)
    (he : ∀ (s : Shared) (H : Hp) (C : Addr) (cl : List (Str × Addr)) (fp : List Addr), GE (X.blk s H scope (compEnvC scope cl C X.env) fp) elt ne me) (hs : ∀ x, foldedSetIterable iter X.env x = pure x := by intro _; rfl) (hs1 : ∀ env x, foldedSetIterable iter1 env x = pure x := by intro _ _; rfl) :
    GF X (.ListComp elt [⟨tg, iter, ifs, 0⟩, ⟨tg1, iter1, ifs1, 0⟩] scope pos) (ni + c) (mLc2C (nt + (ni1 + c1)) c (nt1 + ne) c1 mi mg mt mi1 mg1 mt1 me (own.map (·.2)) vs1) :=
  pe_imp (pe_lc2 hc hN hi ok hv hg ht hi1 hg1 ht1 he hs hs1) fun σ H Q h => lc2_ok h
end
end DL
namespace DL
open PySem PySem.Spec PyProof.Rows L2
/-! ### a list unpacked into names; tame data: shown, compared -/
def gUn (n : Nat) (m : MGs) : MG := fun x env P => match x with
  | .list xs => xs.length = n ∧ m xs env P
  | _ => False
section
variable {X : Cx} {es : List Expr} {pos : Pos} {vs : List Nat}
theorem gg_unl {k : Nat} {m : MGs} {n : Nat} (hc : X.calm = true) (h : PGs X es (tGs X.K vs m))
    (hn : (assignEach es X.env).length = n := by rfl) (hst : (assignEach es X.env).findIdx? (·.1) = none := by rfl) : GG X (.Tuple es k pos) vs (gUn n m) :=
  pg_imp (pg_unl hc h hn hst) fun v σ H Q h => by
  obtain ⟨W, B, G0, H0, G, env, x, P, R, d, hm, q⟩ := h
  cases x with
  | list xs =>
    obtain ⟨a, us, rfl, h1, h2⟩ := dp_lst d
    exact ⟨a, us, rfl, SqL.of (R.pub.lst h1), by rw [dpAll_len h2]; exact hm.1, W, B, G0, H0, G, env, xs, P, R, h2, hm.2, q⟩
  | _ => exact hm.elim
end
/-- a comprehension that takes over each item -/
theorem lcl_id {j : Nat} : ∀ (ds acc : List D) {env : DEnv} {P : List D → Prop}, j < env.length → acc.length + ds.length ≤ sizeLine → P (acc ++ ds) → mLcL (gNm j) mYes (mVar j) [j] ds acc env P
  | [], acc, env, P, _, _, h => by
    rw [List.append_nil] at h
    exact h
  | x :: xs, acc, env, P, hj, hl, h => by
    rw [List.length_cons] at hl
    refine ⟨rfl, ?_⟩
    show mVar j _ _
    unfold mVar
    rw [List.getElem?_set_self (by rw [wipeE_length]; exact hj)]
    refine ⟨rfl, by omega, ?_⟩
    refine lcl_id xs (acc ++ [x]) hj (by rw [List.length_append, List.length_singleton]; omega) ?_
    rw [List.append_assoc, List.singleton_append]
    exact h
mutual
/-- no dicts, numbers below 2 ^ 136, texts of at most 100 signs -/
def tame : D → Bool
  | .none => true
  | .bool _ => true
  | .int i => decide (i.natAbs < 2 ^ 136)
  | .str z => decide (z.cps.size ≤ 100) && z.cps.toList.all fun c => decide (c < 0x110000)
  | .list xs => tameA xs
  | .tuple xs => tameA xs
  | .dict _ => false
def tameA : List D → Bool
  | [] => true
  | x :: r => tame x && tameA r
end
mutual
theorem tame_mids : ∀ x : D, tame x = true → mids x = true
  | .none, _ => rfl
  | .bool _, _ => rfl
  | .int i, h => by rw [mids]; rw [tame] at h; exact h
  | .str z, h => by
    simp only [tame, mids, Bool.and_eq_true, decide_eq_true_eq, List.all_eq_true] at h ⊢
    exact ⟨h.1, fun c hc => Nat.lt_trans (h.2 c hc) (by decide)⟩
  | .list xs, h => by
    rw [mids]
    rw [tame] at h
    exact tameA_mids xs h
  | .tuple xs, h => by
    rw [mids]
    rw [tame] at h
    exact tameA_mids xs h
  | .dict _, h => by simp [tame] at h
theorem tameA_mids : ∀ xs : List D, tameA xs = true → midsA xs = true
  | [], _ => rfl
  | x :: r, h => by
    simp only [tameA, midsA, Bool.and_eq_true] at h ⊢
    exact ⟨tame_mids x h.1, tameA_mids r h.2⟩
end
mutual
theorem tame_lay : ∀ x : D, tame x = true → x.canLay0 = true ∧ noDict x = true
  | .none, _ => ⟨rfl, rfl⟩
  | .bool _, _ => ⟨rfl, rfl⟩
  | .int i, h => ⟨rfl, rfl⟩
  | .str z, h => by
    simp only [tame, Bool.and_eq_true, decide_eq_true_eq, List.all_eq_true] at h
    refine ⟨?_, rfl⟩
    simp only [PyData.canLay0, PyData.strOk, Array.all_eq_true', decide_eq_true_eq]
    exact fun c hc => h.2 c (Array.mem_toList_iff.mpr hc)
  | .list xs, h => by
    rw [tame] at h
    exact tameA_lay xs h
  | .tuple xs, h => by
    rw [tame] at h
    exact tameA_lay xs h
  | .dict _, h => by simp [tame] at h
theorem tameA_lay : ∀ xs : List D, tameA xs = true → PyData.canLayAll0 xs = true ∧ noDicts xs = true
  | [], _ => ⟨rfl, rfl⟩
  | x :: r, h => by
    simp only [tameA, Bool.and_eq_true] at h
    have h1 := tame_lay x h.1
    have h2 := tameA_lay r h.2
    exact ⟨by rw [PyData.canLayAll0, h1.1, h2.1]; rfl, by rw [noDicts, h1.2, h2.2]; rfl⟩
end
/-- tame, so deep at most, of so many parts and signs at most -/
def Bk (d m : Nat) (x : D) : Prop := tame x = true ∧ x.depth ≤ d ∧ x.bulk + 1 ≤ m
def BkA (d m : Nat) (xs : List D) : Prop := tameA xs = true ∧ PyData.depthAll xs ≤ d ∧ PyData.bulkAll xs ≤ m
theorem Bk.le {d m d' m' : Nat} {x : D} (h : Bk d m x) (hd : d ≤ d') (hm : m ≤ m') : Bk d' m' x := ⟨h.1, Nat.le_trans h.2.1 hd, Nat.le_trans h.2.2 hm⟩
theorem BkA.le {d m d' m' : Nat} {x : List D} (h : BkA d m x) (hd : d ≤ d') (hm : m ≤ m') : BkA d' m' x := ⟨h.1, Nat.le_trans h.2.1 hd, Nat.le_trans h.2.2 hm⟩
theorem BkA.up {d m d' : Nat} {x : List D} (h : BkA d m x) (hd : d ≤ d') : BkA d' m x := h.le hd (Nat.le_refl _)
theorem Bk.up {d m d' : Nat} {x : D} (h : Bk d m x) (hd : d ≤ d') : Bk d' m x := h.le hd (Nat.le_refl _)
theorem Bk.repr {d m : Nat} {x : D} (h : Bk d m x) (hd : d ≤ 60) (hm : m ≤ 300000) : x.showable = true ∧ x.depth ≤ 60 ∧ x.shown.length ≤ sizeLine := by
  obtain ⟨h1, h3, h4⟩ := mids_show x (tame_mids x h.1)
  have hs := PyData.shown_le_bulk 50 (by decide) x h3
  have n2 := h.2.2
  refine ⟨h1, Nat.le_trans h.2.1 hd, ?_⟩
  rw [sizeLine_eq]
  omega
theorem Bk.ok {d m : Nat} {x : D} (h : Bk d m x) (hd : d ≤ 64) : okEq x = true := by
  have := tame_lay x h.1
  unfold okEq SeqAt.shaped
  rw [this.1, this.2, decide_eq_true (Nat.le_trans h.2.1 hd)]
  rfl
theorem bk_none : Bk 0 1 .none := ⟨rfl, by simp [PyData.depth], by simp [PyData.bulk]⟩
theorem bk_bool {b : Bool} : Bk 0 1 (.bool b) := ⟨rfl, by simp [PyData.depth], by simp [PyData.bulk]⟩
theorem bk_intZ {i : Int} (h : i.natAbs < 2 ^ 136) : Bk 0 1 (.int i) := ⟨by simp only [tame, decide_eq_true_eq]; exact h, by simp [PyData.depth], by simp [PyData.bulk]⟩
theorem bk_int {k : Nat} (h : k < 2 ^ 64) : Bk 0 1 (.int (k : Int)) := bk_intZ (by rw [Int.natAbs_natCast]; exact Nat.lt_trans h (by decide))
theorem bk_strN {z : Str} {n : Nat} (h : z.length ≤ n) (hn : n ≤ 100) (hc : ∀ c ∈ z.cps.toList, c < 0x110000) : Bk 0 (n + 1) (.str z) := by
  have h : z.cps.size ≤ n := h
  refine ⟨?_, by simp [PyData.depth], by simp only [PyData.bulk]; omega⟩
  simp only [tame, Bool.and_eq_true, decide_eq_true_eq, List.all_eq_true]
  exact ⟨by omega, hc⟩
theorem bk_nil {d m : Nat} : BkA d m [] := ⟨rfl, by simp [PyData.depthAll], by simp [PyData.bulkAll]⟩
theorem bk_cons {d n m : Nat} {x : D} {xs : List D} (h : Bk d n x) (t : BkA d m xs) : BkA d (n + m) (x :: xs) :=
  ⟨by rw [tameA, h.1, t.1]; rfl, by rw [PyData.depthAll]; exact Nat.max_le.mpr ⟨h.2.1, t.2.1⟩, by rw [PyData.bulkAll]; exact Nat.add_le_add h.2.2 t.2.2⟩
theorem bk_tup {d n : Nat} {xs : List D} (h : BkA d n xs) : Bk (d + 1) (n + 1) (.tuple xs) :=
  ⟨by rw [tame]; exact h.1, by rw [PyData.depth]; exact Nat.add_le_add_right h.2.1 1, by rw [PyData.bulk]; exact Nat.add_le_add_right h.2.2 1⟩
theorem bk_lst {d n : Nat} {xs : List D} (h : BkA d n xs) : Bk (d + 1) (n + 1) (.list xs) :=
  ⟨by rw [tame]; exact h.1, by rw [PyData.depth]; exact Nat.add_le_add_right h.2.1 1, by rw [PyData.bulk]; exact Nat.add_le_add_right h.2.2 1⟩
theorem bk_all {d m : Nat} : ∀ {xs : List D}, (∀ x ∈ xs, Bk d m x) → BkA d (m * xs.length) xs
  | [], _ => bk_nil
  | x :: xs, h => (bk_cons (h x List.mem_cons_self) (bk_all fun y hy => h y (List.mem_cons_of_mem _ hy))).le (Nat.le_refl _) (by rw [List.length_cons, Nat.mul_add]; omega)
theorem bk_map {α : Type} {d m : Nat} {f : α → D} {l : List α} (h : ∀ x ∈ l, Bk d m (f x)) : BkA d (m * l.length) (l.map f) := by
  have := bk_all (xs := l.map f) fun y hy => by
    obtain ⟨x, hx, rfl⟩ := List.mem_map.mp hy
    exact h x hx
  rwa [List.length_map] at this
theorem bk_app {d n m : Nat} : ∀ {xs ys : List D}, BkA d n xs → BkA d m ys → BkA d (n + m) (xs ++ ys)
  | [], ys, _, h => h.le (Nat.le_refl _) (by omega)
  | x :: xs, ys, h, t => by
    obtain ⟨h1, h2, h3⟩ := h
    simp only [tameA, Bool.and_eq_true] at h1
    rw [PyData.depthAll] at h2
    rw [PyData.bulkAll] at h3
    have i := bk_app (xs := xs) (ys := ys) (n := n - (x.bulk + 1)) ⟨h1.2, (Nat.max_le.mp h2).2, by omega⟩ t
    exact (bk_cons (n := x.bulk + 1) ⟨h1.1, (Nat.max_le.mp h2).1, Nat.le_refl _⟩ i).le (Nat.le_refl _) (by omega)
mutual
/-- no truths, no dicts: == is sameness -/
def plainD : D → Bool
  | .bool _ => false
  | .dict _ => false
  | .list xs => plainA xs
  | .tuple xs => plainA xs
  | _ => true
def plainA : List D → Bool
  | [] => true
  | x :: r => plainD x && plainA r
end
mutual
theorem eqv_plain : ∀ x y : D, plainD x = true → plainD y = true → PyData.eqv x y = true → x = y
  | .none, y, _, hy, h => by cases y <;> simp [PyData.eqv] at h ⊢
  | .bool _, y, hx, _, _ => by simp [plainD] at hx
  | .int i, y, _, hy, h => by
    cases y <;> simp [PyData.eqv] at h ⊢
    · simp [plainD] at hy
    · exact h
  | .str z, y, _, hy, h => by cases y <;> simp [PyData.eqv] at h ⊢; exact h
  | .list xs, y, hx, hy, h => by
    cases y <;> simp only [PyData.eqv, Bool.false_eq_true] at h
    rename_i ys
    rw [plainD] at hx hy
    rw [eqvA_plain xs ys hx hy h]
  | .tuple xs, y, hx, hy, h => by
    cases y <;> simp only [PyData.eqv, Bool.false_eq_true] at h
    rename_i ys
    rw [plainD] at hx hy
    rw [eqvA_plain xs ys hx hy h]
  | .dict _, y, hx, _, _ => by simp [plainD] at hx
theorem eqvA_plain : ∀ xs ys : List D, plainA xs = true → plainA ys = true → PyData.eqvAll xs ys = true → xs = ys
  | [], [], _, _, _ => rfl
  | [], _ :: _, _, _, h => by simp [PyData.eqvAll] at h
  | _ :: _, [], _, _, h => by simp [PyData.eqvAll] at h
  | x :: xs, y :: ys, hx, hy, h => by
    simp only [plainA, PyData.eqvAll, Bool.and_eq_true] at hx hy h
    rw [eqv_plain x y hx.1 hy.1 h.1, eqvA_plain xs ys hx.2 hy.2 h.2]
end
mutual
theorem eqv_self : ∀ x : D, noDict x = true → PyData.eqv x x = true
  | .none, _ => rfl
  | .bool b, _ => by simp [PyData.eqv]
  | .int i, _ => by simp [PyData.eqv]
  | .str z, _ => by simp [PyData.eqv]
  | .list xs, h => by
    rw [PyData.eqv]
    exact eqvA_self xs (by simpa [noDict] using h)
  | .tuple xs, h => by
    rw [PyData.eqv]
    exact eqvA_self xs (by simpa [noDict] using h)
  | .dict _, h => by simp [noDict] at h
theorem eqvA_self : ∀ xs : List D, noDicts xs = true → PyData.eqvAll xs xs = true
  | [], _ => rfl
  | x :: xs, h => by
    simp only [noDicts, Bool.and_eq_true] at h
    rw [PyData.eqvAll, eqv_self x h.1, eqvA_self xs h.2]
    rfl
end
theorem Bk.nod {d m : Nat} {x : D} (h : Bk d m x) : noDict x = true := (tame_lay x h.1).2
theorem Bk.self {d m : Nat} {x : D} (h : Bk d m x) : PyData.eqv x x = true := eqv_self x h.nod
theorem plainA_map {α : Type} {f : α → D} : ∀ {l : List α}, (∀ x ∈ l, plainD (f x) = true) → plainA (l.map f) = true
  | [], _ => rfl
  | x :: l, h => by
    rw [List.map_cons, plainA, h x List.mem_cons_self, plainA_map fun y hy => h y (List.mem_cons_of_mem _ hy)]
    rfl
theorem plainA_app : ∀ {xs ys : List D}, plainA xs = true → plainA ys = true → plainA (xs ++ ys) = true
  | [], _, _, h => h
  | x :: xs, ys, h, t => by
    simp only [plainA, Bool.and_eq_true] at h
    rw [List.cons_append, plainA, h.1, plainA_app h.2 t]
    rfl
end DL
namespace DL
open PySem PySem.Spec PyProof.Rows L2
/-! ### sorted of any alike data; list.index, sum -/
def srtD (xs : List D) : List D := xs.mergeSort (PySem.W.dataLe false fun x => x)
def dSorted : List D → (D → Prop) → Prop
  | [.list xs], P => PySem.W.AllAlike xs ∧ PySem.W.Sortable xs ∧ xs.length ≤ sizeLine ∧ (∀ x ∈ xs, noDict x = true ∧ x.depth ≤ 60) ∧ P (.list (srtD xs))
  | _, _ => False
section
variable {X : Cx} {pins : List (Addr × Obj)} {σ : L2.St} {H G : Hp} {s : Shared}
def OfD (K : PySem.W.Frag) (G : Hp) (u : Value) (d : D) : Prop := ∃ v, RelV v u ∧ Dr K G v d
theorem each_of {K : PySem.W.Frag} {G : Hp} : ∀ {vs : List V} {us : List Value} {ds : List D}, Vals vs us → DrAll K G vs ds → PySem.W.EachIs (OfD K G) us ds
  | _, _, _, .nil, .nil => .nil
  | _, _, _, .cons r rr, .cons d dd => .cons ⟨_, r, d⟩ (each_of rr dd)
theorem each_back {K : PySem.W.Frag} {G : Hp} : ∀ {us : List Value} {ds : List D}, PySem.W.EachIs (OfD K G) us ds → ∃ vs : List V, Vals vs us ∧ DrAll K G vs ds
  | _, _, .nil => ⟨[], .nil, .nil⟩
  | _, _, .cons ⟨v, r, d⟩ t => by
    obtain ⟨vs, h1, h2⟩ := each_back t
    exact ⟨v :: vs, .cons r h1, .cons d h2⟩
theorem each_reads (I : Inv X pins σ H s) (sG : Pub G H) : ∀ {vs : List V} {us : List Value} {ds : List D}, Vals vs us → DrAll X.K G vs ds → (∀ x ∈ ds, noDict x = true) → PySem.W.EachIs (fun v b => ∃ as, Reads s.heap v b as) us ds
  | _, _, _, .nil, .nil, _ => .nil
  | _, _, _, .cons r rr, .cons d dd, h => .cons (Dp.reads I _ _ _ (dr_dp (dp_pub sG d (h _ List.mem_cons_self)) (h _ List.mem_cons_self)) r) (each_reads I sG rr dd fun x hx => h x (List.mem_cons_of_mem _ hx))
theorem cd_sorted (hu : X.A.units + 64 < cLine) : CallR X (.builtin "sorted") (rDC X.K dSorted) := by
  intro pins s σ H vs us Q I r h
  obtain ⟨G, ds, P, sG, da, hf, q⟩ := h
  unfold dSorted at hf
  split at hf
  · rename_i xs
    obtain ⟨v, rfl, d⟩ := all1 da
    obtain ⟨a, ws, rfl, h1, h2⟩ := dp_lst d
    obtain ⟨al, so, hz, dd, hP⟩ := hf
    obtain ⟨its, rv, hl, _⟩ := I.list (SqL.of (K := X.K) (sG.lst h1))
    rw [Vals.ref1 r]
    have em : xs.map (fun x => x) = xs := List.map_id' _
    refine PySem.W.sorted_data (enc := fun x => x) hl.isList (each_of rv h2) (each_reads I sG rv h2 fun x hx => (dd x hx).1) (by rw [em]; exact al) (by rw [em]; exact so) hz (fun b hb => ?_) fun out ho eo => ?_
    · have := (dd b hb).2
      show _ + 2 + b.depth < _
      omega
    · obtain ⟨ws', e1, e2⟩ := each_back eo
      obtain ⟨ep, he'⟩ := PyProof.Rows.sortedAll_at s.heap its out.toArray
      have hlen : ws'.length ≤ sizeLine := by
        rw [e1.length, ho]
        exact hz
      have hfr : H (s.heap.objs.size + 1) = none := I.hok.fresh (Nat.le_succ _)
      have g : Grow G H (upd G (s.heap.objs.size + 1) (.lst ws')) (upd H (s.heap.objs.size + 1) (.lst ws')) := Grow.new1 sG hfr
      exact ⟨.ref _, upd H (s.heap.objs.size + 1) (.lst ws'), I.laid (t' := s.toks) (fun _ _ => PyProof.Rows.sortedAll_old) (Nat.le_succ _) ⟨hlen, out, ep, e1, by simpa using he'⟩, rfl, q _ _ _ _ hP g (.lst upd_same (dpAll_same g.eg e2))⟩
  · exact hf.elim
/-- l.index(x): x is there -/
def findD (xs : List D) (x : D) : Option Nat := xs.findIdx? fun z => PyData.eqv z x
def fIndex : D → List D → (D → Prop) → Prop
  | .list xs, [x], P => okEq (.list xs) = true ∧ okEq x = true ∧ ∃ j, findD xs x = some j ∧ P (.int (j : Nat))
  | _, _, _ => False
theorem md_index (hu : X.A.units + 65 < cLine) : MtR X "list.index" (rDM X.K fIndex) := by
  intro pins s σ H x xs v us Q I rx rs h
  obtain ⟨G, d, ds, P, sG, dd, da, hf, q⟩ := h
  unfold fIndex at hf
  split at hf
  · rename_i zs y
    obtain ⟨k1, k2, j, hj, hP⟩ := hf
    obtain ⟨u, rfl, dy⟩ := all1 da
    obtain ⟨a, ws, rfl, h1, h2⟩ := dp_lst dd
    obtain ⟨l1, l2⟩ := okEq_dp sG k1 dd
    obtain ⟨y1, y2⟩ := okEq_dp sG k2 dy
    have hf := List.findIdx?_eq_some_iff_getElem.mp hj
    obtain ⟨hjl, ht, hno⟩ := hf
    exact mt_indexD hu pins s σ H _ _ v us Q I rx rs ⟨a, u, y, zs, j, zs[j], rfl, rfl, l1, y1, l2, y2, List.getElem?_eq_getElem hjl, ht, fun m z' hm hz => by
      obtain ⟨hml, rfl⟩ := List.getElem?_eq_some_iff.mp hz
      simpa using hno m hm, q _ _ G H hP (Grow.refl sG) (.int _)⟩
  · exact hf.elim
/-- sum of a list of ints -/
def intsD : List D → Option (List Int)
  | [] => some []
  | .int i :: r => (intsD r).map (i :: ·)
  | _ :: _ => none
def dSum : List D → (D → Prop) → Prop
  | [.list xs], P => match intsD xs with
    | some ns => P (.int ns.sum)
    | none => False
  | _, _ => False
theorem ints_vals {K : PySem.W.Frag} {G : Hp} : ∀ {vs : List V} {ds : List D} {ns : List Int}, DrAll K G vs ds → intsD ds = some ns → vs = ns.map V.int
  | _, _, _, .nil, h => by cases h; rfl
  | _, _, ns, .cons (d := d) a t, h => by
    cases d with
    | int i =>
      simp only [intsD, Option.map_eq_some_iff] at h
      obtain ⟨r, h1, rfl⟩ := h
      rw [dp_int a, ints_vals t h1]
      rfl
    | _ => cases h
theorem cd_sum (hc : X.calm = true) : CallR X (.builtin "sum") (rDC X.K dSum) := by
  intro pins s σ H vs us Q I r h
  obtain ⟨G, ds, P, sG, da, hf, q⟩ := h
  unfold dSum at hf
  split at hf
  · rename_i xs
    obtain ⟨v, rfl, d⟩ := all1 da
    obtain ⟨a, ws, rfl, h1, h2⟩ := dp_lst d
    split at hf
    · rename_i ns hn
      exact cr_sum hc pins s σ H _ us Q I r ⟨a, ns, rfl, by rw [← ints_vals h2 hn]; exact SqL.of (sG.lst h1), q _ _ G H hf (Grow.refl sG) (.int _)⟩
    · exact hf.elim
  · exact hf.elim
end
end DL
namespace DL
open PySem PySem.Spec PyProof.Rows L2
/-! ### a dict comprehension -/
def mDcL (g : MG) (tt : MT) (tk te : ME) (vs : List Nat) : List D → List (Key × D) → DEnv → (List (Key × D) → Prop) → Prop
  | [], acc, _, P => P acc
  | x :: xs, acc, env, P => g x (wipeE env vs) fun e1 => tt e1 fun b e2 => e2 = e1 ∧ match b with
    | true => tk e2 fun y e3 => e3 = e2 ∧ te e3 fun z e4 => e4 = e3 ∧ ∃ k, keyOf y = some k ∧ (acc.length < sizeLine ∧ (acc.map (·.1)).Nodup) ∧ mDcL g tt tk te vs xs (putKD acc k z) env P
    | false => mDcL g tt tk te vs xs acc env P
/-- a new dict, not published yet -/
def FreshDk (K : PySem.W.Frag) (W : Wd) (H0 G : Hp) (env : DEnv) (σ : L2.St) (H : Hp) (p : Addr) (kvs : List (Key × D)) : Prop :=
  ∃ us, H p = some (.dK us) ∧ G p = none ∧ H0 p = none ∧ ¬ W.mu p ∧ (∀ (i : Nat) l w c, env[i]? = some (.mo w c) → σ[i]? = some (some (.ref l)) → l ≠ p) ∧ DrFs K G us kvs
theorem wipeE_idem (τ : DEnv) (vs : List Nat) : wipeE (wipeE τ vs) vs = wipeE τ vs := by
  apply List.ext_getElem?
  intro n
  by_cases hn : n ∈ vs
  · cases z1 : (wipeE (wipeE τ vs) vs)[n]? with
    | none =>
      rw [List.getElem?_eq_none_iff, wipeE_length] at z1
      exact (List.getElem?_eq_none_iff.mpr z1).symm
    | some y =>
      have b1 := (List.getElem?_eq_some_iff.mp z1).1
      rw [wipeE_length] at b1
      rw [List.getElem?_eq_getElem b1, wipeE_in hn z1, wipeE_in hn (List.getElem?_eq_getElem b1)]
  · rw [wipeE_out hn]
/-- a written object that no slot holds is written -/
theorem Rel.aside {K : PySem.W.Frag} {W : Wd} {B : Nat} {G0 H0 G H : Hp} {env : DEnv} {σ : L2.St} {A : Addr} {o : HO} (Rb : Rel K W B G0 H0 G env σ H) (b2 : G A = none) (f2 : H0 A = none) (f3 : ¬ W.mu A) (b3 : ∀ (i : Nat) l w c, env[i]? = some (.mo w c) → σ[i]? = some (some (.ref l)) → l ≠ A) :
    Rel K W B G0 H0 G env σ (upd H A o) := by
  refine { g0 := Rb.g0, pub := fun a o e => ?_, gm := Rb.gm, inv := W.loc _ H _ (fun a m => ?_) Rb.inv, fr := fun a o e m => ?_, pn := Rb.pn, len := Rb.len, slot := fun j e s h1 h2 => ?_, dis := Rb.dis }
  · have ne : a ≠ A := fun z => by
      subst z
      rw [b2] at e
      cases e
    rw [upd_ne ne]
    exact Rb.pub a o e
  · rw [upd_ne fun z => by subst z; exact f3 m]
  · have ne : a ≠ A := fun z => by
      subst z
      rw [f2] at e
      cases e
    rw [upd_ne ne]
    exact Rb.fr a o e m
  · have q := Rb.slot j e s h1 h2
    cases e with
    | mo w2 c2 =>
      obtain ⟨l2, ee, n2, o2, q1⟩ := q
      refine ⟨l2, ee, n2, o2, scok_later (Same.refl _) (fun u hu => ?_) q1⟩
      subst ee
      rw [upd_ne (b3 j l2 w2 c2 h1 h2)]
      exact hu
    | un => trivial
    | d x => exact q
    | hd => exact q
    | «at» _ => trivial
theorem dc_loop {K : PySem.W.Frag} {J : It} {mg : MG} {mt : MT} {mk me : ME} {vs : List Nat} {nt nk ne : Nat} {σ : L2.St} {W : Wd} {B : Nat} {G0 H0 G1 H1 : Hp} {e1 : DEnv} {A : Addr} {ds : List D} {av1 : List (Key × V)} {acc1 : List (Key × D)} {Pc : List (Key × D) → Prop}
    (R1 : Rel K W (B + ds.length * (nt + (nk + ne))) G0 H0 G1 e1 σ H1) (it : ItD K G1 J ds) (no : noOwn e1 vs) (hA1 : H1 A = some (.dK av1)) (f1 : G1 A = none) (f2 : H0 A = none) (f3 : ¬ W.mu A) (f4 : ∀ (i : Nat) l w c, e1[i]? = some (.mo w c) → σ[i]? = some (some (.ref l)) → l ≠ A)
    (dA1 : DrFs K G1 av1 acc1) (p1 : mDcL mg mt mk me vs ds acc1 e1 Pc) {Fin : Hp → Prop} (q : ∀ ys av G' H', Pc ys → Same G1 G' → Rel K W B G0 H0 G' e1 σ H' → H' A = some (.dK av) → G' A = none → DrFs K G' av ys → Fin H') :
    ∃ Wm : Nat → Nat → Hp → Prop, (∃ m, Wm 0 m H1) ∧ ∀ i m H, Wm i m H → (J.stop i H ∧ Fin H) ∨ (J.go i H ∧ ∃ Nx : Hp → Prop, (∀ H', Nx H' → ∃ m', m' < m ∧ Wm (i + 1) m' H') ∧ ∀ x H', J.yld i H x H' → tG K vs mg x (wipe σ vs) H' fun σ2 H2 => wipe σ2 vs = wipe σ vs ∧ tDT K nt mt σ2 H2 fun b H3 =>
      if b = true then tD K nk mk σ2 H3 fun y H4 => tD K ne me σ2 H4 fun z H5 => ∃ kvs k, y = kV k ∧ H5 A = some (.dK kvs) ∧ kvs.length < sizeLine ∧ Nx (upd H5 A (.dK (putK kvs k z))) else Nx H3) := by
  refine ⟨fun i m H' => m = ds.length - i ∧ i ≤ ds.length ∧ ∃ G' av acc, Same G1 G' ∧ Rel K W (B + (ds.length - i) * (nt + (nk + ne))) G0 H0 G' e1 σ H' ∧ H' A = some (.dK av) ∧ G' A = none ∧ (∀ (i : Nat) l w c, e1[i]? = some (.mo w c) → σ[i]? = some (some (.ref l)) → l ≠ A) ∧ DrFs K G' av acc ∧ mDcL mg mt mk me vs (ds.drop i) acc e1 Pc,
    ⟨ds.length, rfl, Nat.zero_le _, G1, av1, acc1, Same.refl _, R1.le (by rw [Nat.sub_zero]; exact Nat.le_refl _), hA1, f1, f4, dA1, p1⟩, ?_⟩
  rintro i m H' ⟨rfl, hi, G', av, acc, s', R', hA', gA', oA', dA', p'⟩
  by_cases hlt : i < ds.length
  · have hx : ds[i]? = some ds[i] := List.getElem?_eq_getElem hlt
    have hd : ds.drop i = ds[i] :: ds.drop (i + 1) := List.drop_eq_getElem_cons hlt
    obtain ⟨hgo, hy⟩ := (it G' H' s' R'.pub i).1 _ hx
    rw [hd] at p'
    rw [turn_cost hlt] at R'
    refine .inr ⟨hgo, fun H2 => ∃ G' av acc, Same G1 G' ∧ Rel K W (B + (ds.length - (i + 1)) * (nt + (nk + ne))) G0 H0 G' e1 σ H2 ∧ H2 A = some (.dK av) ∧ G' A = none ∧ (∀ (i : Nat) l w c, e1[i]? = some (.mo w c) → σ[i]? = some (some (.ref l)) → l ≠ A) ∧ DrFs K G' av acc ∧ mDcL mg mt mk me vs (ds.drop (i + 1)) acc e1 Pc, fun H2 hN => ⟨ds.length - (i + 1), by omega, rfl, hlt, hN⟩, fun v H2 y => ?_⟩
    obtain ⟨G2, g2, d2⟩ := hy v H2 y
    have R3 := R'.grow g2
    have hA2 : H2 A = some (.dK av) := g2.eh _ _ hA'
    have gA2 : G2 A = none := by
      cases z : G2 A with
      | none => rfl
      | some o =>
        have := g2.new A o z gA'
        rw [hA'] at this
        cases this
    have hg0 : G0 A = none := R3.g0.free gA2
    have R4 := (R3.guard hA2 gA2 oA').wipe vs
    refine ⟨W, _, G0, upd H0 A (.dK av), G2, _, _, _, R4, d2, p', fun e3 σ3 G3 H3 p3 s3 R5 w1 w2 => ⟨by rw [w1, wipe_idem], ?_⟩⟩
    have g3 : Same G' G3 := g2.eg.trans s3
    refine ⟨W, B + (ds.length - (i + 1)) * (nt + (nk + ne)) + (nk + ne), G0, upd H0 A (.dK av), G3, e3, _, R5.le (by omega), p3, fun b e4 G4 H4 p4 s4 R6 => ?_⟩
    obtain ⟨rfl, p4⟩ := p4
    have sT : Same G1 G4 := (s'.trans g3).trans s4
    have back : ∀ (B5 : Nat) (G5 H5 : Hp), Same G3 G5 → Rel K W B5 G0 (upd H0 A (.dK av)) G5 e4 σ3 H5 → Rel K W B5 G0 H0 G5 e1 σ H5 ∧ H5 A = some (.dK av) ∧ G5 A = none ∧ (∀ (i : Nat) l w c, e1[i]? = some (.mo w c) → σ[i]? = some (some (.ref l)) → l ≠ A) := fun B5 G5 H5 s5 R7 => by
      have R8 := R7.wipe vs
      rw [w1, wipe_idem, w2, wipeE_idem] at R8
      obtain ⟨R9, u1, u2, u3⟩ := R8.unguard f3 hg0 f2
      exact ⟨R3.unwipe no (s3.trans s5) R9, u1, u2, oA'⟩
    cases b with
    | true =>
      refine iteT ⟨W, B + (ds.length - (i + 1)) * (nt + (nk + ne)) + ne, G0, upd H0 A (.dK av), G4, e4, _, R6.le (by omega), p4, fun y e5 u G5 H5 p5 s5 R7 d5 => ?_⟩
      obtain ⟨rfl, p5⟩ := p5
      refine ⟨W, B + (ds.length - (i + 1)) * (nt + (nk + ne)), G0, upd H0 A (.dK av), G5, e5, _, R7.le (by omega), p5, fun z e6 v6 G6 H6 p6 s6 R8 d6 => ?_⟩
      obtain ⟨rfl, k, hk, ⟨hl, nd⟩, p6⟩ := p6
      obtain ⟨Rb, b1, b2, b3⟩ := back _ G6 H6 ((s4.trans s5).trans s6) R8
      have ek := keyOf_kV hk d5
      have dA6 := drFs_same (((g3.trans s4).trans s5).trans s6) dA'
      refine ⟨av, k, ek, b1, by rw [drFs_len dA']; exact hl, G6, putK av k v6, putKD acc k z, (sT.trans s5).trans s6, Rb.aside b2 f2 f3 b3, upd_same, b2, b3, fs_put d6 dA6 nd, p6⟩
    | false =>
      obtain ⟨Rb, b1, b2, b3⟩ := back _ G4 H4 s4 (R6.le (Nat.le_add_right _ _))
      exact iteF ⟨G4, av, acc, sT, Rb, b1, b2, b3, drFs_same (g3.trans s4) dA', p4⟩
  · have e : i = ds.length := by omega
    subst e
    rw [List.drop_length] at p'
    exact .inl ⟨(it G' H' s' R'.pub _).2 (Nat.le_refl _), q _ av G' H' p' s' (R'.le (by omega)) hA' gA' dA'⟩
abbrev MDk := DEnv → (List (Key × D) → DEnv → Prop) → Prop
def tDk (K : PySem.W.Frag) (n : Nat) (m : MDk) : TE := fun σ H Q => ∃ (W : Wd) (B : Nat) (G0 H0 G : Hp) (env : DEnv) (P : List (Key × D) → DEnv → Prop), Rel K W (B + n) G0 H0 G env σ H ∧ m env P ∧
  ∀ kvs env' p G' H', P kvs env' → Same G G' → Rel K W B G0 H0 G' env' σ H' → FreshDk K W H0 G' env' σ H' p kvs → Q (.ref p) H'
abbrev GDk (X : Cx) (e : Expr) (n : Nat) (m : MDk) : Prop := PE X e (tDk X.K n m)
def mDcC (nb c : Nat) (i : MI) (g : MG) (tt : MT) (tk te : ME) (vs : List Nat) : MDk := fun env P => i env fun ds e1 => ds.length * nb ≤ c ∧ noOwn e1 vs ∧ mDcL g tt tk te vs ds [] e1 fun ys => P ys e1
theorem dc_ok {K : PySem.W.Frag} {mi : MI} {mg : MG} {mt : MT} {mk me : ME} {vs : List Nat} {ni nt nk ne c : Nat} {σ : L2.St} {H : Hp} {Q : VK} (h : tDk K (ni + c) (mDcC (nt + (nk + ne)) c mi mg mt mk me vs) σ H Q) : tDc (tI K ni mi) (tG K vs mg) (tDT K nt mt) (tD K nk mk) (tD K ne me) vs σ H Q := by
  obtain ⟨W, B, G0, H0, G, env, P, R, hm, q⟩ := h
  refine ⟨W, B + c, G0, H0, G, env, _, R.le (by omega), hm, fun ds e1 J G1 H1 p1 s1 R1 it A hA => ?_⟩
  obtain ⟨cost, no, p1⟩ := p1
  obtain ⟨R2, f1, f2, f3, f4⟩ := R1.fresh (o := .dK []) hA
  exact dc_loop (B := B) (R2.le (Nat.add_le_add_left cost B)) it no upd_same f1 f2 f3 f4 .nil p1 fun ys av G' H' p' s' R' a1 a2 d' => q _ _ _ _ _ p' (s1.trans s') R' ⟨av, a1, a2, f2, f3, f4, d'⟩
def kvsD (kvs : List (Key × D)) : List (D × D) := kvs.map fun p => (keyD p.1, p.2)
theorem fs_kvs {K : PySem.W.Frag} {G : Hp} : ∀ {us : List (Key × V)} {kvs : List (Key × D)}, DrFs K G us kvs → DrKv K G us (kvsD kvs)
  | _, _, .nil => .nil
  | _, _, .cons a t => .cons a (fs_kvs t)
theorem Rel.pubD {K : PySem.W.Frag} {W : Wd} {B : Nat} {G0 H0 G H : Hp} {env : DEnv} {σ : L2.St} {p : Addr} {kvs : List (Key × D)} (R : Rel K W B G0 H0 G env σ H) (h : FreshDk K W H0 G env σ H p kvs) :
    ∃ G', Same G G' ∧ Rel K W B G0 H0 G' env σ H ∧ Dr K G' (.ref p) (.dict (kvsD kvs)) := by
  obtain ⟨us, hp, hg, h0, hm, hd, hq⟩ := h
  have sg : Same G (upd G p (.dK us)) := same_upd hg
  have R1 := R.pubO (o := .dK us) hg h0 hm hd
  have e : upd H p (.dK us) = H := by
    funext a
    by_cases z : a = p
    · subst z
      rw [upd_same, hp]
    · rw [upd_ne z]
  rw [e] at R1
  exact ⟨_, sg, R1, .dic (.inl upd_same) (fs_kvs (drFs_same sg hq))⟩
section
variable {X : Cx} {kx vx tg iter e : Expr} {ifs : List Expr} {scope : Scope} {own : List (Str × Nat)} {pos spos py : Pos} {mi : MI} {mg : MG} {mt : MT} {mk me : ME} {ni nt nk ne : Nat}
def mPubD (f : MDk) : ME := fun env P => f env fun kvs e1 => P (.dict (kvsD kvs)) e1
theorem ge_pubD {mf : MDk} (h : GDk X e ne mf) : GE X e ne (mPubD mf) := pe_imp h fun σ H Q h => by
  obtain ⟨W, B, G0, H0, G, env, P, R, hm, q⟩ := h
  refine ⟨W, B, G0, H0, G, env, _, R, hm, fun xs e1 p G1 H1 p1 s1 R1 f1 => ?_⟩
  obtain ⟨G2, s2, R2, d2⟩ := R1.pubD f1
  exact q _ e1 _ G2 H1 p1 (s1.trans s2) R2 d2
theorem gd_dc (c : Nat) (hc : X.calm = true) (hN : X.N.Nodup) (hi : GI X tg iter ni mi) (ok : BlkOk X.N X.env.scope scope own)
    (hg : ∀ (s : Shared) (H : Hp) (C : Addr) (cl : List (Str × Addr)) (fp : List Addr), GG (X.blk s H scope (compEnvC scope cl C X.env) fp) tg (own.map (·.2)) mg) (ht : ∀ (s : Shared) (H : Hp) (C : Addr) (cl : List (Str × Addr)) (fp : List Addr), GTs (X.blk s H scope (compEnvC scope cl C X.env) fp) ifs nt mt)
    (hk : ∀ (s : Shared) (H : Hp) (C : Addr) (cl : List (Str × Addr)) (fp : List Addr), GE (X.blk s H scope (compEnvC scope cl C X.env) fp) kx nk mk)
    (he : ∀ (s : Shared) (H : Hp) (C : Addr) (cl : List (Str × Addr)) (fp : List Addr), GE (X.blk s H scope (compEnvC scope cl C X.env) fp) vx ne me) (hs : ∀ x, foldedSetIterable iter X.env x = pure x := by intro _; rfl) :
    GDk X (.DictComp kx vx [⟨tg, iter, ifs, 0⟩] scope pos) (ni + c) (mDcC (nt + (nk + ne)) c mi mg mt mk me (own.map (·.2))) := pe_imp (pe_dc hc hN hi ok hg ht hk he hs) fun σ H Q h => dc_ok h
/-- x = {..}: a dict of one's own -/
def sSetDk (i : Nat) (m : MDk) : MS := fun E env => m env fun kvs e1 => E.nx (e1.set i (.mo none (.dic kvs)))
theorem Rel.setDk {K : PySem.W.Frag} {W : Wd} {B : Nat} {G0 H0 G H : Hp} {env : DEnv} {σ : L2.St} {p : Addr} {i : Nat} {kvs : List (Key × D)} (R : Rel K W B G0 H0 G env σ H) (h : FreshDk K W H0 G env σ H p kvs) :
    Rel K W B G0 H0 G (env.set i (.mo none (.dic kvs))) (σ.set i (some (.ref p))) H := by
  obtain ⟨us, hp, hg, h0, hm, hd, hq⟩ := h
  have e : upd H p (.dK us) = H := by
    funext a
    by_cases z : a = p
    · subst z
      rw [upd_same, hp]
    · rw [upd_ne z]
  have := R.newM (i := i) (o := .dK us) (c := .dic kvs) hg h0 hm hd (show ∃ us, _ ∧ _ from ⟨us, upd_same, hq⟩)
  rw [e] at this
  exact this
theorem gs_setDk {i : Nat} {x : Str} {mf : MDk} (hN : X.N.Nodup) (hi : X.N[i]? = some x) (hx : Loc X.env.scope x) (h : GDk X e ne mf) (hs : swapsWith e (some (.Name x py)) spos.line X.env = pure false := by rfl) (hf : X.fn x = true ∨ X.env.scope.names.lookup x = some .local := by first | exact .inl rfl | exact .inr rfl) :
    GS X (.Assign [.Name x py] e spos) ne (sSetDk i mf) := ps_imp (ps_set hN hi hx h hs hf) fun D σ H h => by
  obtain ⟨W, B, G0, H0, G, env, E, R, hm, q⟩ := h
  refine ⟨W, B, G0, H0, G, env, _, R, hm, fun kvs e1 p G1 H1 p1 s1 R1 f1 => ?_⟩
  exact q.nx _ _ _ _ p1 s1 (R1.setDk f1)
end
end DL
namespace DL
open PySem PySem.Spec PyProof.Rows L2
/-! ### a dict is locked while it is walked -/
def Sim (G G' : Hp) : Prop := ∀ a o, G a = some o → G' a = some o ∨ (∃ kvs ob, o = .dK kvs ∧ G' a = some (.frz ob (.dK kvs))) ∨ ∃ kvs ob, o = .frz ob (.dK kvs) ∧ G' a = some (.dK kvs)
theorem sim_lst {G G' : Hp} (s : Sim G G') {a : Addr} {us : List V} (h : G a = some (.lst us)) : G' a = some (.lst us) := by
  rcases s a _ h with h | ⟨_, _, e, _⟩ | ⟨_, _, e, _⟩
  · exact h
  · cases e
  · cases e
theorem sim_sqT {K : PySem.W.Frag} {G G' : Hp} (s : Sim G G') {a : Addr} {us : List V} (h : SqT K G a us) : SqT K G' a us := by
  rcases h with (h | ⟨o, h⟩) | h
  · rcases s a _ h with h | ⟨_, _, e, _⟩ | ⟨_, _, e, _⟩
    · exact .inl (.inl h)
    · cases e
    · cases e
  · rcases s a _ h with h | ⟨_, _, e, _⟩ | ⟨_, _, e, _⟩
    · exact .inl (.inr ⟨o, h⟩)
    · cases e
    · cases e
  · exact .inr h
theorem sim_rd {G G' : Hp} (s : Sim G G') {a : Addr} {us : List (Key × V)} (h : Rd G a (.dK us)) : Rd G' a (.dK us) := by
  rcases h with h | ⟨o, h⟩
  · rcases s a _ h with h | ⟨_, ob, e, h⟩ | ⟨_, _, e, _⟩
    · exact .inl h
    · cases e
      exact .inr ⟨ob, h⟩
    · cases e
  · rcases s a _ h with h | ⟨_, _, e, _⟩ | ⟨_, _, e, h⟩
    · exact .inr ⟨o, h⟩
    · cases e
    · cases e
      exact .inl h
mutual
theorem dr_sim {K : PySem.W.Frag} {G G' : Hp} (s : Sim G G') : ∀ {v : V} {x : D}, Dr K G v x → Dr K G' v x
  | _, _, .non => .non
  | _, _, .bl b => .bl b
  | _, _, .int i => .int i
  | _, _, .str z => .str z
  | _, _, .lst h a => .lst (sim_lst s h) (drAll_sim s a)
  | _, _, .tup h a => .tup (sim_sqT s h) (drAll_sim s a)
  | _, _, .dic h a => .dic (sim_rd s h) (drKv_sim s a)
theorem drAll_sim {K : PySem.W.Frag} {G G' : Hp} (s : Sim G G') : ∀ {vs : List V} {xs : List D}, DrAll K G vs xs → DrAll K G' vs xs
  | _, _, .nil => .nil
  | _, _, .cons h t => .cons (dr_sim s h) (drAll_sim s t)
theorem drKv_sim {K : PySem.W.Frag} {G G' : Hp} (s : Sim G G') : ∀ {vs : List (Key × V)} {xs : List (D × D)}, DrKv K G vs xs → DrKv K G' vs xs
  | _, _, .nil => .nil
  | _, _, .cons h t => .cons (dr_sim s h) (drKv_sim s t)
end
theorem drFs_sim {α : Type} {K : PySem.W.Frag} {G G' : Hp} (s : Sim G G') : ∀ {vs : List (α × V)} {xs : List (α × D)}, DrFs K G vs xs → DrFs K G' vs xs
  | _, _, .nil => .nil
  | _, _, .cons h t => .cons (dr_sim s h) (drFs_sim s t)
theorem scok_sim {K : PySem.W.Frag} {G G' H H' : Hp} {l : Addr} (s : Sim G G') (e : H' l = H l) : ∀ {c : SC}, ScOk K G H l c → ScOk K G' H' l c
  | .lst _, ⟨vs, h, q⟩ => ⟨vs, e.trans h, drAll_sim s q⟩
  | .ins _ _, ⟨dx, us, h, q⟩ => ⟨dx, us, e.trans h, drFs_sim s q⟩
  | .dic _, ⟨us, h, q⟩ => ⟨us, e.trans h, drFs_sim s q⟩
section
variable {K : PySem.W.Frag} {W : Wd} {B B2 : Nat} {G0 H0 G H G2 H2 : Hp} {env env2 : DEnv} {σ σ2 : L2.St} {d : Addr} {us : List (Key × V)} {od : Obj}
theorem sim_lock (h : G d = some (.dK us)) : Sim G (upd G d (.frz od (.dK us))) := fun a o e => by
  by_cases z : a = d
  · subst z
    rw [h] at e
    cases e
    exact .inr (.inl ⟨us, od, rfl, upd_same⟩)
  · rw [upd_ne z]
    exact .inl e
theorem sim_unlock (h : G2 d = some (.frz od (.dK us))) : Sim G2 (upd G2 d (.dK us)) := fun a o e => by
  by_cases z : a = d
  · subst z
    rw [h] at e
    cases e
    exact .inr (.inr ⟨us, od, rfl, upd_same⟩)
  · rw [upd_ne z]
    exact .inl e
theorem Rel.ndk (R : Rel K W B G0 H0 G env σ H) (hG : G d = some (.dK us)) : ¬ W.mu d := fun m => by
  rw [R.gm d m] at hG
  cases hG
theorem Rel.lock (R : Rel K W B G0 H0 G env σ H) (hG : G d = some (.dK us)) :
    Rel K W B (upd G0 d (.frz od (.dK us))) (upd H0 d (.frz od (.dK us))) (upd G d (.frz od (.dK us))) env σ (upd H d (.frz od (.dK us))) := by
  have nm := R.ndk hG
  refine { g0 := fun a o e => ?_, pub := fun a o e => ?_, gm := fun a m => ?_, inv := W.loc _ H _ (fun a m => ?_) R.inv, fr := fun a o e m => ?_, pn := fun a o e e0 => ?_, len := R.len, slot := fun j e s h1 h2 => ?_, dis := R.dis }
  · by_cases z : a = d
    · subst z
      rw [upd_same] at e ⊢
      exact e
    · rw [upd_ne z] at e ⊢
      exact R.g0 a o e
  · by_cases z : a = d
    · subst z
      rw [upd_same] at e ⊢
      exact e
    · rw [upd_ne z] at e ⊢
      exact R.pub a o e
  · rw [upd_ne (show a ≠ d from fun z => nm (by rw [← z]; exact m))]
    exact R.gm a m
  · rw [upd_ne (show a ≠ d from fun z => nm (by rw [← z]; exact m))]
  · by_cases z : a = d
    · subst z
      rw [upd_same] at e ⊢
      exact e
    · rw [upd_ne z] at e ⊢
      exact R.fr a o e m
  · by_cases z : a = d
    · subst z
      rw [upd_same] at e0
      cases e0
    · rw [upd_ne z] at e e0 ⊢
      exact R.pn a o e e0
  · have q := R.slot j e s h1 h2
    cases e with
    | un => trivial
    | d x =>
      obtain ⟨v, e1, q1⟩ := q
      exact ⟨v, e1, dr_sim (sim_lock hG) q1⟩
    | «at» _ => trivial
    | hd => exact q
    | mo w c =>
      obtain ⟨l, e1, n1, o1, q1⟩ := q
      have ne : l ≠ d := fun z => by
        rw [z, hG] at n1
        cases n1
      refine ⟨l, e1, by rw [upd_ne ne]; exact n1, ?_, scok_sim (sim_lock hG) (upd_ne ne) q1⟩
      cases w with
      | none => exact ⟨by rw [upd_ne ne]; exact o1.1, o1.2⟩
      | some j => exact o1
theorem lock_same (hG : G d = some (.dK us)) (s : Same (upd G d (.frz od (.dK us))) G2) : G2 d = some (.frz od (.dK us)) ∧ Same G (upd G2 d (.dK us)) := by
  refine ⟨s _ _ upd_same, fun a o e => ?_⟩
  by_cases z : a = d
  · subst z
    rw [hG] at e
    cases e
    exact upd_same
  · rw [upd_ne z]
    exact s a o (by rw [upd_ne z]; exact e)
theorem Rel.unlock (R : Rel K W B G0 H0 G env σ H) (hG : G d = some (.dK us)) (R2 : Rel K W B2 (upd G0 d (.frz od (.dK us))) (upd H0 d (.frz od (.dK us))) G2 env2 σ2 H2) :
    H2 d = some (.frz od (.dK us)) ∧ Rel K W B2 G0 H0 (upd G2 d (.dK us)) env2 σ2 (upd H2 d (.dK us)) := by
  have nm := R.ndk hG
  have hH := R.pub d _ hG
  have g2 : G2 d = some (.frz od (.dK us)) := R2.g0 _ _ upd_same
  refine ⟨R2.fr _ _ upd_same nm, { g0 := fun a o e => ?_, pub := fun a o e => ?_, gm := fun a m => ?_, inv := W.loc _ H2 _ (fun a m => ?_) R2.inv, fr := fun a o e m => ?_, pn := fun a o e e0 => ?_, len := R2.len, slot := fun j e s h1 h2 => ?_, dis := R2.dis }⟩
  · by_cases z : a = d
    · subst z
      have := R.g0 _ _ e
      rw [hG] at this
      rw [upd_same, ← this]
    · rw [upd_ne z]
      exact R2.g0 a o (by rw [upd_ne z]; exact e)
  · by_cases z : a = d
    · subst z
      rw [upd_same] at e ⊢
      exact e
    · rw [upd_ne z] at e ⊢
      exact R2.pub a o e
  · rw [upd_ne (show a ≠ d from fun z => nm (by rw [← z]; exact m))]
    exact R2.gm a m
  · rw [upd_ne (show a ≠ d from fun z => nm (by rw [← z]; exact m))]
  · by_cases z : a = d
    · subst z
      have := R.fr _ _ e m
      rw [hH] at this
      rw [upd_same, ← this]
    · rw [upd_ne z]
      exact R2.fr a o (by rw [upd_ne z]; exact e) m
  · by_cases z : a = d
    · subst z
      exact R.pn _ _ hG e0
    · rw [upd_ne z] at e
      have := R2.pn a o e (by rw [upd_ne z]; exact e0)
      rwa [upd_ne z] at this
  · have q := R2.slot j e s h1 h2
    cases e with
    | un => trivial
    | d x =>
      obtain ⟨v, e1, q1⟩ := q
      exact ⟨v, e1, dr_sim (sim_unlock g2) q1⟩
    | «at» _ => trivial
    | hd => exact q
    | mo w c =>
      obtain ⟨l, e1, n1, o1, q1⟩ := q
      have ne : l ≠ d := fun z => by
        rw [z, g2] at n1
        cases n1
      refine ⟨l, e1, by rw [upd_ne ne]; exact n1, ?_, scok_sim (sim_unlock g2) (upd_ne ne) q1⟩
      cases w with
      | none =>
        have h0 := o1.1
        rw [upd_ne ne] at h0
        exact ⟨h0, o1.2⟩
      | some j => exact o1
theorem ends_lock {E : DEnds} {D : Ends} (R : Rel K W B G0 H0 G env σ H) (hG : G d = some (.dK us)) {Bq : Nat} (q : EndsOk K W Bq G0 H0 G E D) :
    EndsOk K W Bq (upd G0 d (.frz od (.dK us))) (upd H0 d (.frz od (.dK us))) (upd G d (.frz od (.dK us))) E
      ⟨fun σ' H' => H' d = some (.frz od (.dK us)) ∧ D.nx σ' (upd H' d (.dK us)), fun v H' => H' d = some (.frz od (.dK us)) ∧ D.rt v (upd H' d (.dK us)), fun σ' H' => H' d = some (.frz od (.dK us)) ∧ D.bk σ' (upd H' d (.dK us)), fun σ' H' => H' d = some (.frz od (.dK us)) ∧ D.ct σ' (upd H' d (.dK us))⟩ where
  nx := fun e σ g Hh p s R2 => by
    obtain ⟨a, R3⟩ := R.unlock hG R2
    exact ⟨a, q.nx _ _ _ _ p (lock_same hG s).2 R3⟩
  rt := fun x e σ v g Hh p s R2 dv => by
    obtain ⟨a, R3⟩ := R.unlock hG R2
    obtain ⟨b, s2⟩ := lock_same hG s
    exact ⟨a, q.rt _ _ _ _ _ _ p s2 R3 (dr_sim (sim_unlock b) dv)⟩
  bk := fun e σ g Hh p s R2 => by
    obtain ⟨a, R3⟩ := R.unlock hG R2
    exact ⟨a, q.bk _ _ _ _ p (lock_same hG s).2 R3⟩
  ct := fun e σ g Hh p s R2 => by
    obtain ⟨a, R3⟩ := R.unlock hG R2
    exact ⟨a, q.ct _ _ _ _ p (lock_same hG s).2 R3⟩
end
/-! what a walk over a locked dict yields -/
def dkeys (ds : List (D × D)) : List D := ds.map (·.1)
def dvals (ds : List (D × D)) : List D := ds.map (·.2)
def ditems (ds : List (D × D)) : List D := ds.map fun p => .tuple [p.1, p.2]
theorem kv_get {K : PySem.W.Frag} {G : Hp} : ∀ {us : List (Key × V)} {ds : List (D × D)} {i : Nat} {p : D × D}, DrKv K G us ds → ds[i]? = some p → ∃ k v, us[i]? = some (k, v) ∧ p.1 = keyD k ∧ Dr K G v p.2
  | _, _, 0, _, .cons a _, h => by
    cases h
    exact ⟨_, _, rfl, rfl, a⟩
  | _, _, i + 1, _, .cons _ t, h => by
    obtain ⟨k, v, e, q⟩ := kv_get (i := i) t h
    exact ⟨k, v, e, q⟩
theorem kv_len {K : PySem.W.Frag} {G : Hp} : ∀ {us : List (Key × V)} {ds : List (D × D)}, DrKv K G us ds → us.length = ds.length
  | _, _, .nil => rfl
  | _, _, .cons _ t => congrArg (· + 1) (kv_len t)
theorem dr_key {K : PySem.W.Frag} {G : Hp} (k : Key) : Dr K G (kV k) (keyD k) := by
  cases k with
  | inl i => exact .int i
  | inr z => exact .str z
section
variable {K : PySem.W.Frag} {G : Hp} {d : Addr} {us : List (Key × V)} {ds : List (D × D)} {od : Obj}
theorem itd_keys (h : G d = some (.frz od (.dK us))) (q : DrKv K G us ds) : ItD K G (Itk d od us) (dkeys ds) := fun G1 H1 s1 s2 i => by
  have hd := s2 _ _ (s1 _ _ h)
  refine ⟨fun x hx => ?_, fun hl => ?_⟩
  · obtain ⟨p, hp, rfl⟩ := Option.map_eq_some_iff.mp ((List.getElem?_map ..).symm.trans hx)
    obtain ⟨k, v, e, e1, dv⟩ := kv_get q hp
    refine ⟨⟨hd, (List.getElem?_eq_some_iff.mp e).1⟩, fun w H2 y => ?_⟩
    obtain ⟨rfl, k2, v2, e2, rfl⟩ := y
    rw [e] at e2
    cases e2
    refine ⟨G1, Grow.refl s2, ?_⟩
    show Dr K G1 (kV k) p.1
    rw [e1]
    exact dr_key k
  · rw [dkeys, List.length_map] at hl
    exact ⟨hd, by rw [kv_len q]; exact hl⟩
theorem itd_vals (h : G d = some (.frz od (.dK us))) (q : DrKv K G us ds) : ItD K G (Itd d od us) (dvals ds) := fun G1 H1 s1 s2 i => by
  have hd := s2 _ _ (s1 _ _ h)
  refine ⟨fun x hx => ?_, fun hl => ?_⟩
  · obtain ⟨p, hp, rfl⟩ := Option.map_eq_some_iff.mp ((List.getElem?_map ..).symm.trans hx)
    obtain ⟨k, v, e, e1, dv⟩ := kv_get q hp
    refine ⟨⟨hd, (List.getElem?_eq_some_iff.mp e).1⟩, fun w H2 y => ?_⟩
    obtain ⟨rfl, k2, e2⟩ := y
    rw [e] at e2
    cases e2
    exact ⟨G1, Grow.refl s2, dp_same s1 dv⟩
  · rw [dvals, List.length_map] at hl
    exact ⟨hd, by rw [kv_len q]; exact hl⟩
theorem itd_items (h : G d = some (.frz od (.dK us))) (q : DrKv K G us ds) : ItD K G (Iti d od us) (ditems ds) := fun G1 H1 s1 s2 i => by
  have hd := s2 _ _ (s1 _ _ h)
  refine ⟨fun x hx => ?_, fun hl => ?_⟩
  · obtain ⟨p, hp, rfl⟩ := Option.map_eq_some_iff.mp ((List.getElem?_map ..).symm.trans hx)
    obtain ⟨k, v, e, e1, dv⟩ := kv_get q hp
    refine ⟨⟨hd, (List.getElem?_eq_some_iff.mp e).1⟩, fun w H2 y => ?_⟩
    obtain ⟨T, k2, v2, e2, rfl, hT, rfl⟩ := y
    rw [e] at e2
    cases e2
    have sg := s1.trans (same_upd (o := .tup [kV k, v]) (s2.free hT))
    refine ⟨_, Grow.new1 s2 hT, .tup (SqT.of upd_same) (.cons ?_ (.cons (dp_same sg dv) .nil))⟩
    rw [e1]
    exact dr_key k
  · rw [ditems, List.length_map] at hl
    exact ⟨hd, by rw [kv_len q]; exact hl⟩
end
/-- a kind of walk over a dict: what it reads, its iterator, its items -/
structure WkD (K : PySem.W.Frag) (i : Nat) (wi : TI) (Jof : Addr → Obj → List (Key × V) → It) (items : List (D × D) → List D) : Prop where
  hw : ∀ d od us σ H R, σ[i]? = some (some (.ref d)) → H d = some (.frz od (.dK us)) → R (Jof d od us) H → wi σ H R
  hit : ∀ G d od us ds, G d = some (.frz od (.dK us)) → DrKv K G us ds → ItD K G (Jof d od us) (items ds)
theorem wk_keys {K : PySem.W.Frag} {i : Nat} : WkD K i (iKeys (tVar i)) Itk dkeys := ⟨fun d od us σ H R e h r => ⟨_, e, d, od, rfl, .inl ⟨us, h, r⟩⟩, fun _ _ _ _ _ h q => itd_keys h q⟩
theorem wk_vals {K : PySem.W.Frag} {i : Nat} : WkD K i (iVals (tVar i)) Itd dvals := ⟨fun d od us σ H R e h r => ⟨_, e, d, od, us, rfl, h, r⟩, fun _ _ _ _ _ h q => itd_vals h q⟩
theorem wk_items {K : PySem.W.Frag} {i : Nat} : WkD K i (iItems (tVar i)) Iti ditems := ⟨fun d od us σ H R e h r => ⟨_, e, d, od, us, rfl, h, r⟩, fun _ _ _ _ _ h q => itd_items h q⟩
/-- for over a published dict in slot i -/
def sForDk (nb c i : Nat) (items : List (D × D) → List D) (g : MG) (b : MS) : MS := fun E env => match env[i]? with
  | some (.d (.dict ds)) => (items ds).length * nb ≤ c ∧ sForL g b (items ds) E env
  | _ => False
/-- comprehensions over such -/
def mLcDk (nb c i : Nat) (items : List (D × D) → List D) (g : MG) (tt : MT) (te : ME) (vs : List Nat) : MF := fun env P => match env[i]? with
  | some (.d (.dict ds)) => (items ds).length * nb ≤ c ∧ noOwn env vs ∧ mLcL g tt te vs (items ds) [] env fun ys => P ys env
  | _ => False
def mDcDk (nb c i : Nat) (items : List (D × D) → List D) (g : MG) (tt : MT) (tk te : ME) (vs : List Nat) : MDk := fun env P => match env[i]? with
  | some (.d (.dict ds)) => (items ds).length * nb ≤ c ∧ noOwn env vs ∧ mDcL g tt tk te vs (items ds) [] env fun ys => P ys env
  | _ => False
theorem dict_at {K : PySem.W.Frag} {W : Wd} {B : Nat} {G0 H0 G H : Hp} {env : DEnv} {σ : L2.St} {i : Nat} {ds : List (D × D)} (R : Rel K W B G0 H0 G env σ H) (h : env[i]? = some (.d (.dict ds))) :
    ∃ d us, σ[i]? = some (some (.ref d)) ∧ DrKv K G us ds ∧ (G d = some (.dK us) ∨ ∃ od, G d = some (.frz od (.dK us))) := by
  obtain ⟨v, e, q⟩ := R.get_d h
  obtain ⟨d, us, rfl, hd, dv⟩ := dp_dic q
  exact ⟨d, us, e, dv, hd⟩
section
variable {X : Cx} {tg iter : Expr} {body : List Stmt} {mg : MG} {ms : MS} {pos : Pos} {vs : List Nat} {nb i : Nat} {wi : TI} {Jof : Addr → Obj → List (Key × V) → It} {items : List (D × D) → List D}
theorem forJ_ok {W : Wd} {B c : Nat} {G0 H0 G H : Hp} {env : DEnv} {σ : L2.St} {E : DEnds} {Dd : Ends} {J : It} {ds : List D} (R : Rel X.K W (B + c) G0 H0 G env σ H) (it : ItD X.K G J ds) (cost : ds.length * nb ≤ c) (p : sForL mg ms ds E env) (q : EndsOk X.K W B G0 H0 G E Dd)
    (hw : ∀ Rr : It → Hp → Prop, Rr J H → wi σ H Rr) : tFor wi (tG X.K vs mg) (tS X.K nb ms) Dd σ H := by
  refine hw _ ?_
  refine ⟨fun i m σ' H' => m = ds.length - i ∧ i ≤ ds.length ∧ ∃ G' e', Same G G' ∧ Rel X.K W (B + (ds.length - i) * nb) G0 H0 G' e' σ' H' ∧ sForL mg ms (ds.drop i) E e', ⟨ds.length, rfl, Nat.zero_le _, G, env, Same.refl _, R.le (by rw [Nat.sub_zero]; omega), p⟩, ?_⟩
  rintro i m σ' H' ⟨rfl, hi, G', e', s', R', p'⟩
  by_cases hlt : i < ds.length
  · have hx : ds[i]? = some ds[i] := List.getElem?_eq_getElem hlt
    have hd : ds.drop i = ds[i] :: ds.drop (i + 1) := List.drop_eq_getElem_cons hlt
    obtain ⟨hgo, hy⟩ := (it G' H' s' R'.pub i).1 _ hx
    rw [hd] at p'
    rw [turn_cost hlt] at R'
    refine .inr ⟨hgo, fun σ2 H2 => ∃ G2 e2, Same G G2 ∧ Rel X.K W (B + (ds.length - (i + 1)) * nb) G0 H0 G2 e2 σ2 H2 ∧ sForL mg ms (ds.drop (i + 1)) E e2, fun σ2 H2 hN => ⟨ds.length - (i + 1), by omega, rfl, hlt, hN⟩, fun v H2 y => ?_⟩
    obtain ⟨G2, g2, d2⟩ := hy v H2 y
    refine ⟨W, _, G0, H0, G2, e', _, _, R'.grow g2, d2, p', fun e3 σ3 G3 H3 p3 s3 R3 _ _ => ?_⟩
    have sG : Same G G3 := s'.trans (g2.eg.trans s3)
    refine ⟨W, B + (ds.length - (i + 1)) * nb, G0, H0, G3, e3, _, R3.le (by omega), p3, ⟨fun e4 σ4 G4 H4 p4 s4 R4 => ⟨G4, e4, sG.trans s4, R4, p4⟩, fun x e4 σ4 v G4 H4 p4 s4 R4 => q.rt x e4 σ4 v G4 H4 p4 (sG.trans s4) (R4.le (by omega)), fun e4 σ4 G4 H4 p4 s4 R4 => q.nx e4 σ4 G4 H4 p4 (sG.trans s4) (R4.le (by omega)), fun e4 σ4 G4 H4 p4 s4 R4 => ⟨G4, e4, sG.trans s4, R4, p4⟩⟩⟩
  · have e : i = ds.length := by omega
    subst e
    rw [List.drop_length] at p'
    exact .inl ⟨(it G' H' s' R'.pub _).2 (Nat.le_refl _), q.nx e' σ' G' H' p' s' (R'.le (by omega))⟩
theorem ps_or {st : Stmt} {t u : TS} (h1 : PS X st t) (h2 : PS X st u) : PS X st (fun D σ H => t D σ H ∨ u D σ H) := ⟨fun pins s σ H D I h => h.elim (h1.run pins s σ H D I) (h2.run pins s σ H D I)⟩
theorem pe_or {e : Expr} {t u : TE} (h1 : PE X e t) (h2 : PE X e u) : PE X e (fun σ H Q => t σ H Q ∨ u σ H Q) := ⟨fun pins s σ H Q I h => h.elim (h1.run pins s σ H Q I) (h2.run pins s σ H Q I)⟩
theorem gs_forDk (c : Nat) (k : WkD X.K i wi Jof items) (hp : PassesOwn (model X.prog X.w) X.A X.env X.xe) (hc : X.calm = true) (hi : PI X tg iter wi) (hg : GG X tg vs mg) (hb : GSs X body nb ms)
    (hs : ∀ x, foldedSetIterable iter X.env x = pure x := by intro _; rfl) : GS X (.For tg iter body [] pos) c (sForDk nb c i items mg ms) := by
  have h0 := ps_for hp hc hi hg hb hs (pos := pos)
  refine ps_imp (ps_or (ps_lock h0) h0) fun D σ H h => ?_
  obtain ⟨W, B, G0, H0, G, env, E, R, hm, q⟩ := h
  unfold sForDk at hm
  split at hm
  · rename_i ds hd
    obtain ⟨d, us, e, dv, hG | ⟨od, hG⟩⟩ := dict_at R hd
    · refine .inl ⟨d, .dK us, R.pub _ _ hG, trivial, fun od => ?_⟩
      have dv2 := drKv_sim (sim_lock (od := od) hG) dv
      exact forJ_ok (R.lock hG) (k.hit _ _ _ _ _ upd_same dv2) hm.1 hm.2 (ends_lock R hG q) fun Rr r => k.hw _ _ _ _ _ _ e upd_same r
    · exact .inr (forJ_ok R (k.hit _ _ _ _ _ hG dv) hm.1 hm.2 q fun Rr r => k.hw _ _ _ _ _ _ e (R.pub _ _ hG) r)
  · exact hm.elim
end
section
variable {X : Cx} {kx vx elt tg iter : Expr} {ifs : List Expr} {scope : Scope} {own : List (Str × Nat)} {pos : Pos} {mg : MG} {mt : MT} {mk me : ME} {nt nk ne i : Nat} {wi : TI} {Jof : Addr → Obj → List (Key × V) → It} {items : List (D × D) → List D}
theorem fresh_unlock {K : PySem.W.Frag} {W : Wd} {B B2 : Nat} {G0 H0 G H G2 H2 : Hp} {env env2 : DEnv} {σ σ2 : L2.St} {d p : Addr} {us : List (Key × V)} {od : Obj} (R : Rel K W B G0 H0 G env σ H) (hG : G d = some (.dK us)) (s : Same (upd G d (.frz od (.dK us))) G2) {xs : List D}
    (f : FreshAt K W (upd H0 d (.frz od (.dK us))) G2 env2 σ2 H2 p xs) : FreshAt K W H0 (upd G2 d (.dK us)) env2 σ2 (upd H2 d (.dK us)) p xs := by
  obtain ⟨ws, hp, hg, h0, hm, hd, hq⟩ := f
  have g2 := s _ _ upd_same
  have ne : p ≠ d := fun z => by
    rw [z, g2] at hg
    cases hg
  rw [upd_ne ne] at h0
  exact ⟨ws, by rw [upd_ne ne]; exact hp, by rw [upd_ne ne]; exact hg, h0, hm, hd, drAll_sim (sim_unlock g2) hq⟩
theorem freshDk_unlock {K : PySem.W.Frag} {W : Wd} {B B2 : Nat} {G0 H0 G H G2 H2 : Hp} {env env2 : DEnv} {σ σ2 : L2.St} {d p : Addr} {us : List (Key × V)} {od : Obj} (R : Rel K W B G0 H0 G env σ H) (hG : G d = some (.dK us)) (s : Same (upd G d (.frz od (.dK us))) G2) {xs : List (Key × D)}
    (f : FreshDk K W (upd H0 d (.frz od (.dK us))) G2 env2 σ2 H2 p xs) : FreshDk K W H0 (upd G2 d (.dK us)) env2 σ2 (upd H2 d (.dK us)) p xs := by
  obtain ⟨ws, hp, hg, h0, hm, hd, hq⟩ := f
  have g2 := s _ _ upd_same
  have ne : p ≠ d := fun z => by
    rw [z, g2] at hg
    cases hg
  rw [upd_ne ne] at h0
  exact ⟨ws, by rw [upd_ne ne]; exact hp, by rw [upd_ne ne]; exact hg, h0, hm, hd, drFs_sim (sim_unlock g2) hq⟩
theorem lcJ_ok {K : PySem.W.Frag} {W : Wd} {B c : Nat} {G0 H0 G H : Hp} {env : DEnv} {σ : L2.St} {J : It} {ds : List D} {vs : List Nat} {Q : VK} {Pc : List D → Prop} (R : Rel K W (B + c) G0 H0 G env σ H) (it : ItD K G J ds) (cost : ds.length * (nt + ne) ≤ c) (no : noOwn env vs) (p : mLcL mg mt me vs ds [] env Pc)
    (q : ∀ ys p G' H', Pc ys → Same G G' → Rel K W B G0 H0 G' env σ H' → FreshAt K W H0 G' env σ H' p ys → Q (.ref p) H') (hw : ∀ Rr : It → Hp → Prop, Rr J H → wi σ H Rr) : tLc wi (tG K vs mg) (tDT K nt mt) (tD K ne me) vs σ H Q := by
  refine hw _ fun A hA => ?_
  obtain ⟨R2, f1, f2, f3, f4⟩ := R.fresh (o := .lst []) hA
  exact lc_loop (B := B) (R2.le (Nat.add_le_add_left cost B)) it no upd_same f1 f2 f3 f4 .nil p fun ys av G' H' p' s' R' a1 a2 d' => q _ _ _ _ p' s' R' ⟨av, a1, a2, f2, f3, f4, d'⟩
theorem dcJ_ok {K : PySem.W.Frag} {W : Wd} {B c : Nat} {G0 H0 G H : Hp} {env : DEnv} {σ : L2.St} {J : It} {ds : List D} {vs : List Nat} {Q : VK} {Pc : List (Key × D) → Prop} (R : Rel K W (B + c) G0 H0 G env σ H) (it : ItD K G J ds) (cost : ds.length * (nt + (nk + ne)) ≤ c) (no : noOwn env vs) (p : mDcL mg mt mk me vs ds [] env Pc)
    (q : ∀ ys p G' H', Pc ys → Same G G' → Rel K W B G0 H0 G' env σ H' → FreshDk K W H0 G' env σ H' p ys → Q (.ref p) H') (hw : ∀ Rr : It → Hp → Prop, Rr J H → wi σ H Rr) : tDc wi (tG K vs mg) (tDT K nt mt) (tD K nk mk) (tD K ne me) vs σ H Q := by
  refine hw _ fun A hA => ?_
  obtain ⟨R2, f1, f2, f3, f4⟩ := R.fresh (o := .dK []) hA
  exact dc_loop (B := B) (R2.le (Nat.add_le_add_left cost B)) it no upd_same f1 f2 f3 f4 .nil p fun ys av G' H' p' s' R' a1 a2 d' => q _ _ _ _ p' s' R' ⟨av, a1, a2, f2, f3, f4, d'⟩
theorem gf_lcDk (c : Nat) (k : WkD X.K i wi Jof items) (hc : X.calm = true) (hN : X.N.Nodup) (hi : PI X tg iter wi) (ok : BlkOk X.N X.env.scope scope own)
    (hg : ∀ (s : Shared) (H : Hp) (C : Addr) (cl : List (Str × Addr)) (fp : List Addr), GG (X.blk s H scope (compEnvC scope cl C X.env) fp) tg (own.map (·.2)) mg) (ht : ∀ (s : Shared) (H : Hp) (C : Addr) (cl : List (Str × Addr)) (fp : List Addr), GTs (X.blk s H scope (compEnvC scope cl C X.env) fp) ifs nt mt)
    (he : ∀ (s : Shared) (H : Hp) (C : Addr) (cl : List (Str × Addr)) (fp : List Addr), GE (X.blk s H scope (compEnvC scope cl C X.env) fp) elt ne me) (hs : ∀ x, foldedSetIterable iter X.env x = pure x := by intro _; rfl) :
    GF X (.ListComp elt [⟨tg, iter, ifs, 0⟩] scope pos) c (mLcDk (nt + ne) c i items mg mt me (own.map (·.2))) := by
  have h0 := pe_lc (g := tG X.K (own.map (·.2)) mg) (tt := tDT X.K nt mt) (te := tD X.K ne me) hc hN hi ok hg ht he hs (pos := pos)
  refine pe_imp (pe_or (pe_lock h0) h0) fun σ H Q h => ?_
  obtain ⟨W, B, G0, H0, G, env, P, R, hm, q⟩ := h
  unfold mLcDk at hm
  split at hm
  · rename_i ds hd
    obtain ⟨d, us, e, dv, hG | ⟨od, hG⟩⟩ := dict_at R hd
    · refine .inl ⟨d, .dK us, R.pub _ _ hG, trivial, fun od => ?_⟩
      have dv2 := drKv_sim (sim_lock (od := od) hG) dv
      refine lcJ_ok (R.lock hG) (k.hit _ _ _ _ _ upd_same dv2) hm.1 hm.2.1 hm.2.2 (fun ys p G' H' p' s' R' f => ?_) fun Rr r => k.hw _ _ _ _ _ _ e upd_same r
      obtain ⟨a, R3⟩ := R.unlock hG R'
      exact ⟨a, q _ _ _ _ _ p' (lock_same hG s').2 R3 (fresh_unlock (B2 := B) R hG s' f)⟩
    · exact .inr (lcJ_ok R (k.hit _ _ _ _ _ hG dv) hm.1 hm.2.1 hm.2.2 (fun ys p G' H' p' s' R' f => q _ _ _ _ _ p' s' R' f) fun Rr r => k.hw _ _ _ _ _ _ e (R.pub _ _ hG) r)
  · exact hm.elim
theorem gd_dcDk (c : Nat) (k : WkD X.K i wi Jof items) (hc : X.calm = true) (hN : X.N.Nodup) (hi : PI X tg iter wi) (ok : BlkOk X.N X.env.scope scope own)
    (hg : ∀ (s : Shared) (H : Hp) (C : Addr) (cl : List (Str × Addr)) (fp : List Addr), GG (X.blk s H scope (compEnvC scope cl C X.env) fp) tg (own.map (·.2)) mg) (ht : ∀ (s : Shared) (H : Hp) (C : Addr) (cl : List (Str × Addr)) (fp : List Addr), GTs (X.blk s H scope (compEnvC scope cl C X.env) fp) ifs nt mt)
    (hk : ∀ (s : Shared) (H : Hp) (C : Addr) (cl : List (Str × Addr)) (fp : List Addr), GE (X.blk s H scope (compEnvC scope cl C X.env) fp) kx nk mk)
    (he : ∀ (s : Shared) (H : Hp) (C : Addr) (cl : List (Str × Addr)) (fp : List Addr), GE (X.blk s H scope (compEnvC scope cl C X.env) fp) vx ne me) (hs : ∀ x, foldedSetIterable iter X.env x = pure x := by intro _; rfl) :
    GDk X (.DictComp kx vx [⟨tg, iter, ifs, 0⟩] scope pos) c (mDcDk (nt + (nk + ne)) c i items mg mt mk me (own.map (·.2))) := by
  have h0 := pe_dc (g := tG X.K (own.map (·.2)) mg) (tt := tDT X.K nt mt) (tk := tD X.K nk mk) (tv := tD X.K ne me) hc hN hi ok hg ht hk he hs (pos := pos)
  refine pe_imp (pe_or (pe_lock h0) h0) fun σ H Q h => ?_
  obtain ⟨W, B, G0, H0, G, env, P, R, hm, q⟩ := h
  unfold mDcDk at hm
  split at hm
  · rename_i ds hd
    obtain ⟨d, us, e, dv, hG | ⟨od, hG⟩⟩ := dict_at R hd
    · refine .inl ⟨d, .dK us, R.pub _ _ hG, trivial, fun od => ?_⟩
      have dv2 := drKv_sim (sim_lock (od := od) hG) dv
      refine dcJ_ok (R.lock hG) (k.hit _ _ _ _ _ upd_same dv2) hm.1 hm.2.1 hm.2.2 (fun ys p G' H' p' s' R' f => ?_) fun Rr r => k.hw _ _ _ _ _ _ e upd_same r
      obtain ⟨a, R3⟩ := R.unlock hG R'
      exact ⟨a, q _ _ _ _ _ p' (lock_same hG s').2 R3 (freshDk_unlock (B2 := B) R hG s' f)⟩
    · exact .inr (dcJ_ok R (k.hit _ _ _ _ _ hG dv) hm.1 hm.2.1 hm.2.2 (fun ys p G' H' p' s' R' f => q _ _ _ _ _ p' s' R' f) fun Rr r => k.hw _ _ _ _ _ _ e (R.pub _ _ hG) r)
  · exact hm.elim
end
end DL
namespace DL
open PySem PySem.Spec PyProof.Rows L2
/-! ### x.pop(), x.pop(i) of a list that is written -/
def mPopM (i : Nat) : ME := fun env P => match env[i]? with
  | some (.mo w (.lst xs)) => ∃ y, xs[xs.length - 1]? = some y ∧ P y (env.set i (.mo w (.lst xs.dropLast)))
  | _ => False
def mPopAtM (i : Nat) (me : ME) : ME := fun env P => (∃ w xs, env[i]? = some (.mo w (.lst xs))) ∧ me env fun x e1 => match x, e1[i]? with
  | .int k, some (.mo w (.lst xs)) => (-(2 ^ 63) ≤ k ∧ k < 2 ^ 63) ∧ ∃ n y, seqIndex? k xs.length = some n ∧ xs[n]? = some y ∧ P y (e1.set i (.mo w (.lst (xs.eraseIdx n))))
  | _, _ => False
theorem dpAll_erase {K : PySem.W.Frag} {G : Hp} : ∀ {vs : List V} {xs : List D} (n : Nat), DrAll K G vs xs → DrAll K G (vs.eraseIdx n) (xs.eraseIdx n)
  | _, _, _, .nil => .nil
  | _, _, 0, .cons _ t => t
  | _, _, n + 1, .cons a t => .cons a (dpAll_erase n t)
theorem dpAll_last {K : PySem.W.Frag} {G : Hp} : ∀ {vs : List V} {xs : List D}, DrAll K G vs xs → DrAll K G vs.dropLast xs.dropLast
  | _, _, .nil => .nil
  | _, _, .cons _ .nil => .nil
  | _, _, .cons a (.cons b t) => .cons a (dpAll_last (.cons b t))
section
variable {X : Cx} {e : Expr} {px apos cpos : Pos} {ne : Nat} {me : ME}
theorem ge_popM (i : Nat) {x : Str} (hN : X.N[i]? = some x := by rfl) (hv : Vis X.env.scope x := by first | exact Or.inl rfl | exact Or.inr (Or.inl rfl) | exact Or.inr (Or.inr rfl)) (hd : (x == ("__debug__" : Str)) = false := by decide)
    (hcd : (x == ("__classdict__" : Str)) = false := by decide) (hbase : attributeBase (.Name x px) "pop" X.env (eval (.Name x px) X.env) = eval (.Name x px) X.env := by rfl) (hline : (apos.endLine == cpos.line) = true := by rfl) :
    GE X (.Call (.Attribute (.Name x px) "pop" apos) [] [] cpos) 0 (mPopM i) := pe_imp (pe_bm0 PySem.F.plainAttrs_list PySem.F.slot_list_pop PySem.F.type_list_pop mt_pop (pe_var hN hv hd hcd) hbase hline) fun σ H Q h => by
  obtain ⟨W, B, G0, H0, G, env, P, R, hm, q⟩ := h
  unfold mPopM at hm
  split at hm
  · rename_i w xs hx
    obtain ⟨y, hy, hP⟩ := hm
    obtain ⟨l, e1, hg, hw, vs, hl, hq⟩ := R.get_mo hx
    have hy2 : xs[vs.length - 1]? = some y := by rw [dpAll_len hq]; exact hy
    obtain ⟨v, ev, dv⟩ := dpAll_get hq hy2
    refine ⟨_, e1, .inl ⟨rfl, vs, SqL.of hl⟩, l, vs, v, rfl, rfl, hl, ev, ?_⟩
    exact q _ _ _ _ _ hP (Same.refl _) (R.put hx e1 (show ∃ us, _ ∧ _ from ⟨_, upd_same, dpAll_last hq⟩)) dv
  · exact hm.elim
theorem ge_popAtM (i : Nat) {x : Str} (he : GE X e ne me) (hN : X.N[i]? = some x := by rfl) (hv : Vis X.env.scope x := by first | exact Or.inl rfl | exact Or.inr (Or.inl rfl) | exact Or.inr (Or.inr rfl)) (hd : (x == ("__debug__" : Str)) = false := by decide)
    (hcd : (x == ("__classdict__" : Str)) = false := by decide) (hbase : attributeBase (.Name x px) "pop" X.env (eval (.Name x px) X.env) = eval (.Name x px) X.env := by rfl)
    (hfew : ((backTo cpos (starEach [e] X.env)).all (fun x => !x.1) && (backToKw cpos (keywordEach [] X.env)).all (fun x => x.1.isSome)
      && decide ([e].length + ([] : List Keyword).length + (if ([] : List Keyword).isEmpty then 0 else 1) < 30)) = true := by rfl)
    (hline : (apos.endLine == cpos.line) = true := by rfl) (hs : starEach [e] X.env = (false, eval e X.env) :: starEach [] X.env := by rfl) (hplain : (backTo cpos (starEach ([] : List Expr) X.env)).any (·.1) = false := by rfl) :
    GE X (.Call (.Attribute (.Name x px) "pop" apos) [e] [] cpos) ne (mPopAtM i me) := pe_imp (pe_bm PySem.F.plainAttrs_list PySem.F.slot_list_pop PySem.F.type_list_pop mt_popAt (pe_var hN hv hd hcd) (pa_cons he pa_nil hs) hbase hfew hline hs hplain) fun σ H Q h => by
  obtain ⟨W, B, G0, H0, G, env, P, R, ⟨⟨w, xs, hx⟩, hm⟩, q⟩ := h
  obtain ⟨l, e1, hg, hw, vs, hl, hq⟩ := R.get_mo hx
  refine ⟨_, e1, .inl ⟨rfl, vs, SqL.of hl⟩, W, B, G0, H0, G, env, _, R, hm, fun y e2 v G2 H2 p2 s2 R2 d2 => ?_⟩
  split at p2
  · rename_i k w2 ys hy
    cases dp_int d2
    obtain ⟨⟨b1, b2⟩, n, z, hn, hz, hP⟩ := p2
    obtain ⟨l2, f1, hg2, hw2, us, hl2, hq2⟩ := R2.get_mo hy
    rw [e1] at f1
    cases f1
    obtain ⟨u, eu, du⟩ := dpAll_get hq2 hz
    refine ⟨l, us, k, n, u, rfl, rfl, hl2, b1, b2, by rw [dpAll_len hq2]; exact hn, eu, ?_⟩
    exact q _ _ _ _ _ hP s2 (R2.put hy e1 (show ∃ us, _ ∧ _ from ⟨_, upd_same, dpAll_erase n hq2⟩)) du
  · exact p2.elim
end
/-! ### published dicts: in, get, len, list -/
def cInX : D → D → (Bool → Prop) → Prop
  | x, .dict ds, P => ∃ k, keyOf x = some k ∧ P (valDD ds k).isSome
  | x, y, P => cIn x y P
def cNotInX : D → D → (Bool → Prop) → Prop := fun x y P => cInX x y fun b => P (!b)
section
variable {X : Cx}
theorem kv_dget {K : PySem.W.Frag} {G H : Hp} {a : Addr} {us : List (Key × V)} {ds : List (D × D)} (sG : Pub G H) (h : Rd G a (.dK us)) (q : DrKv K G us ds) (k : Key) :
    (∃ v y, DGet H a (kV k) (some v) ∧ valDD ds k = some y ∧ Dr K G v y) ∨ (DGet H a (kV k) none ∧ valDD ds k = none) := by
  have g := dget_rd (k := k) (sG.dk h)
  rcases kv_val k q with ⟨v, y, e1, e2, d⟩ | ⟨e1, e2⟩
  · rw [e1] at g
    exact .inl ⟨v, y, g, e2, d⟩
  · rw [e1] at g
    exact .inr ⟨g, e2⟩
theorem od_inX (hu : X.A.units + 64 < cLine) : OpR X (compareOp .In) (rDC2 X.K cInX) := by
  intro pins s σ H x y v u Q I rx ry h
  obtain ⟨G, dx, dy, P, sG, d1, d2, hf, q⟩ := h
  cases dy with
  | dict ds =>
    obtain ⟨k, hk, hP⟩ := hf
    obtain ⟨a, us, rfl, h1, h2⟩ := dp_dic d2
    have ek := keyOf_kV hk d1
    subst ek
    cases ry
    rcases kv_dget sG h1 h2 k with ⟨w, y, g, e, _⟩ | ⟨g, e⟩
    · rw [e] at hP
      exact d_in (by omega) I g rx fun s' I' => ⟨.bl true, H, I', rfl, q _ hP⟩
    · rw [e] at hP
      exact d_in (by omega) I g rx fun s' I' => ⟨.bl false, H, I', rfl, q _ hP⟩
  | _ => exact od_in pins s σ H x y v u Q I rx ry ⟨G, _, _, P, sG, d1, d2, hf, q⟩
theorem od_notInX (hu : X.A.units + 64 < cLine) : OpR X (compareOp .NotIn) (rDC2 X.K cNotInX) := by
  intro pins s σ H x y v u Q I rx ry h
  obtain ⟨G, dx, dy, P, sG, d1, d2, hf, q⟩ := h
  cases dy with
  | dict ds =>
    obtain ⟨k, hk, hP⟩ := hf
    obtain ⟨a, us, rfl, h1, h2⟩ := dp_dic d2
    have ek := keyOf_kV hk d1
    subst ek
    cases ry
    rcases kv_dget sG h1 h2 k with ⟨w, y, g, e, _⟩ | ⟨g, e⟩
    · rw [e] at hP
      exact d_notIn (by omega) I g rx fun s' I' => ⟨.bl false, H, I', rfl, q _ hP⟩
    · rw [e] at hP
      exact d_notIn (by omega) I g rx fun s' I' => ⟨.bl true, H, I', rfl, q _ hP⟩
  | _ => exact od_notIn pins s σ H x y v u Q I rx ry ⟨G, _, _, P, sG, d1, d2, hf, q⟩
def dLenX : List D → (D → Prop) → Prop
  | [.dict ds], P => P (.int ds.length)
  | xs, P => dLen xs P
theorem cd_lenX : CallR X (.builtin "len") (rDC X.K dLenX) := by
  intro pins s σ H xs us Q I r h
  obtain ⟨G, ds, P, sG, da, hf, q⟩ := h
  unfold dLenX at hf
  split at hf
  · obtain ⟨v, rfl, d⟩ := all1 da
    obtain ⟨a, ws, rfl, h1, h2⟩ := dp_dic d
    obtain ⟨u, rfl, ru⟩ := vals1 r
    cases ru
    exact d_len I (sG.dk h1) fun t s' I' => ⟨.int _, H, I', ⟨t, by rw [kv_len h2]⟩, q _ _ G H hf (Grow.refl sG) (.int _)⟩
  · exact cd_len pins s σ H xs us Q I r ⟨G, _, P, sG, da, hf, q⟩
def dListX : List D → (D → Prop) → Prop
  | [.dict ds], P => P (.list (dkeys ds))
  | xs, P => dListOf xs P
theorem dr_keys {K : PySem.W.Frag} {G : Hp} : ∀ {us : List (Key × V)} {ds : List (D × D)}, DrKv K G us ds → DrAll K G (us.map fun kv => kV kv.1) (dkeys ds)
  | _, _, .nil => .nil
  | _, _, .cons (k := k) _ t => .cons (dr_key k) (dr_keys t)
theorem cd_listX (hc : X.calm = true) : CallR X (.type "list") (rDC X.K dListX) := by
  intro pins s σ H xs us Q I r h
  obtain ⟨G, ds, P, sG, da, hf, q⟩ := h
  unfold dListX at hf
  split at hf
  · obtain ⟨v, rfl, d⟩ := all1 da
    obtain ⟨a, ws, rfl, h1, h2⟩ := dp_dic d
    exact call_listD hc pins s σ H _ us Q I r ⟨a, ws, rfl, sG.dk h1, fun p hp => q _ _ _ _ hf (Grow.new1 sG hp) (.lst upd_same (dpAll_same (same_upd (sG.free hp)) (dr_keys h2)))⟩
  · exact cd_list pins s σ H xs us Q I r ⟨G, _, P, sG, da, hf, q⟩
def mGet2 (mo me mf : ME) : ME := fun env P => mo env fun x e1 => (∃ ds, x = .dict ds) ∧ me e1 fun y e2 => mf e2 fun z e3 => match x, keyOf y with
  | .dict ds, some k => P ((valDD ds k).getD z) e3
  | _, _ => False
def mGet1 (mo me : ME) : ME := fun env P => mo env fun x e1 => (∃ ds, x = .dict ds) ∧ me e1 fun y e2 => match x, keyOf y with
  | .dict ds, some k => P ((valDD ds k).getD .none) e2
  | _, _ => False
variable {o e f : Expr} {apos cpos px : Pos} {no ne nf : Nat} {mo me mf : ME}
theorem ge_get2 (hu : X.A.units + 64 < cLine) (ho : GE X o no mo) (he : GE X e ne me) (hf : GE X f nf mf) (hbase : attributeBase o "get" X.env (eval o X.env) = eval o X.env := by rfl)
    (hfew : ((backTo cpos (starEach [e, f] X.env)).all (fun x => !x.1) && (backToKw cpos (keywordEach [] X.env)).all (fun x => x.1.isSome)
      && decide (([e, f] : List Expr).length + ([] : List Keyword).length + (if ([] : List Keyword).isEmpty then 0 else 1) < 30)) = true := by rfl)
    (hline : (apos.endLine == cpos.line) = true := by rfl) (ht : backTo cpos (starEach [e, f] X.env) = [(false, eval e X.env), (false, eval f X.env)] := by rfl) : GE X (.Call (.Attribute o "get" apos) [e, f] [] cpos) (no + (ne + nf)) (mGet2 mo me mf) :=
  pe_imp (pe_dget2 (by omega) ho he hf ⟨hbase, hfew, hline, ht⟩) fun σ H Q h => by
  obtain ⟨W, B, G0, H0, G, env, P, R, hm, q⟩ := h
  refine ⟨W, B + (ne + nf), G0, H0, G, env, _, R.le (by omega), hm, fun x e1 v G1 H1 p1 s1 R1 d1 => ?_⟩
  obtain ⟨⟨ds, rfl⟩, p1⟩ := p1
  obtain ⟨a, us, rfl, h1, h2⟩ := dp_dic d1
  refine ⟨a, rfl, .inl ⟨us, R1.pub.dk h1⟩, W, B + nf, G0, H0, G1, e1, _, R1.le (by omega), p1, fun y e2 u G2 H2 p2 s2 R2 d2 => ⟨W, B, G0, H0, G2, e2, _, R2, p2, fun z e3 w G3 H3 p3 s3 R3 d3 => ?_⟩⟩
  split at p3
  · rename_i ds' k hx hk
    cases hx
    have ek := keyOf_kV hk d2
    subst ek
    rcases kv_dget R3.pub (same_rd (s2.trans s3) h1) (dpKv_same (s2.trans s3) h2) k with ⟨w2, y2, g, e, d⟩ | ⟨g, e⟩
    · rw [e] at p3
      exact ⟨_, g, q _ _ _ _ _ p3 ((s1.trans s2).trans s3) R3 d⟩
    · rw [e] at p3
      exact ⟨_, g, q _ _ _ _ _ p3 ((s1.trans s2).trans s3) R3 d3⟩
  · exact p3.elim
theorem ge_get1 (hu : X.A.units + 64 < cLine) (ho : GE X o no mo) (he : GE X e ne me) (hbase : attributeBase o "get" X.env (eval o X.env) = eval o X.env := by rfl)
    (hfew : ((backTo cpos (starEach [e] X.env)).all (fun x => !x.1) && (backToKw cpos (keywordEach [] X.env)).all (fun x => x.1.isSome)
      && decide (([e] : List Expr).length + ([] : List Keyword).length + (if ([] : List Keyword).isEmpty then 0 else 1) < 30)) = true := by rfl)
    (hline : (apos.endLine == cpos.line) = true := by rfl) (ht : backTo cpos (starEach [e] X.env) = [(false, eval e X.env)] := by rfl) : GE X (.Call (.Attribute o "get" apos) [e] [] cpos) (no + ne) (mGet1 mo me) :=
  pe_imp (pe_dget1 (by omega) ho he ⟨hbase, hfew, hline, ht⟩) fun σ H Q h => by
  obtain ⟨W, B, G0, H0, G, env, P, R, hm, q⟩ := h
  refine ⟨W, B + ne, G0, H0, G, env, _, R.le (by omega), hm, fun x e1 v G1 H1 p1 s1 R1 d1 => ?_⟩
  obtain ⟨⟨ds, rfl⟩, p1⟩ := p1
  obtain ⟨a, us, rfl, h1, h2⟩ := dp_dic d1
  refine ⟨a, rfl, .inl ⟨us, R1.pub.dk h1⟩, W, B, G0, H0, G1, e1, _, R1, p1, fun y e2 u G2 H2 p2 s2 R2 d2 => ?_⟩
  split at p2
  · rename_i ds' k hx hk
    cases hx
    have ek := keyOf_kV hk d2
    subst ek
    rcases kv_dget R2.pub (same_rd s2 h1) (dpKv_same s2 h2) k with ⟨w2, y2, g, e, d⟩ | ⟨g, e⟩
    · rw [e] at p2
      exact ⟨_, g, q _ _ _ _ _ p2 (s1.trans s2) R2 d⟩
    · rw [e] at p2
      exact ⟨_, g, q _ _ _ _ _ p2 (s1.trans s2) R2 .non⟩
  · exact p2.elim
end
end DL
namespace DL
open PySem PySem.Spec PyProof.Rows L2
/-! ### len, list, in, get, pop of what is written -/
def mLenX (i : Nat) : ME := fun env P => match env[i]? with
  | some (.mo _ (.lst xs)) => P (.int xs.length) env
  | some (.mo _ (.dic kvs)) => P (.int kvs.length) env
  | _ => False
def keysK (kvs : List (Key × D)) : List D := kvs.map fun p => keyD p.1
def mListM (i : Nat) : MF := fun env P => match env[i]? with
  | some (.mo _ (.lst xs)) => P xs env
  | some (.mo _ (.dic kvs)) => P (keysK kvs) env
  | _ => False
def mDpopM (i : Nat) (mk : ME) : ME := fun env P => (∃ w kvs, env[i]? = some (.mo w (.dic kvs))) ∧ mk env fun z e1 => match e1[i]?, keyOf z with
  | some (.mo w (.dic kvs)), some k => ∃ y, valKD kvs k = some y ∧ P y (e1.set i (.mo w (.dic (kvs.filter fun p => decide (p.1 ≠ k)))))
  | _, _ => False
def mGet1M (i : Nat) (mk : ME) : ME := fun env P => (∃ w kvs, env[i]? = some (.mo w (.dic kvs))) ∧ mk env fun z e1 => match e1[i]?, keyOf z with
  | some (.mo _ (.dic kvs)), some k => P ((valKD kvs k).getD .none) e1
  | _, _ => False
def mGet2M (i : Nat) (mk mf : ME) : ME := fun env P => (∃ w kvs, env[i]? = some (.mo w (.dic kvs))) ∧ mk env fun z e1 => mf e1 fun y e2 => match e2[i]?, keyOf z with
  | some (.mo _ (.dic kvs)), some k => P ((valKD kvs k).getD y) e2
  | _, _ => False
theorem fs_keysK {K : PySem.W.Frag} {G : Hp} : ∀ {us : List (Key × V)} {kvs : List (Key × D)}, DrFs K G us kvs → DrAll K G (us.map fun kv => kV kv.1) (keysK kvs)
  | _, _, .nil => .nil
  | _, _, .cons (k := k) _ t => .cons (dr_key k) (fs_keysK t)
theorem fs_drop {K : PySem.W.Frag} {G : Hp} (k : Key) : ∀ {us : List (Key × V)} {kvs : List (Key × D)}, DrFs K G us kvs → DrFs K G (dropK us k) (kvs.filter fun p => decide (p.1 ≠ k))
  | _, _, .nil => .nil
  | _, _, .cons (k := g) (v := v) (vs := vs) (d := d) (ds := ds) a t => by
    have ih := fs_drop k t
    unfold dropK at ih ⊢
    by_cases h : g = k
    · rw [List.filter_cons_of_neg (by simp [h]), List.filter_cons_of_neg (by simp [h])]
      exact ih
    · rw [List.filter_cons_of_pos (by simp [h]), List.filter_cons_of_pos (by simp [h])]
      exact .cons a ih
theorem fs_dget {K : PySem.W.Frag} {G H : Hp} {l : Addr} {us : List (Key × V)} {kvs : List (Key × D)} (h : H l = some (.dK us)) (q : DrFs K G us kvs) (k : Key) :
    (∃ v y, DGet H l (kV k) (some v) ∧ valKD kvs k = some y ∧ valV us k = some v ∧ Dr K G v y) ∨ (DGet H l (kV k) none ∧ valKD kvs k = none ∧ valV us k = none) := by
  have g := dget_rd (k := k) (.inl h)
  rcases fs_val k q with ⟨v, y, e1, e2, d⟩ | ⟨e1, e2⟩
  · rw [e1] at g
    exact .inl ⟨v, y, g, e2, e1, d⟩
  · rw [e1] at g
    exact .inr ⟨g, e2, e1⟩
section
variable {X : Cx} {a b e f : Expr} {p pos px apos cpos : Pos} {nb ne nf : Nat} {mk me mf : ME}
theorem ge_lenX (i : Nat) {x : Str} (hg : Gl X "len") (hm : X.mg "len" = none) (hN : X.N[i]? = some x := by rfl) (hv : Vis X.env.scope x := by first | exact Or.inl rfl | exact Or.inr (Or.inl rfl) | exact Or.inr (Or.inr rfl)) (hd : (x == ("__debug__" : Str)) = false := by decide)
    (hcd : (x == ("__classdict__" : Str)) = false := by decide) (he : starEach [.Name x px] X.env = (false, eval (.Name x px) X.env) :: starEach [] X.env := by rfl) (hpl : (backTo pos (starEach ([] : List Expr) X.env)).any (·.1) = false := by rfl) :
    GE X (.Call (.Name "len" p) [.Name x px] [] pos) 0 (mLenX i) := by
  have hL := pe_callB (call_len_seq (X := X)) hg hm PySem.boot_len (pa_cons (pe_var (pos := px) hN hv hd hcd) pa_nil he) (hpl := hpl) (he := he) (p := p) (pos := pos)
  have hD := pe_callB (call_lenD (X := X)) hg hm PySem.boot_len (pa_cons (pe_var (pos := px) hN hv hd hcd) pa_nil he) (hpl := hpl) (he := he) (p := p) (pos := pos)
  refine pe_imp (pe_or hL hD) fun σ H Q h => ?_
  obtain ⟨W, B, G0, H0, G, env, P, R, hm, q⟩ := h
  unfold mLenX at hm
  split at hm
  · rename_i w xs hx
    obtain ⟨l, e1, hg, hw, vs, hl, hq⟩ := R.get_mo hx
    exact .inl ⟨_, e1, l, vs, rfl, .inl (SqL.of hl), q _ _ _ _ _ (by rw [dpAll_len hq]; exact hm) (Same.refl _) R (.int _)⟩
  · rename_i w kvs hx
    obtain ⟨l, e1, hg, hw, us, hl, hq⟩ := R.get_mo hx
    exact .inr ⟨_, e1, l, us, rfl, hl, q _ _ _ _ _ (by rw [drFs_len hq]; exact hm) (Same.refl _) R (.int _)⟩
  · exact hm.elim
theorem gf_listM (i : Nat) {x : Str} (hc : X.calm = true) (hg : Gl X "list") (hm : X.mg "list" = none) (hN : X.N[i]? = some x := by rfl) (hv : Vis X.env.scope x := by first | exact Or.inl rfl | exact Or.inr (Or.inl rfl) | exact Or.inr (Or.inr rfl)) (hd : (x == ("__debug__" : Str)) = false := by decide)
    (hcd : (x == ("__classdict__" : Str)) = false := by decide) (he : starEach [.Name x px] X.env = (false, eval (.Name x px) X.env) :: starEach [] X.env := by rfl) (hpl : (backTo pos (starEach ([] : List Expr) X.env)).any (·.1) = false := by rfl) :
    GF X (.Call (.Name "list" p) [.Name x px] [] pos) 0 (mListM i) := by
  have hb : bootBuiltins "list" = some (.type "list") := by decide +kernel
  have hL := pe_callTy (call_list_of (X := X)) hg hm hb (pa_cons (pe_var (pos := px) hN hv hd hcd) pa_nil he) (hpl := hpl) (he := he) (p := p) (pos := pos)
  have hD := pe_callTy (call_listD (X := X) hc) hg hm hb (pa_cons (pe_var (pos := px) hN hv hd hcd) pa_nil he) (hpl := hpl) (he := he) (p := p) (pos := pos)
  refine pe_imp (pe_or hL hD) fun σ H Q h => ?_
  obtain ⟨W, B, G0, H0, G, env, P, R, hm, q⟩ := h
  unfold mListM at hm
  split at hm
  · rename_i w xs hx
    obtain ⟨l, e1, hg, hw, vs, hl, hq⟩ := R.get_mo hx
    refine .inl ⟨_, e1, l, vs, rfl, .inl (SqL.of hl), fun t ht => ?_⟩
    obtain ⟨R2, f1, f2, f3, f4⟩ := R.fresh (o := .lst vs) ht
    exact q _ _ _ _ _ hm (Same.refl _) R2 ⟨vs, upd_same, f1, f2, f3, f4, hq⟩
  · rename_i w kvs hx
    obtain ⟨l, e1, hg, hw, us, hl, hq⟩ := R.get_mo hx
    refine .inr ⟨_, e1, l, us, rfl, .inl hl, fun t ht => ?_⟩
    obtain ⟨R2, f1, f2, f3, f4⟩ := R.fresh (o := .lst (us.map fun kv => kV kv.1)) ht
    exact q _ _ _ _ _ hm (Same.refl _) R2 ⟨_, upd_same, f1, f2, f3, f4, fs_keysK hq⟩
  · exact hm.elim
theorem din_ok (neg : Bool) {i : Nat} {K : PySem.W.Frag} {σ : L2.St} {H : Hp} {Q : Bool → Hp → Prop} (h : tDT K nb (mDinM neg i mk) σ H Q) :
    tD K nb mk σ H fun y H1 => tVar i σ H1 fun x H2 => ∃ a o, x = .ref a ∧ DGet H2 a y o ∧ Q (if neg then !o.isSome else o.isSome) H2 := by
  obtain ⟨W, B, G0, H0, G, env, P, R, hm, q⟩ := h
  refine ⟨W, B, G0, H0, G, env, _, R, hm, fun y e1 v G1 H1 p1 s1 R1 d1 => ?_⟩
  split at p1
  · rename_i w kvs k hx hk
    obtain ⟨l, f1, hg, hw, us, hl, hq⟩ := R1.get_mo hx
    have ek := keyOf_kV hk d1
    subst ek
    rcases fs_dget hl hq k with ⟨v, y2, g, e2, _, _⟩ | ⟨g, e2, _⟩
    · rw [e2] at p1
      exact ⟨_, f1, l, _, rfl, g, q _ _ _ _ p1 s1 R1⟩
    · rw [e2] at p1
      exact ⟨_, f1, l, _, rfl, g, q _ _ _ _ p1 s1 R1⟩
  · exact p1.elim
theorem gt_din (i : Nat) {x : Str} (hu : X.A.units + 64 < cLine) (hb : GE X b nb mk) (hN : X.N[i]? = some x := by rfl) (hv : Vis X.env.scope x := by first | exact Or.inl rfl | exact Or.inr (Or.inl rfl) | exact Or.inr (Or.inr rfl)) (hd : (x == ("__debug__" : Str)) = false := by decide)
    (hcd : (x == ("__classdict__" : Str)) = false := by decide) (h1 : behindInMarks .In (.Name x px) = false := by rfl) : GT X (.Compare b [.In] [.Name x px] pos) nb (mDinM false i mk) := pt_imp (pt_cmp (pc_din (by omega) hb (pe_var hN hv hd hcd)) h1) fun σ H Q h => by
  obtain ⟨W, B, G0, H0, G, env, P, R, hm, q⟩ := din_ok false h
  refine ⟨W, B, G0, H0, G, env, P, R, hm, fun x e v G' H' p s R' d => ?_⟩
  obtain ⟨x2, f1, a, o, e2, g, hq⟩ := q x e v G' H' p s R' d
  exact ⟨x2, f1, a, o, e2, g, o.isSome, rfl, hq⟩
theorem gt_dnin (i : Nat) {x : Str} (hu : X.A.units + 64 < cLine) (hb : GE X b nb mk) (hN : X.N[i]? = some x := by rfl) (hv : Vis X.env.scope x := by first | exact Or.inl rfl | exact Or.inr (Or.inl rfl) | exact Or.inr (Or.inr rfl)) (hd : (x == ("__debug__" : Str)) = false := by decide)
    (hcd : (x == ("__classdict__" : Str)) = false := by decide) (h1 : behindInMarks .NotIn (.Name x px) = false := by rfl) : GT X (.Compare b [.NotIn] [.Name x px] pos) nb (mDinM true i mk) := pt_imp (pt_cmp (pc_dnotin (by omega) hb (pe_var hN hv hd hcd)) h1) fun σ H Q h => by
  obtain ⟨W, B, G0, H0, G, env, P, R, hm, q⟩ := din_ok true h
  refine ⟨W, B, G0, H0, G, env, P, R, hm, fun x e v G' H' p s R' d => ?_⟩
  obtain ⟨x2, f1, a, o, e2, g, hq⟩ := q x e v G' H' p s R' d
  exact ⟨x2, f1, a, o, e2, g, !o.isSome, rfl, hq⟩
theorem ge_dpopM (i : Nat) {x : Str} (he : GE X e ne me) (hN : X.N[i]? = some x := by rfl) (hv : Vis X.env.scope x := by first | exact Or.inl rfl | exact Or.inr (Or.inl rfl) | exact Or.inr (Or.inr rfl)) (hd : (x == ("__debug__" : Str)) = false := by decide)
    (hcd : (x == ("__classdict__" : Str)) = false := by decide) (hbase : attributeBase (.Name x px) "pop" X.env (eval (.Name x px) X.env) = eval (.Name x px) X.env := by rfl)
    (hfew : ((backTo cpos (starEach [e] X.env)).all (fun x => !x.1) && (backToKw cpos (keywordEach [] X.env)).all (fun x => x.1.isSome)
      && decide (([e] : List Expr).length + ([] : List Keyword).length + (if ([] : List Keyword).isEmpty then 0 else 1) < 30)) = true := by rfl)
    (hline : (apos.endLine == cpos.line) = true := by rfl) (ht : backTo cpos (starEach [e] X.env) = [(false, eval e X.env)] := by rfl) : GE X (.Call (.Attribute (.Name x px) "pop" apos) [e] [] cpos) ne (mDpopM i me) :=
  pe_imp (pe_dpop1 (pe_var hN hv hd hcd) he ⟨hbase, hfew, hline, ht⟩) fun σ H Q h => by
  obtain ⟨W, B, G0, H0, G, env, P, R, ⟨⟨w, kvs, hx⟩, hm⟩, q⟩ := h
  obtain ⟨l, e1, hg, hw, us, hl, hq⟩ := R.get_mo hx
  refine ⟨_, e1, l, rfl, .inl ⟨us, .inl hl⟩, W, B, G0, H0, G, env, _, R, hm, fun y e2 v G2 H2 p2 s2 R2 d2 => ?_⟩
  split at p2
  · rename_i w2 kvs2 k hy hk
    obtain ⟨l2, f1, hg2, hw2, us2, hl2, hq2⟩ := R2.get_mo hy
    rw [e1] at f1
    cases f1
    have ek := keyOf_kV hk d2
    subst ek
    obtain ⟨z, hz, hP⟩ := p2
    rcases fs_dget hl2 hq2 k with ⟨v, y2, g, e2, e3, dv⟩ | ⟨g, e2, _⟩
    · rw [hz] at e2
      cases e2
      exact ⟨us2, k, v, hl2, rfl, e3, q _ _ _ _ _ hP s2 (R2.put hy e1 (show ∃ us, _ ∧ _ from ⟨_, upd_same, fs_drop k hq2⟩)) dv⟩
    · rw [hz] at e2
      cases e2
  · exact p2.elim
theorem ge_get1M (i : Nat) {x : Str} (hu : X.A.units + 64 < cLine) (he : GE X e ne me) (hN : X.N[i]? = some x := by rfl) (hv : Vis X.env.scope x := by first | exact Or.inl rfl | exact Or.inr (Or.inl rfl) | exact Or.inr (Or.inr rfl)) (hd : (x == ("__debug__" : Str)) = false := by decide)
    (hcd : (x == ("__classdict__" : Str)) = false := by decide) (hbase : attributeBase (.Name x px) "get" X.env (eval (.Name x px) X.env) = eval (.Name x px) X.env := by rfl)
    (hfew : ((backTo cpos (starEach [e] X.env)).all (fun x => !x.1) && (backToKw cpos (keywordEach [] X.env)).all (fun x => x.1.isSome)
      && decide (([e] : List Expr).length + ([] : List Keyword).length + (if ([] : List Keyword).isEmpty then 0 else 1) < 30)) = true := by rfl)
    (hline : (apos.endLine == cpos.line) = true := by rfl) (ht : backTo cpos (starEach [e] X.env) = [(false, eval e X.env)] := by rfl) : GE X (.Call (.Attribute (.Name x px) "get" apos) [e] [] cpos) ne (mGet1M i me) :=
  pe_imp (pe_dget1 (by omega) (pe_var hN hv hd hcd) he ⟨hbase, hfew, hline, ht⟩) fun σ H Q h => by
  obtain ⟨W, B, G0, H0, G, env, P, R, ⟨⟨w, kvs, hx⟩, hm⟩, q⟩ := h
  obtain ⟨l, e1, hg, hw, us, hl, hq⟩ := R.get_mo hx
  refine ⟨_, e1, l, rfl, .inl ⟨us, .inl hl⟩, W, B, G0, H0, G, env, _, R, hm, fun y e2 v G2 H2 p2 s2 R2 d2 => ?_⟩
  split at p2
  · rename_i w2 kvs2 k hy hk
    obtain ⟨l2, f1, hg2, hw2, us2, hl2, hq2⟩ := R2.get_mo hy
    rw [e1] at f1
    cases f1
    have ek := keyOf_kV hk d2
    subst ek
    rcases fs_dget hl2 hq2 k with ⟨v, y2, g, e2, e3, dv⟩ | ⟨g, e2, _⟩
    · rw [e2] at p2
      exact ⟨_, g, q _ _ _ _ _ p2 s2 R2 dv⟩
    · rw [e2] at p2
      exact ⟨_, g, q _ _ _ _ _ p2 s2 R2 .non⟩
  · exact p2.elim
theorem ge_get2M (i : Nat) {x : Str} (hu : X.A.units + 64 < cLine) (he : GE X e ne me) (hf : GE X f nf mf) (hN : X.N[i]? = some x := by rfl) (hv : Vis X.env.scope x := by first | exact Or.inl rfl | exact Or.inr (Or.inl rfl) | exact Or.inr (Or.inr rfl)) (hd : (x == ("__debug__" : Str)) = false := by decide)
    (hcd : (x == ("__classdict__" : Str)) = false := by decide) (hbase : attributeBase (.Name x px) "get" X.env (eval (.Name x px) X.env) = eval (.Name x px) X.env := by rfl)
    (hfew : ((backTo cpos (starEach [e, f] X.env)).all (fun x => !x.1) && (backToKw cpos (keywordEach [] X.env)).all (fun x => x.1.isSome)
      && decide (([e, f] : List Expr).length + ([] : List Keyword).length + (if ([] : List Keyword).isEmpty then 0 else 1) < 30)) = true := by rfl)
    (hline : (apos.endLine == cpos.line) = true := by rfl) (ht : backTo cpos (starEach [e, f] X.env) = [(false, eval e X.env), (false, eval f X.env)] := by rfl) : GE X (.Call (.Attribute (.Name x px) "get" apos) [e, f] [] cpos) (ne + nf) (mGet2M i me mf) :=
  pe_imp (pe_dget2 (by omega) (pe_var hN hv hd hcd) he hf ⟨hbase, hfew, hline, ht⟩) fun σ H Q h => by
  obtain ⟨W, B, G0, H0, G, env, P, R, ⟨⟨w, kvs, hx⟩, hm⟩, q⟩ := h
  obtain ⟨l, e1, hg, hw, us, hl, hq⟩ := R.get_mo hx
  refine ⟨_, e1, l, rfl, .inl ⟨us, .inl hl⟩, W, B + nf, G0, H0, G, env, _, R.le (by omega), hm, fun y e2 v G2 H2 p2 s2 R2 d2 => ⟨W, B, G0, H0, G2, e2, _, R2, p2, fun z e3 u G3 H3 p3 s3 R3 d3 => ?_⟩⟩
  split at p3
  · rename_i w2 kvs2 k hy hk
    obtain ⟨l2, f1, hg2, hw2, us2, hl2, hq2⟩ := R3.get_mo hy
    rw [e1] at f1
    cases f1
    have ek := keyOf_kV hk d2
    subst ek
    rcases fs_dget hl2 hq2 k with ⟨v, y2, g, e2, e3, dv⟩ | ⟨g, e2, _⟩
    · rw [e2] at p3
      exact ⟨_, g, q _ _ _ _ _ p3 (s2.trans s3) R3 dv⟩
    · rw [e2] at p3
      exact ⟨_, g, q _ _ _ _ _ p3 (s2.trans s3) R3 d3⟩
  · exact p3.elim
end
/-! ### dict(pairs) -/
def mergeKD (kvs more : List (Key × D)) : List (Key × D) := more.foldl (fun acc kv => putKD acc kv.1 kv.2) kvs
def pairsKD : List D → Option (List (Key × D))
  | [] => some []
  | .tuple [k, v] :: r => match keyOf k, pairsKD r with
    | some k, some r => some ((k, v) :: r)
    | _, _ => none
  | _ :: _ => none
theorem putKD_mem {k g : Key} {y : D} : ∀ {ks : List (Key × D)}, g ∈ (putKD ks k y).map (·.1) → g ∈ ks.map (·.1) ∨ g = k
  | [], h => by
    simp only [putKD, List.map_cons, List.map_nil, List.mem_cons, List.not_mem_nil, or_false] at h
    exact .inr h
  | (j, x) :: r, h => by
    rw [putKD] at h
    by_cases e : j = k
    · rw [if_pos e] at h
      exact .inl h
    · rw [if_neg e] at h
      rcases List.mem_cons.mp h with h | h
      · exact .inl (h ▸ List.mem_cons_self)
      · exact (putKD_mem h).imp (List.mem_cons_of_mem _) id
theorem putKD_nodup {k : Key} {y : D} : ∀ {ks : List (Key × D)}, (ks.map (·.1)).Nodup → ((putKD ks k y).map (·.1)).Nodup
  | [], _ => by simp [putKD]
  | (j, x) :: r, h => by
    rw [putKD]
    by_cases e : j = k
    · rw [if_pos e]
      exact h
    · rw [if_neg e]
      rw [List.map_cons, List.nodup_cons] at h ⊢
      refine ⟨fun m => ?_, putKD_nodup h.2⟩
      rcases putKD_mem m with m | m
      · exact h.1 m
      · exact e m
section
variable {K : PySem.W.Frag} {G : Hp}
theorem fs_merge : ∀ {ms : List (Key × V)} {more : List (Key × D)} {us : List (Key × V)} {kvs : List (Key × D)}, DrFs K G ms more → DrFs K G us kvs → (kvs.map (·.1)).Nodup → DrFs K G (mergeK us ms) (mergeKD kvs more)
  | _, _, _, _, .nil, h, _ => h
  | _, _, us, kvs, .cons (k := k) (v := v) (vs := vs) (d := d) (ds := ds) a t, h, nd => show DrFs K G (mergeK (putK us k v) vs) (mergeKD (putKD kvs k d) ds) from fs_merge t (fs_put a h nd) (putKD_nodup nd)
theorem pairs_vals {H : Hp} (sG : Pub G H) : ∀ {vs : List V} {xs : List D} {ms : List (Key × D)}, DrAll K G vs xs → pairsKD xs = some ms → ∃ (ps : List Addr) (us : List (Key × V)), vs = ps.map V.ref ∧ Paired (fun p kv => SqT K H p [kV kv.1, kv.2]) ps us ∧ DrFs K G us ms
  | _, _, _, .nil, h => by
    cases h
    exact ⟨[], [], rfl, .nil, .nil⟩
  | _, _, _, .cons (d := x) a t, h => by
    unfold pairsKD at h
    split at h
    · rename_i heq
      cases heq
    · rename_i k v r heq
      cases heq
      split at h
      · rename_i k2 r2 hk hr
        cases h
        obtain ⟨ps, us, rfl, h1, h2⟩ := pairs_vals sG t hr
        obtain ⟨p, ws, rfl, hp, hw⟩ := dp_tup a
        cases hw with
        | cons dk hw =>
          cases hw with
          | cons dv hw =>
            cases hw
            have ek := keyOf_kV hk dk
            subst ek
            exact ⟨p :: ps, (k2, _) :: us, rfl, .cons (pub_sqT sG hp) h1, .cons dv h2⟩
      · cases h
    · cases h
end
def mDictP (ma : ME) : MDk := fun env P => ma env fun x e1 => match x with
  | .list xs => match pairsKD xs with
    | some ms => P (mergeKD [] ms) e1
    | none => False
  | _ => False
section
variable {X : Cx} {a : Expr} {p pos : Pos} {na : Nat} {ma : ME}
theorem gd_dict (hc : X.calm = true) (hg : Gl X "dict") (hm : X.mg "dict" = none) (ha : GE X a na ma) (he : starEach [a] X.env = (false, eval a X.env) :: starEach [] X.env := by rfl) (hpl : (backTo pos (starEach ([] : List Expr) X.env)).any (·.1) = false := by rfl) :
    GDk X (.Call (.Name "dict" p) [a] [] pos) na (mDictP ma) :=
  pe_imp (pe_callTy (call_dictP hc) hg hm (show bootBuiltins "dict" = some (.type "dict") by decide +kernel) (pa_cons ha pa_nil he) (hpl := hpl) (he := he)) fun σ H Q h => by
  obtain ⟨W, B, G0, H0, G, env, P, R, hm, q⟩ := h
  refine ⟨W, B, G0, H0, G, env, _, R, hm, fun x e1 v G1 H1 p1 s1 R1 d1 => ?_⟩
  split at p1
  · rename_i xs
    split at p1
    · rename_i ms hms
      obtain ⟨l, vs, rfl, hl, hv⟩ := dp_lst d1
      obtain ⟨ps, us, rfl, h1, h2⟩ := pairs_vals R1.pub hv hms
      refine ⟨l, ps, us, rfl, SqL.of (R1.pub.lst hl), h1, fun t ht => ?_⟩
      obtain ⟨R2, f1, f2, f3, f4⟩ := R1.fresh (o := .dK (mergeK [] us)) ht
      exact q _ _ _ _ _ p1 s1 R2 ⟨_, upd_same, f1, f2, f3, f4, fs_merge h2 .nil List.nodup_nil⟩
    · exact p1.elim
  · exact p1.elim
end
end DL
namespace DL
open PySem PySem.Spec PyProof.Rows L2
/-! ### a dict of one's own read as data by an expression, not published by it -/
/-- an object is no more published -/
def drop1 (G : Hp) (l : Addr) : Hp := fun a => if a = l then none else G a
theorem drop1_ne {G : Hp} {l a : Addr} (h : a ≠ l) : drop1 G l a = G a := if_neg h
theorem drop1_eq {G : Hp} {l : Addr} : drop1 G l l = none := if_pos rfl
mutual
theorem dr_drop {K : PySem.W.Frag} {G : Hp} {l : Addr} {us : List (Key × V)} (hl : G l = some (.dK us)) : ∀ {v : V} {x : D}, Dr K G v x → noDict x = true → Dr K (drop1 G l) v x
  | _, _, .non, _ => .non
  | _, _, .bl b, _ => .bl b
  | _, _, .int i, _ => .int i
  | _, _, .str z, _ => .str z
  | _, _, .lst (a := a) h t, n => by
    have ne : a ≠ l := fun z => by
      rw [z, hl] at h
      cases h
    exact .lst (by rw [drop1_ne ne]; exact h) (drAll_drop hl t (by simpa [noDict] using n))
  | _, _, .tup (a := a) h t, n => by
    refine .tup ?_ (drAll_drop hl t (by simpa [noDict] using n))
    rcases h with (h | ⟨o, h⟩) | h
    · have ne : a ≠ l := fun z => by
        rw [z, hl] at h
        cases h
      exact .inl (.inl (by rw [drop1_ne ne]; exact h))
    · have ne : a ≠ l := fun z => by
        rw [z, hl] at h
        cases h
      exact .inl (.inr ⟨o, by rw [drop1_ne ne]; exact h⟩)
    · exact .inr h
  | _, _, .dic h a, n => by simp [noDict] at n
theorem drAll_drop {K : PySem.W.Frag} {G : Hp} {l : Addr} {us : List (Key × V)} (hl : G l = some (.dK us)) : ∀ {vs : List V} {xs : List D}, DrAll K G vs xs → noDicts xs = true → DrAll K (drop1 G l) vs xs
  | _, _, .nil, _ => .nil
  | _, _, .cons h t, n => by
    simp only [noDicts, Bool.and_eq_true] at n
    exact .cons (dr_drop hl h n.1) (drAll_drop hl t n.2)
end
def mLendD (i : Nat) (m : ME) : ME := fun env P => ∃ kvs, env[i]? = some (.mo none (.dic kvs)) ∧ m ((hide env).set i (.d (.dict (kvsD kvs)))) fun x _ => noDict x = true ∧ P x env
theorem ge_lendD (i : Nat) {X : Cx} {e : Expr} {n : Nat} {m : ME} (h : GE X e n m) : GE X e n (mLendD i m) := pe_imp h fun σ H Q h => by
  obtain ⟨W, B, G0, H0, G, env, P, R, ⟨kvs, hx, hm⟩, q⟩ := h
  obtain ⟨l, e1, hg, ⟨h0, hmu⟩, us, hl, hq⟩ := R.get_mo hx
  have sg : Same G (upd G l (.dK us)) := same_upd hg
  have dq : Dr X.K (upd G l (.dK us)) (.ref l) (.dict (kvsD kvs)) := .dic (.inl upd_same) (fs_kvs (drFs_same sg hq))
  obtain ⟨R2, s2⟩ := R.publishO hx e1 hl hg h0 hmu dq
  have R3 := R2.hide
  have ee : hide (env.set i (.d (.dict (kvsD kvs)))) = (hide env).set i (.d (.dict (kvsD kvs))) := by
    unfold hide
    rw [List.map_set]
    rfl
  rw [ee] at R3
  have no : NoOwn ((hide env).set i (.d (.dict (kvsD kvs)))) := ee ▸ hide_no _
  have R4 := R3.base0 no
  refine ⟨.of W.dk, B, _, _, _, _, _, R4, hm, fun x e' v G2 H2 p1 s1 R5 d5 => ?_⟩
  have g2 : G2 l = some (.dK us) := s1 _ _ upd_same
  have ndk : ∀ a, G2 a ≠ none → ¬ W.dk.mu a := fun a h m => h (R5.gm a (.inl m))
  have keep : ∀ a o, H a = some o → ¬ W.dk.mu a → H2 a = some o := fun a o h m => R5.fr a o h fun z => m (of_mu.mp z)
  have own : ∀ a o, H a = some o → upd G l (.dK us) a = none → G2 a = none := fun a o h h2 => by
    cases z : G2 a with
    | none => rfl
    | some u =>
      have := R5.pn a u z h2
      rw [h] at this
      cases this
  have s3 : Same G (drop1 G2 l) := fun a o h => by
    have ne : a ≠ l := fun z => by
      rw [z, hg] at h
      cases h
    rw [drop1_ne ne]
    exact s1 a o (sg a o h)
  have R6 : Rel X.K W B G0 H0 (drop1 G2 l) env σ H2 := by
    refine { g0 := R.g0.trans s3, pub := fun a o h => ?_, gm := fun a m => ?_, inv := ⟨R5.inv.1, R.inv.2.1, fun a m => ?_⟩, fr := fun a o h m => ?_, pn := fun a o h h' => ?_, len := R.len, slot := fun j e s h1 h2 => ?_, dis := R.dis }
    · by_cases z : a = l
      · rw [z, drop1_eq] at h
        cases h
      · rw [drop1_ne z] at h
        exact R5.pub a o h
    · by_cases z : a = l
      · rw [z, drop1_eq]
      · rw [drop1_ne z]
        rcases m with m | m
        · exact R5.gm a (.inl m)
        · obtain ⟨o, ho⟩ := R.inv.2.2 a m
          exact own a o ho (by rw [upd_ne z]; exact R.gm a (.inr m))
    · obtain ⟨o, ho⟩ := R.inv.2.2 a m
      exact ⟨o, keep a o ho (R.inv.2.1 a m)⟩
    · exact keep a o (R.fr a o h m) fun z => m (.inl z)
    · by_cases z : a = l
      · rw [z, drop1_eq] at h
        cases h
      · rw [drop1_ne z] at h
        cases z2 : G a with
        | some u => exact R.pn a u z2 h'
        | none =>
          have hH := R5.pn a o h (by rw [upd_ne z]; exact z2)
          cases z3 : H0 a with
          | none => rfl
          | some u =>
            have nm : ¬ W.mu a := fun m => by
              rcases m with m | m
              · exact ndk a (by rw [h]; exact fun z => by cases z) m
              · obtain ⟨o2, ho2⟩ := R.inv.2.2 a m
                rw [hH] at ho2
                cases ho2
            have := R.fr a u z3 nm
            rw [hH] at this
            cases this
    · have q := R.slot j e s h1 h2
      cases e with
      | un => trivial
      | d x =>
        obtain ⟨v, ev, dv⟩ := q
        exact ⟨v, ev, dp_same s3 dv⟩
      | hd => exact q
      | «at» _ => trivial
      | mo w c =>
        obtain ⟨l2, ee2, n2, o2, q1⟩ := q
        obtain ⟨ob, hob⟩ := scok_some q1
        have nd : ¬ W.dk.mu l2 := by
          cases w with
          | none => exact fun z => o2.2 (.inl z)
          | some j => exact R.inv.2.1 l2 (List.mem_of_getElem? o2)
        refine ⟨l2, ee2, ?_, o2, scok_later s3 (fun o ho => keep l2 o ho nd) q1⟩
        by_cases z : l2 = l
        · rw [z, drop1_eq]
        · rw [drop1_ne z]
          exact own l2 ob hob (by rw [upd_ne z]; exact n2)
  exact q x env v _ H2 p1.2 s3 R6 (dr_drop g2 d5 p1.1)
end DL
namespace DL
open PySem PySem.Spec PyProof.Rows L2
/-! ### list(zip(a, b)): the tuples stay -/
section
variable {prog : Program} {w : World} {A : Around} {E : Value → Shared → Prop} {s : Shared} {z TI TO i1 i2 : Addr} {ls1 ls2 : List Addr} {n1 n2 : Nat} {Y1 Y2 : Nat → Value → Prop} {C1 C2 : Heap → Prop} {S1 S2 : Nat → Heap → Prop}
theorem zh_next {k : Nat} {T : Addr} {f : Bool} {oT : Obj} {Q : Value → Shared → Prop} (W1 : Wlk i1 ls1 n1 Y1 C1 S1) (W2 : Wlk i2 ls2 n2 Y2 C2 S2) (D : Ap z TI TO i1 i2 (ls1 ++ ls2)) (hz : PySem.IsZipHeld s.heap z TI TO T f) (hT : s.heap.get? T = some oT) (hTI : IsPair s.heap TI (.ref i1) (.ref i2))
    (m1 : S1 k s.heap) (m2 : S2 k s.heap) (c1 : C1 s.heap) (c2 : C2 s.heap) (l1 : k < n1) (l2 : k < n2)
    (hQ : ∀ x y h' tk, Y1 k x → Y2 k y → PySem.IsZipHeld h' z TI TO T true → S1 (k + 1) h' → S2 (k + 1) h' → IsPair h' s.heap.objs.size x y →
      (∀ c o, c ≠ z → c ≠ i1 → c ≠ i2 → s.heap.get? c = some o → h'.get? c = some o) → Q (.ref s.heap.objs.size) { s with heap := h', toks := tk }) :
    wpAny (model prog w) A (Builtin.«zip.__next__» ⟨[.ref z], []⟩) (fun fin s' => ∃ v, fin = .done (.ret v) ∧ Q v s') E s := by
  obtain ⟨d1, d2, d3, d4, d5, d6, d7, d8, d9, d10⟩ := D.d
  have dl1 := fun c hc => D.l c (List.mem_append_left _ hc)
  have dl2 := fun c hc => D.l c (List.mem_append_right _ hc)
  show wpAny _ _ (field (.ref z) 2 >>= _) _ _ _
  refine wpAny_bind (wpAny_field hz rfl (x := .bool false) rfl ?_)
  show wpAny _ _ (field (.ref z) 3 >>= _) _ _ _
  refine wpAny_bind (wpAny_field hz rfl (x := .ref TI) rfl (wpAny_bind (wpAny_seqItems hTI rfl ?_)))
  show wpAny _ _ (Builtin.SmallTypes.ownedTupleIsFree (.ref z) >>= _) _ _ _
  refine wpAny_bind (PySem.wpAny_tupleHeld_zip hz hT fun ha za sa => ?_)
  simp only [Bool.false_eq_true, if_false]
  refine wpAny_bind ?_
  rw [← Array.forIn_toList]
  simp only [List.forIn_cons, List.forIn_nil]
  refine wpAny_bind (wpAny_bind (wpAny_holding ?_))
  show wpAny _ _ (Builtin.SmallTypes.nextOf (.ref i1) >>= _) _ _ _
  refine wpAny_bind (W1.item (s := { s with heap := ha }) (W1.keep m1 fun o q => sa.extBut _ _ d3 q) (W1.keepC c1 fun c hc o q => sa.extBut _ _ (dl1 c hc).1 q) l1 fun x hb tb yx nb sb => wpAny_pure ?_)
  have sb : Heap.SameBut i1 ha hb := sb
  refine wpAny_pure ?_
  refine wpAny_bind (wpAny_bind (wpAny_holding ?_))
  show wpAny _ _ (Builtin.SmallTypes.nextOf (.ref i2) >>= _) _ _ _
  refine wpAny_bind (W2.item (s := { s with heap := hb, toks := tb }) (W2.keep m2 fun o q => sb.extBut _ _ d10.symm (sa.extBut _ _ d4 q)) (W2.keepC c2 fun c hcm o q => sb.extBut _ _ (dl2 c hcm).2.2.1 (sa.extBut _ _ (dl2 c hcm).1 q)) l2 fun y hd td yy nd sd => wpAny_pure ?_)
  have sd : Heap.SameBut i2 hb hd := sd
  refine wpAny_pure (wpAny_pure ?_)
  show wpAny _ _ (newTuple [x, y] >>= _) _ _ _
  refine wpAny_bind (wpAny_newTuple ?_)
  have sz : hd.objs.size = s.heap.objs.size := by rw [sd.1, sb.1, sa.1]
  have zd : PySem.IsZipHeld hd z TI TO T true := sd.extBut _ _ d4.symm (sb.extBut _ _ d3.symm za)
  have kd : ∀ c o, c ≠ z → c ≠ i1 → c ≠ i2 → s.heap.get? c = some o → hd.get? c = some o := fun c o c1 c3 c4 q => sd.extBut _ _ c4 (sb.extBut _ _ c3 (sa.extBut _ _ c1 q))
  refine wpAny_pure ⟨_, rfl, ?_⟩
  show Q (.ref hd.objs.size) _
  have pr : IsPair (hd.push { cls := .type "tuple", data := .seq #[x, y] }) hd.objs.size x y := Heap.get?_push_size _ rfl
  rw [sz] at pr ⊢
  exact hQ x y _ td yx yy (Heap.get?_push_of_some _ zd) (W1.keep nb fun o q => Heap.get?_push_of_some _ (sd.extBut _ _ d10 q)) (W2.keep nd fun o q => Heap.get?_push_of_some _ q) pr fun c o c1 c3 c4 q => Heap.get?_push_of_some _ (kd c o c1 c3 c4 q)
theorem zh_end {k : Nat} {T : Addr} {f : Bool} {oT : Obj} {Q : Fin → Shared → Prop} (ok : A.handled = none) (W1 : Wlk i1 ls1 n1 Y1 C1 S1) (W2 : Wlk i2 ls2 n2 Y2 C2 S2) (D : Ap z TI TO i1 i2 (ls1 ++ ls2)) (hz : PySem.IsZipHeld s.heap z TI TO T f) (hT : s.heap.get? T = some oT) (hTI : IsPair s.heap TI (.ref i1) (.ref i2))
    (m1 : S1 k s.heap) (m2 : S2 k s.heap) (c1 : C1 s.heap) (c2 : C2 s.heap) (hend : n1 ≤ k ∨ n2 ≤ k)
    (hE : ∀ h' e tk, (∀ c o, c ≠ z → c ≠ i1 → c ≠ i2 → s.heap.get? c = some o → h'.get? c = some o) → (∃ o, h'.get? e = some o ∧ o.cls = .type "StopIteration") → E (.ref e) { s with heap := h', toks := tk }) :
    wpAny (model prog w) A (Builtin.«zip.__next__» ⟨[.ref z], []⟩) Q E s := by
  obtain ⟨d1, d2, d3, d4, d5, d6, d7, d8, d9, d10⟩ := D.d
  have dl1 := fun c hc => D.l c (List.mem_append_left _ hc)
  have dl2 := fun c hc => D.l c (List.mem_append_right _ hc)
  show wpAny _ _ (field (.ref z) 2 >>= _) _ _ _
  refine wpAny_bind (wpAny_field hz rfl (x := .bool false) rfl ?_)
  show wpAny _ _ (field (.ref z) 3 >>= _) _ _ _
  refine wpAny_bind (wpAny_field hz rfl (x := .ref TI) rfl (wpAny_bind (wpAny_seqItems hTI rfl ?_)))
  show wpAny _ _ (Builtin.SmallTypes.ownedTupleIsFree (.ref z) >>= _) _ _ _
  refine wpAny_bind (PySem.wpAny_tupleHeld_zip hz hT fun ha za sa => ?_)
  simp only [Bool.false_eq_true, if_false]
  refine wpAny_bind ?_
  rw [← Array.forIn_toList]
  simp only [List.forIn_cons, List.forIn_nil]
  refine wpAny_bind (wpAny_bind (wpAny_holding ?_))
  show wpAny _ _ (Builtin.SmallTypes.nextOf (.ref i1) >>= _) _ _ _
  have M1 : S1 k ha := W1.keep m1 fun o q => sa.extBut _ _ d3 q
  have K1 : C1 ha := W1.keepC c1 fun c hc o q => sa.extBut _ _ (dl1 c hc).1 q
  by_cases l1 : n1 ≤ k
  · refine wpAny_bind (W1.done (s := { s with heap := ha }) ok M1 K1 l1 fun hb e eb st => ?_)
    exact hE hb e s.toks (fun c o q1 q3 _ x => eb _ _ q3 (sa.extBut _ _ q1 x)) st
  · have l2 : n2 ≤ k := by omega
    refine wpAny_bind (W1.item (s := { s with heap := ha }) M1 K1 (by omega) fun x hb tb yx nb sb => wpAny_pure ?_)
    have sb : Heap.SameBut i1 ha hb := sb
    refine wpAny_pure ?_
    refine wpAny_bind (wpAny_bind (wpAny_holding ?_))
    show wpAny _ _ (Builtin.SmallTypes.nextOf (.ref i2) >>= _) _ _ _
    refine wpAny_bind (W2.done (s := { s with heap := hb, toks := tb }) ok (W2.keep m2 fun o q => sb.extBut _ _ d10.symm (sa.extBut _ _ d4 q)) (W2.keepC c2 fun c hcm o q => sb.extBut _ _ (dl2 c hcm).2.2.1 (sa.extBut _ _ (dl2 c hcm).1 q)) l2 fun hd e ed st => ?_)
    exact hE hd e tb (fun c o q1 q3 q4 x => ed _ _ q4 (sb.extBut _ _ q3 (sa.extBut _ _ q1 x))) st
theorem zh_pyNext {k : Nat} {T : Addr} {f : Bool} {oT : Obj} {Q : Option Value → Shared → Prop} (W1 : Wlk i1 ls1 n1 Y1 C1 S1) (W2 : Wlk i2 ls2 n2 Y2 C2 S2) (D : Ap z TI TO i1 i2 (ls1 ++ ls2)) (hz : PySem.IsZipHeld s.heap z TI TO T f) (hT : s.heap.get? T = some oT) (hTI : IsPair s.heap TI (.ref i1) (.ref i2))
    (m1 : S1 k s.heap) (m2 : S2 k s.heap) (c1 : C1 s.heap) (c2 : C2 s.heap) (l1 : k < n1) (l2 : k < n2)
    (hQ : ∀ x y h' tk, Y1 k x → Y2 k y → PySem.IsZipHeld h' z TI TO T true → S1 (k + 1) h' → S2 (k + 1) h' → IsPair h' s.heap.objs.size x y →
      (∀ c o, c ≠ z → c ≠ i1 → c ≠ i2 → s.heap.get? c = some o → h'.get? c = some o) → Q (some (.ref s.heap.objs.size)) { s with heap := h', toks := tk }) : wpAny (model prog w) A (pyNext (.ref z)) Q E s := by
  have hTy : s.TypeIs (.ref z) "zip" := ⟨_, hz, rfl⟩
  unfold pyNext
  exact wpAny_bind (wpAny_attempt (wpAny_callSpecial?_slot (name := Str.ofString "__next__") hTy F.slot_zip_next (wpAny_call_entry F.slot_zip_next hTy F.entry_zip_next (zh_next W1 W2 D hz hT hTI m1 m2 c1 c2 l1 l2 fun x y h2 tk a1 a2 a3 a4 a5 a6 a7 => wpAny_pure (hQ x y h2 tk a1 a2 a3 a4 a5 a6 a7)) (F.args_zip_next_1 _))))
theorem zh_pyEnd {k : Nat} {T : Addr} {f : Bool} {oT : Obj} {Q : Option Value → Shared → Prop} (ok : A.handled = none) (W1 : Wlk i1 ls1 n1 Y1 C1 S1) (W2 : Wlk i2 ls2 n2 Y2 C2 S2) (D : Ap z TI TO i1 i2 (ls1 ++ ls2)) (hz : PySem.IsZipHeld s.heap z TI TO T f) (hT : s.heap.get? T = some oT) (hTI : IsPair s.heap TI (.ref i1) (.ref i2))
    (m1 : S1 k s.heap) (m2 : S2 k s.heap) (c1 : C1 s.heap) (c2 : C2 s.heap) (hend : n1 ≤ k ∨ n2 ≤ k)
    (hQ : ∀ h' tk, (∀ c o, c ≠ z → c ≠ i1 → c ≠ i2 → s.heap.get? c = some o → h'.get? c = some o) → Q none { s with heap := h', toks := tk }) : wpAny (model prog w) A (pyNext (.ref z)) Q E s := by
  have hTy : s.TypeIs (.ref z) "zip" := ⟨_, hz, rfl⟩
  unfold pyNext
  refine wpAny_bind (wpAny_attempt (wpAny_callSpecial?_slot (name := Str.ofString "__next__") hTy F.slot_zip_next (wpAny_call_entry F.slot_zip_next hTy F.entry_zip_next (zh_end ok W1 W2 D hz hT hTI m1 m2 c1 c2 hend fun h2 e tk k q => ?_) (F.args_zip_next_1 _))))
  obtain ⟨o, ho, hc⟩ := q
  exact wpAny_bind (wpAny_isInstance (T := "StopIteration") (b := true) ⟨o, ho, hc⟩ isSubtype_stop (wpAny_pure (hQ _ _ k)))
/-- between two turns -/
def Zst (h : Heap) (z TI TO i1 i2 S : Addr) : Prop :=
  (IsZip h z TI TO .none ∧ ∃ a b, IsPair h TO a b) ∨ ∃ T f oT, PySem.IsZipHeld h z TI TO T f ∧ h.get? T = some oT ∧ T ≠ z ∧ T ≠ i1 ∧ T ≠ i2 ∧ T ≠ S
theorem zst_item {k : Nat} {S : Addr} {Q : Option Value → Shared → Prop} (W1 : Wlk i1 ls1 n1 Y1 C1 S1) (W2 : Wlk i2 ls2 n2 Y2 C2 S2) (D : Ap z TI TO i1 i2 (ls1 ++ ls2)) (hz : Zst s.heap z TI TO i1 i2 S) (hS : S < s.heap.objs.size) (hTI : IsPair s.heap TI (.ref i1) (.ref i2))
    (m1 : S1 k s.heap) (m2 : S2 k s.heap) (c1 : C1 s.heap) (c2 : C2 s.heap) (l1 : k < n1) (l2 : k < n2)
    (hQ : ∀ x y h' tk, Y1 k x → Y2 k y → Zst h' z TI TO i1 i2 S → S1 (k + 1) h' → S2 (k + 1) h' → IsPair h' s.heap.objs.size x y →
      (∀ c o, c ≠ z → c ≠ TO → c ≠ i1 → c ≠ i2 → s.heap.get? c = some o → h'.get? c = some o) → Q (some (.ref s.heap.objs.size)) { s with heap := h', toks := tk }) : wpAny (model prog w) A (pyNext (.ref z)) Q E s := by
  obtain ⟨o1, f1, e1, _⟩ := W1.obj m1
  obtain ⟨o2, f2, e2, _⟩ := W2.obj m2
  have g1 : s.heap.objs.size ≠ i1 := Nat.ne_of_gt (Heap.lt_size e1)
  have g2 : s.heap.objs.size ≠ i2 := Nat.ne_of_gt (Heap.lt_size e2)
  rcases hz with ⟨hz, a, b, hTO⟩ | ⟨T, f, oT, hz, hT, r1, r2, r3, r4⟩
  · exact zn_pyNext W1 W2 D hz hTI hTO m1 m2 c1 c2 l1 l2 fun x y h' tk y1 y2 zh to n1 n2 pr kp => hQ x y h' tk y1 y2 (.inr ⟨_, false, _, zh, pr, Nat.ne_of_gt (Heap.lt_size hz), g1, g2, Nat.ne_of_gt hS⟩) n1 n2 pr kp
  · exact zh_pyNext W1 W2 D hz hT hTI m1 m2 c1 c2 l1 l2 fun x y h' tk y1 y2 zh n1 n2 pr kp => hQ x y h' tk y1 y2 (.inr ⟨_, true, _, zh, kp _ _ r1 r2 r3 hT, r1, r2, r3, r4⟩) n1 n2 pr fun c o q1 _ q3 q4 x => kp c o q1 q3 q4 x
theorem zst_end {k : Nat} {S : Addr} {Q : Option Value → Shared → Prop} (ok : A.handled = none) (W1 : Wlk i1 ls1 n1 Y1 C1 S1) (W2 : Wlk i2 ls2 n2 Y2 C2 S2) (D : Ap z TI TO i1 i2 (ls1 ++ ls2)) (hz : Zst s.heap z TI TO i1 i2 S) (hTI : IsPair s.heap TI (.ref i1) (.ref i2))
    (m1 : S1 k s.heap) (m2 : S2 k s.heap) (c1 : C1 s.heap) (c2 : C2 s.heap) (hend : n1 ≤ k ∨ n2 ≤ k)
    (hQ : ∀ h' tk, (∀ c o, c ≠ z → c ≠ TO → c ≠ i1 → c ≠ i2 → s.heap.get? c = some o → h'.get? c = some o) → Q none { s with heap := h', toks := tk }) : wpAny (model prog w) A (pyNext (.ref z)) Q E s := by
  rcases hz with ⟨hz, a, b, hTO⟩ | ⟨T, f, oT, hz, hT, r1, r2, r3, r4⟩
  · exact zn_pyEnd ok W1 W2 D hz hTI hTO m1 m2 c1 c2 hend hQ
  · exact zh_pyEnd ok W1 W2 D hz hT hTI m1 m2 c1 c2 hend fun h' tk kp => hQ h' tk fun c o q1 _ q3 q4 x => kp c o q1 q3 q4 x
/-- the pairs that were laid -/
structure ZG (Y1 Y2 : Nat → Value → Prop) (lo : Addr) (h : Heap) (as : List Addr) : Prop where
  rise : as.Pairwise (· < ·)
  above : ∀ a ∈ as, lo < a
  pairs : ∀ (j : Nat) (a : Addr), as[j]? = some a → ∃ x y, Y1 j x ∧ Y2 j y ∧ IsPair h a x y
theorem ZG.there {lo : Addr} {h : Heap} {as : List Addr} (g : ZG Y1 Y2 lo h as) {a : Addr} (ha : a ∈ as) : a < h.objs.size := by
  obtain ⟨j, hj⟩ := List.mem_iff_getElem?.mp ha
  obtain ⟨_, _, _, _, e⟩ := g.pairs j a hj
  exact Heap.lt_size e
theorem zl_loop {R : Result → Shared → Prop} {S : Addr} (hh : A.handled = none) (W1 : Wlk i1 ls1 n1 Y1 C1 S1) (W2 : Wlk i2 ls2 n2 Y2 C2 S2) (D : Ap z TI TO i1 i2 (ls1 ++ ls2)) (h5 : z < S ∧ TI < S ∧ TO < S ∧ i1 < S ∧ i2 < S) (hls : ∀ c ∈ ls1 ++ ls2, c < S)
    (hn : min n1 n2 ≤ sizeLine) (res : Value) {h₁ : Heap}
    (hR : ∀ h' tk acc c as, (∀ b o, b ≠ S → b ≠ z → b ≠ TO → b ≠ i1 → b ≠ i2 → h₁.get? b = some o → h'.get? b = some o) → h'.get? S = some { cls := .type "list", dict := none, data := .seq acc c, slots := #[] } → as.length = min n1 n2 → ZG Y1 Y2 S h' as →
      acc.toList = as.map Value.ref → R (.ok (.ret res)) { s with heap := h', toks := tk }) :
    ∀ (k i : Nat) (h : Heap) (tk c : Nat) (acc : Array Value) (as : List Addr), min n1 n2 - i = k → i ≤ min n1 n2 → Zst h z TI TO i1 i2 S → IsPair h TI (.ref i1) (.ref i2) → S1 i h → S2 i h → C1 h → C2 h →
      (∀ b o, b ≠ S → b ≠ z → b ≠ TO → b ≠ i1 → b ≠ i2 → h₁.get? b = some o → h.get? b = some o) →
      h.get? S = some { cls := .type "list", dict := none, data := .seq acc c, slots := #[] } → acc.toList = as.map Value.ref → as.length = i → ZG Y1 Y2 S h as →
      codeAny (model prog w) A (.builtin "list.extend.loop" ⟨[.ref S, .ref z, res], []⟩) R { s with heap := h, toks := tk } := by
  obtain ⟨d1, d2, d3, d4, d5, d6, d7, d8, d9, d10⟩ := D.d
  obtain ⟨q1, q2, q3, q4, q5⟩ := h5
  have off : ∀ a, S < a → a ≠ z ∧ a ≠ TO ∧ a ≠ i1 ∧ a ≠ i2 ∧ a ≠ S := fun a ha => ⟨Nat.ne_of_gt (Nat.lt_trans q1 ha), Nat.ne_of_gt (Nat.lt_trans q3 ha), Nat.ne_of_gt (Nat.lt_trans q4 ha), Nat.ne_of_gt (Nat.lt_trans q5 ha), Nat.ne_of_gt ha⟩
  have eS : S ≠ z ∧ S ≠ TO ∧ S ≠ i1 ∧ S ≠ i2 ∧ S ≠ TI := ⟨Nat.ne_of_gt q1, Nat.ne_of_gt q3, Nat.ne_of_gt q4, Nat.ne_of_gt q5, Nat.ne_of_gt q2⟩
  intro k
  induction k with
  | zero =>
    intro i h tk c acc as hk hi hst hTI m1 m2 c1 c2 hkeep hS hacc hal hG
    have hin : i = min n1 n2 := by omega
    refine codeAny_builtin PySem.F.entry_extend_loop ?_
    rw [Around.under_plainId PySem.F.plain_extend_loop _]
    show wpAny _ A.in1 (pyNext (.ref z) >>= _) _ _ _
    refine wpAny_bind (zst_end (s := { s with heap := h, toks := tk }) (A := A.in1) hh W1 W2 D hst hTI m1 m2 c1 c2 (by omega) fun h' tk' he => ?_)
    refine wpAny_pure (hR h' tk' acc c as (fun b o a1 a2 a3 a4 a5 e => he b o a2 a3 a4 a5 (hkeep b o a1 a2 a3 a4 a5 e)) (he S _ eS.1 eS.2.1 eS.2.2.1 eS.2.2.2.1 hS) (by omega) ⟨hG.rise, hG.above, fun j a hj => ?_⟩ hacc)
    obtain ⟨x, y, e1, e2, e3⟩ := hG.pairs j a hj
    obtain ⟨f1, f2, f3, f4, f5⟩ := off a (hG.above a (List.mem_of_getElem? hj))
    exact ⟨x, y, e1, e2, he a _ f1 f2 f3 f4 e3⟩
  | succ k ih =>
    intro i h tk c acc as hk hi hst hTI m1 m2 c1 c2 hkeep hS hacc hal hG
    have hsz : acc.size = i := by rw [← Array.length_toList, hacc, List.length_map, hal]
    refine codeAny_builtin PySem.F.entry_extend_loop ?_
    rw [Around.under_plainId PySem.F.plain_extend_loop _]
    show wpAny _ A.in1 (pyNext (.ref z) >>= _) _ _ _
    refine wpAny_bind (zst_item (s := { s with heap := h, toks := tk }) (S := S) W1 W2 D hst (Heap.lt_size hS) hTI m1 m2 c1 c2 (by omega) (by omega) fun x y h' tk' yx yy hst' m1' m2' ht hkp => ?_)
    dsimp only at ht hkp ⊢
    have hS' := hkp S _ eS.1 eS.2.1 eS.2.2.1 eS.2.2.2.1 hS
    have up : ∀ b o, b ≠ S → h'.get? b = some o → (h'.update S (Obj.mapSeq (·.push (Value.ref h.objs.size)))).get? b = some o := fun b o hb e => (Heap.get?_update_other _ _ (Ne.symm hb)).trans e
    have hSl : S < h.objs.size := Heap.lt_size hS
    have hlsS : ∀ c ∈ ls1 ++ ls2, ∀ o, h.get? c = some o → (h'.update S (Obj.mapSeq (·.push (Value.ref h.objs.size)))).get? c = some o := fun c hc o e => up c o (Nat.ne_of_lt (hls c hc)) (hkp c o (D.l c hc).1 (D.l c hc).2.1 (D.l c hc).2.2.1 (D.l c hc).2.2.2 e)
    show wpAny _ A.in1 (updateSeq S (·.push (Value.ref h.objs.size)) >>= _) _ _ _
    refine wpAny_bind ?_
    refine wpAny_updateSeq hS' rfl (wpAny_pure ⟨plainId_quiet PySem.F.plain_extend_loop _, ih (i + 1) _ tk' _ (acc.push (Value.ref h.objs.size)) (as ++ [h.objs.size]) (by omega) (by omega) ?_ (up _ _ eS.2.2.2.2.symm (hkp _ _ d1 d5 d6 d7 hTI))
      (W1.keep m1' fun o e => up _ o eS.2.2.1.symm e) (W2.keep m2' fun o e => up _ o eS.2.2.2.1.symm e) (W1.keepC c1 fun c hc o e => hlsS c (List.mem_append_left _ hc) o e) (W2.keepC c2 fun c hc o e => hlsS c (List.mem_append_right _ hc) o e)
      (fun b o a1 a2 a3 a4 a5 e => up b o a1 (hkp b o a2 a3 a4 a5 (hkeep b o a1 a2 a3 a4 a5 e))) (Heap.get?_update_self _ hS' rfl) (by rw [Array.toList_push, hacc, List.map_append]; rfl) (by rw [List.length_append, hal]; rfl) ⟨?_, ?_, ?_⟩⟩) (by rw [hsz]; omega) (by show (acc.push (Value.ref h.objs.size)).size ≤ sizeLine + 1; rw [Array.size_push, hsz]; omega)
    · rcases hst' with ⟨a1, a, b, a2⟩ | ⟨T, f, oT, a1, a2, r1, r2, r3, r4⟩
      · exact .inl ⟨up _ _ eS.1.symm a1, a, b, up _ _ eS.2.1.symm a2⟩
      · exact .inr ⟨T, f, oT, up _ _ eS.1.symm a1, up _ _ r4 a2, r1, r2, r3, r4⟩
    · refine List.pairwise_append.mpr ⟨hG.rise, List.pairwise_singleton _ _, fun a ha b hb => ?_⟩
      rw [List.mem_singleton.mp hb]
      exact hG.there ha
    · intro a ha
      rcases List.mem_append.mp ha with ha | ha
      · exact hG.above a ha
      · rw [List.mem_singleton.mp ha]; exact hSl
    · intro j b hj
      rcases Nat.lt_trichotomy j as.length with h1 | h1 | h1
      · rw [List.getElem?_append_left h1] at hj
        obtain ⟨x', y', e1, e2, e3⟩ := hG.pairs j b hj
        obtain ⟨f1, f2, f3, f4, f5⟩ := off b (hG.above b (List.mem_of_getElem? hj))
        exact ⟨x', y', e1, e2, up b _ f5 (hkp b _ f1 f2 f3 f4 e3)⟩
      · subst h1
        have hb : h.objs.size = b := by simpa using hj
        subst hb
        exact ⟨x, y, by rw [hal]; exact yx, by rw [hal]; exact yy, up _ _ (Nat.ne_of_gt hSl) ht⟩
      · have hnone : (as ++ [h.objs.size])[j]? = none := List.getElem?_eq_none (by rw [List.length_append, List.length_singleton]; omega)
        rw [hnone] at hj; cases hj
theorem zip_no_len : typeLookup (.type "zip") "__len__" = pure none := by rw [typeLookup_type, builtinLookup_eq_fast]; kernel_rfl
theorem zip_no_hint : typeLookup (.type "zip") "__length_hint__" = pure none := by rw [typeLookup_type, builtinLookup_eq_fast]; kernel_rfl
theorem zl_call {Q : Value → Shared → Prop} (hh : A.handled = none) (W1 : Wlk i1 ls1 n1 Y1 C1 S1) (W2 : Wlk i2 ls2 n2 Y2 C2 S2) (D : Ap z TI TO i1 i2 (ls1 ++ ls2)) (hz : IsZip s.heap z TI TO .none) {a b : Value} (hTI : IsPair s.heap TI (.ref i1) (.ref i2)) (hTO : IsPair s.heap TO a b)
    (m1 : S1 0 s.heap) (m2 : S2 0 s.heap) (c1 : C1 s.heap) (c2 : C2 s.heap) (hls : ∀ c ∈ ls1 ++ ls2, c < s.heap.objs.size) (hn : min n1 n2 ≤ sizeLine)
    (hQ : ∀ h' tk acc c as, (∀ b o, b ≠ z → b ≠ TO → b ≠ i1 → b ≠ i2 → s.heap.get? b = some o → h'.get? b = some o) → h'.get? s.heap.objs.size = some { cls := .type "list", dict := none, data := .seq acc c, slots := #[] } → as.length = min n1 n2 → ZG Y1 Y2 s.heap.objs.size h' as →
      acc.toList = as.map Value.ref → Q (.ref s.heap.objs.size) { s with heap := h', toks := tk }) :
    wpAny (model prog w) A (call (.type "list") [.ref z]) Q E s := by
  refine callType_codes (Q₁ := fun obj s₁ => obj = .ref s.heap.objs.size ∧ s₁ = { s with heap := s.heap.push { cls := .type "list", data := .seq #[] } }) PySem.F.called_list (PySem.F.typeCall_list_1 _) PySem.F.entry_list_init
    (code_list_new _ ⟨rfl, rfl⟩) fun obj s₁ h₁ => ?_
  obtain ⟨rfl, rfl⟩ := h₁
  have hS : (s.heap.push { cls := .type "list", data := .seq #[] }).get? s.heap.objs.size = some { cls := .type "list", data := .seq #[] } := Heap.get?_push_size _ rfl
  obtain ⟨o1, f1, e1, _⟩ := W1.obj m1
  obtain ⟨o2, f2, e2, _⟩ := W2.obj m2
  have h5 : z < s.heap.objs.size ∧ TI < s.heap.objs.size ∧ TO < s.heap.objs.size ∧ i1 < s.heap.objs.size ∧ i2 < s.heap.objs.size := ⟨Heap.lt_size hz, Heap.lt_size hTI, Heap.lt_size hTO, Heap.lt_size e1, Heap.lt_size e2⟩
  have fin : ∀ (h : Heap) (c₁ : Nat), (∀ b o, b ≠ s.heap.objs.size → s.heap.get? b = some o → h.get? b = some o) → h.get? s.heap.objs.size = some { cls := .type "list", data := .seq #[] c₁ } →
      codeAny (model prog w) A.in1 (.builtin "list.extend.loop" ⟨[.ref s.heap.objs.size, .ref z, .none], []⟩) (fun r s' => ∃ f, r = .ok (.ret .none) ∧ f = s' ∧ Q (.ref s.heap.objs.size) s') { s with heap := h } := fun h c₁ kp hS₁ => by
    have up : ∀ b, b < s.heap.objs.size → ∀ o, s.heap.get? b = some o → h.get? b = some o := fun b hb o e => kp b o (Nat.ne_of_lt hb) e
    refine zl_loop (s := s) (h₁ := s.heap) (A := A.in1) hh W1 W2 D h5 hls hn .none (fun h' tk acc c as hk hS' hl hG hacc => ⟨_, rfl, rfl, hQ h' tk acc c as (fun b o a1 a2 a3 a4 e => hk b o (Nat.ne_of_lt (Heap.lt_size e)) a1 a2 a3 a4 e) hS' hl hG hacc⟩) _ 0 h s.toks c₁ #[] [] (Nat.sub_zero _) (Nat.zero_le _)
      (.inl ⟨up _ h5.1 _ hz, _, _, up _ h5.2.2.1 _ hTO⟩) (up _ h5.2.1 _ hTI) (W1.keep m1 fun o e => up _ h5.2.2.2.1 o e) (W2.keep m2 fun o e => up _ h5.2.2.2.2 o e) (W1.keepC c1 fun c hc o e => up c (hls c (List.mem_append_left _ hc)) o e) (W2.keepC c2 fun c hc o e => up c (hls c (List.mem_append_right _ hc)) o e)
      (fun b o a1 _ _ _ _ e => kp b o a1 e) hS₁ rfl rfl ⟨List.Pairwise.nil, (fun _ ha => nomatch ha), (fun j a hj => by simp at hj)⟩
  refine ⟨⟨_, hS, rfl⟩, PySem.F.args_list_init_2 _ _, ?_⟩
  show wpAny _ _ (do let old ← Builtin.List.listItems (.ref s.heap.objs.size); Builtin.List.listUpdate (.ref s.heap.objs.size) (fun _ => #[]); letGo old.toList.reverse; Builtin.List.listExtendWith (.ref s.heap.objs.size) (.ref z) .none) _ _ _
  refine wpAny_bind ?_
  unfold Builtin.List.listItems
  refine wpAny_bind (wpAny_seqItems hS rfl (wpAny_pure ?_))
  show wpAny _ _ (updateSeq s.heap.objs.size (fun _ => #[]) >>= fun _ => letGo (#[] : Array Value).toList.reverse >>= fun _ => Builtin.List.listExtendWith (.ref s.heap.objs.size) (.ref z) .none) _ _ _
  refine wpAny_bind (wpAny_updateSeq hS rfl ?_)
  have hS₂ := Heap.get?_update_self (Obj.mapSeq (fun _ => (#[] : Array Value))) hS rfl
  have oth : ∀ b o, b ≠ s.heap.objs.size → s.heap.get? b = some o → ((s.heap.push { cls := .type "list", data := .seq #[] }).update s.heap.objs.size (Obj.mapSeq (fun _ => (#[] : Array Value)))).get? b = some o :=
    fun b o hb e => (Heap.get?_update_other _ _ (Ne.symm hb)).trans (Heap.get?_push_of_some _ e)
  refine wpAny_bind (wpAny_letGo ?_)
  have hz₂ := oth _ _ (Nat.ne_of_lt h5.1) hz
  have hT : ∀ s' : Shared, s'.heap.get? z = some { cls := .type "zip", data := .fields #[.none, .bool false, .bool false, .ref TI, .ref TO] } → s'.TypeIs (.ref z) "zip" := fun s' e => ⟨_, e, rfl⟩
  unfold Builtin.List.listExtendWith
  refine wpAny_bind (wpAny_typeOf (hT _ hz₂) ?_)
  have k1 : Builtin.List.listSameRef (.ref s.heap.objs.size) (.ref z) = false := by simp [Builtin.List.listSameRef, Nat.ne_of_gt h5.1]
  have k2 : (Value.type "zip" == Value.type "list") = false := by decide
  have k3 : (Value.type "zip" == Value.type "tuple") = false := by decide
  simp only [k1, k2, k3, Bool.or_false, Bool.false_eq_true, if_false]
  refine wpAny_bind (wpAny_pyIter_zip hz₂ ?_)
  refine wpAny_bind (wpAny_holding ?_)
  unfold Builtin.List.listLengthHint
  refine wpAny_bind (wpAny_specialOf (hT _ hz₂) zip_no_len ?_)
  show wpAny _ _ (specialOf (Value.ref z) (Str.ofString "__length_hint__") >>= _) _ _ _
  refine wpAny_bind (wpAny_specialOf (hT _ hz₂) zip_no_hint ?_)
  refine wpAny_pure ?_
  show wpAny _ _ (rule "list.extend.makes-room" >>= fun _ => Builtin.List.listTouch (.ref s.heap.objs.size) >>= fun _ =>
    again (.builtin "list.extend.loop" ⟨[.ref s.heap.objs.size, .ref z, .none], []⟩)) _ _ _
  refine wpAny_bind (wpAny_rule ?_)
  refine wpAny_bind ?_
  show wpAny _ _ (updateSeq s.heap.objs.size (·.push .none) >>= fun _ => updateSeq s.heap.objs.size (·.pop)) _ _ _
  refine wpAny_bind (wpAny_updateSeq hS₂ rfl ?_)
  have hS₃ := Heap.get?_update_self (Obj.mapSeq (·.push Value.none)) hS₂ rfl
  refine wpAny_updateSeq (hz := by seq_fits) hS₃ rfl ?_
  have hS₄ := Heap.get?_update_self (Obj.mapSeq (·.pop)) hS₃ rfl
  refine wpAny_pure ⟨plainId_quiet PySem.F.plain_extend_loop _, codeAny_mono (fin _ _ (fun b o hb e => ?_) hS₄) fun r s' hr => ?_⟩
  · exact (Heap.get?_update_other _ _ (Ne.symm hb)).trans ((Heap.get?_update_other _ _ (Ne.symm hb)).trans (oth b o hb e))
  · obtain ⟨f, rfl, rfl, q⟩ := hr
    exact ⟨rfl, q⟩
end
end DL
namespace DL
open PySem PySem.Spec PyProof.Rows L2
def putP : Hp → List Addr → List (V × V) → Hp
  | H, a :: as, p :: kvs => putP (upd H a (.tup [p.1, p.2])) as kvs
  | H, _, _ => H
theorem putP_off {b : Addr} : ∀ (as : List Addr) (kvs : List (V × V)) (H : Hp), b ∉ as → putP H as kvs b = H b
  | [], _, _, _ => rfl
  | _ :: _, [], _, _ => rfl
  | a :: as, p :: kvs, H, h => by
    show putP (upd H a (.tup [p.1, p.2])) as kvs b = H b
    rw [putP_off as kvs _ (fun z => h (List.mem_cons_of_mem _ z)), upd_ne (fun z => h (by rw [z]; exact List.mem_cons_self))]
theorem putP_at : ∀ (as : List Addr) (kvs : List (V × V)) (H : Hp), as.length = kvs.length → as.Nodup → Paired (fun (t : Addr) (p : V × V) => putP H as kvs t = some (.tup [p.1, p.2])) as kvs
  | [], [], _, _, _ => .nil
  | [], _ :: _, _, h, _ => by cases h
  | _ :: _, [], _, h, _ => by cases h
  | a :: as, p :: kvs, H, h, hn => by
    have hn' := List.nodup_cons.mp hn
    have ih := putP_at as kvs (upd H a (.tup [p.1, p.2])) (Nat.succ.inj h) hn'.2
    refine .cons ?_ ih
    show putP (upd H a (.tup [p.1, p.2])) as kvs a = some (.tup [p.1, p.2])
    rw [putP_off as kvs _ hn'.1, upd_same]
theorem grow_putP : ∀ (as : List Addr) (kvs : List (V × V)) (G H : Hp), Pub G H → as.Nodup → (∀ a ∈ as, H a = none) → Grow G H (putP G as kvs) (putP H as kvs)
  | [], _, _, _, p, _, _ => Grow.refl p
  | _ :: _, [], _, _, p, _, _ => Grow.refl p
  | a :: as, k :: kvs, G, H, p, hn, hf => by
    have hn' := List.nodup_cons.mp hn
    have g1 : Grow G H (upd G a (.tup [k.1, k.2])) (upd H a (.tup [k.1, k.2])) := Grow.new1 p (hf a List.mem_cons_self)
    refine g1.trans (grow_putP as kvs _ _ g1.pub hn'.2 fun b hb => ?_)
    rw [upd_ne (fun z => hn'.1 (by rw [← z]; exact hb))]
    exact hf b (List.mem_cons_of_mem _ hb)
section
variable {X : Cx} {pins : List (Addr × Obj)} {σ : L2.St} {H : Hp} {s : Shared} {h' : Heap}
/-- several records of ours have turned, and new objects are laid -/
theorem turnedMany {t' : Nat} {ch : List Addr} {H' : Hp} (I : Inv X pins σ H s) (k : ∀ b o, b ∉ ch → s.heap.get? b = some o → h'.get? b = some o) (hf : ∀ b ∈ ch, FpOk X pins H b) (low : ∀ b, b < s.heap.objs.size → H' b = H b)
    (new : ∀ b u, s.heap.objs.size ≤ b → H' b = some u → ObjOk X.prog X.w H' h' b u) : Inv X pins σ H' { s with heap := h', toks := t' } := by
  have nit : ∀ b u, H b = some u → b ∉ ch := fun b u e z => by
    have q := (hf b z).1
    rw [q] at e; cases e
  have lo : ∀ b u, H b = some u → b < s.heap.objs.size := fun b u e => Nat.lt_of_not_le fun z => by
    rw [I.hok.fresh z] at e; cases e
  have up : ∀ b u, H b = some u → H' b = some u := fun b u e => (low b (lo b u e)).trans e
  refine I.step (g' := s.gens) (d' := s.drawn) (ch := ch) (fun b hb => ⟨(hf b hb).2.2.2.1, (hf b hb).2.1, (hf b hb).2.2.2.2.1, (hf b hb).2.2.2.2.2⟩) (fun b o _ _ hc e _ => k b o hc e) (fun b o _ _ hc e _ => ⟨o.slots, k b o hc e⟩)
    (fun b o _ e n => ?_) (fun b o hc e => ⟨o, k b o hc e⟩) (fun b xs e => up b _ e) (fun b o u e => up b _ e) (fun b ps e => ⟨#[], ?_⟩) (fun m hm => ?_) (fun b u e => ?_) I.bare
  · rw [low b (Heap.lt_size e)]; exact n
  · rw [up b _ e]; simp
  · obtain ⟨o, es, ep, ho, r⟩ := hm
    exact ⟨o, es, ep, k _ o (fun z => (hf _ z).2.1 rfl) ho, r⟩
  · by_cases hb : b < s.heap.objs.size
    · have e2 : H b = some u := (low b hb).symm.trans e
      refine (I.hok b u e2).stay (fun c v hc q => k c v ?_ q) (fun c q => up c _ q) fun c xs q => up c _ q
      rcases hc with z | z
      · rw [z]; exact nit b u e2
      · exact nit c _ z
    · exact new b u (Nat.le_of_not_lt hb) e
theorem pairs_laid {Y1 Y2 : Nat → Value → Prop} {us ws : List V} {ch : List Addr} {tk c : Nat} {acc : Array Value} {as : List Addr} (I : Inv X pins σ H s) (k : ∀ b o, b ∉ ch → s.heap.get? b = some o → h'.get? b = some o) (hf : ∀ b ∈ ch, FpOk X pins H b)
    (y1 : ∀ j v, Y1 j v → ∃ x, us[j]? = some x ∧ RelV x v) (y2 : ∀ j v, Y2 j v → ∃ x, ws[j]? = some x ∧ RelV x v) (hz : (us.zip ws).length ≤ sizeLine) (hS : h'.get? s.heap.objs.size = some { cls := .type "list", dict := none, data := .seq acc c, slots := #[] })
    (hl : as.length = (us.zip ws).length) (hG : ZG Y1 Y2 s.heap.objs.size h' as) (hacc : acc.toList = as.map Value.ref) :
    as.Nodup ∧ s.heap.objs.size ∉ as ∧ (∀ a ∈ as, H a = none) ∧ H s.heap.objs.size = none ∧ Inv X pins σ (upd (putP H as (us.zip ws)) s.heap.objs.size (.lst (as.map V.ref))) { s with heap := h', toks := tk } := by
  have hSn : s.heap.objs.size ∉ as := fun z => Nat.lt_irrefl _ (hG.above _ z)
  have nd : as.Nodup := List.Pairwise.imp (fun {a b} (h : a < b) => Nat.ne_of_lt h) hG.rise
  have atP := putP_at as (us.zip ws) H hl nd
  refine ⟨nd, hSn, fun t ht => I.hok.fresh (Nat.le_of_lt (hG.above t ht)), I.hok.fresh (Nat.le_refl _), turnedMany I k hf (fun b hb => ?_) fun b u hb e => ?_⟩
  · rw [upd_ne (Nat.ne_of_lt hb), putP_off _ _ _ fun z => Nat.lt_irrefl _ (Nat.lt_trans hb (hG.above b z))]
  · by_cases hbS : b = s.heap.objs.size
    · subst hbS
      rw [upd_same] at e
      cases e
      refine ⟨by rw [List.length_map]; omega, acc.toList, c, by rw [hacc]; exact LiI.vals_refs as, ?_⟩
      rw [Array.toArray_toList]
      exact hS
    · rw [upd_ne hbS] at e
      by_cases hba : b ∈ as
      · obtain ⟨j, pk, e1, e2, e3⟩ := LiI.paired_ix atP hba
        rw [e3] at e
        cases e
        obtain ⟨x, y, f1, f2, f3⟩ := hG.pairs j b e1
        obtain ⟨x', g1, r1⟩ := y1 j x f1
        obtain ⟨y', g2, r2⟩ := y2 j y f2
        have e4 := List.getElem?_zip_eq_some.mp e2
        rw [g1] at e4
        rw [g2] at e4
        have h1 := Option.some.inj e4.1
        have h2 := Option.some.inj e4.2
        exact ⟨by show 2 ≤ sizeLine; decide, [x, y], .cons (h1 ▸ r1) (.cons (h2 ▸ r2) .nil), ⟨_, f3, rfl, _, rfl⟩⟩
      · rw [putP_off _ _ _ hba, I.hok.fresh hb] at e
        cases e
def tListZip (K : PySem.W.Frag) (ta : TA) : TE := fun σ H Q => ta σ H fun vs H1 => ∃ c d us ws, vs = [c.v, d.v] ∧ CpIt K H1 c us ∧ CpIt K H1 d ws ∧ (us.zip ws).length ≤ sizeLine ∧
  ∀ p ts, ts.Nodup → p ∉ ts → (∀ t ∈ ts, H1 t = none) → H1 p = none → ts.length = (us.zip ws).length → Q (.ref p) (upd (putP H1 ts (us.zip ws)) p (.lst (ts.map V.ref)))
theorem pe_listZip {e e2 : Expr} {ta : TA} {p p2 pos pos2 : Pos} (hc : X.calm = true) (hgl : Gl X "list") (hml : X.mg "list" = none) (hg : Gl X "zip") (hm : X.mg "zip" = none) (ha : PA X [e, e2] ta)
    (hs0 : starEach [.Call (.Name "zip" p) [e, e2] [] pos] X.env = (false, eval (.Call (.Name "zip" p) [e, e2] [] pos) X.env) :: starEach [] X.env := by rfl)
    (hs : starEach [e, e2] X.env = (false, eval e X.env) :: starEach [e2] X.env := by rfl) (hpl : (backTo pos (starEach [e2] X.env)).any (·.1) = false := by rfl) :
    PE X (.Call (.Name "list" p2) [.Call (.Name "zip" p) [e, e2] [] pos] [] pos2) (tListZip X.K ta) := by
  have hb : bootBuiltins "list" = some (.type "list") := by decide +kernel
  refine ⟨fun pins s σ H Q I h => ?_⟩
  refine wpAny_Call_Name_kw (ld_blt I hgl hml hb ?_)
  refine PyProof.Rows.callWith_type1 ?_ hs0 rfl
  rw [hs0]
  show wpAny _ _ (spliced ((false, eval (.Call (.Name "zip" p) [e, e2] [] pos) X.env) :: backTo pos2 (starEach [] X.env))) _ _ s
  refine Calls.spliced_cons ?_
  refine Call_ (ld_blt I hg hm boot_zip (callWith_type1 (thn (ha.run pos pins s σ H _ I h) fun us s1 ⟨vs, H1, I1, r1, q1⟩ => ?_) hs hpl))
  obtain ⟨c, d, xs, ys, rfl, hqx, hqy, hz, q⟩ := q1
  cases r1 with
  | cons ra rr =>
    cases rr with
    | cons rb rr =>
      cases rr
      obtain ⟨o1, C1, j1, c1, f1, k1⟩ := cp_start I1 hqx ra
      obtain ⟨o2, C2, j2, c2, f2, k2⟩ := cp_start I1 hqy rb
      obtain ⟨S1, p1, z1⟩ := k1 s1.heap.objs.size
      obtain ⟨S2, p2, z2⟩ := k2 (s1.heap.objs.size + 1)
      refine zn_call j1 j2 c1 c2 (fun h' hzz hTI hTO g1 g2 hk => ?_) f1 f2
      have I2 : Inv X pins σ H1 { s1 with heap := h' } := I1.kept (t' := s1.toks) hk
      refine Calls.spliced_nil ?_
      obtain ⟨ls1, Y1, D1, a1, W1, co1, y1⟩ := p1.wk X rfl rfl rfl pins _ σ H1 xs I2 hqx
      obtain ⟨ls2, Y2, D2, a2, W2, co2, y2⟩ := p2.wk X rfl rfl rfl pins _ σ H1 ys I2 hqy
      have zl : s1.heap.objs.size + 4 < h'.objs.size := Heap.lt_size hzz
      have lts : ∀ c ∈ ls1 ++ ls2, c < s1.heap.objs.size := fun c hc => by
        rcases List.mem_append.mp hc with h | h
        · exact a1 c h
        · exact a2 c h
      have D : Ap (s1.heap.objs.size + 4) (s1.heap.objs.size + 2) (s1.heap.objs.size + 3) s1.heap.objs.size (s1.heap.objs.size + 1) (ls1 ++ ls2) := ⟨by simp, fun c hc => ap_lt _ c (lts c hc)⟩
      have lz : min xs.length ys.length ≤ sizeLine := by rw [← List.length_zip]; exact hz
      refine zl_call (s := { s1 with heap := h' }) (I1.ok.hd hc) W1 W2 D hzz hTI hTO (z1 _ g1) (z2 _ g2) co1 co2 (fun c hc => Nat.lt_trans (lts c hc) (by show s1.heap.objs.size < h'.objs.size; omega)) lz fun h2 tk acc cc as hk2 hS2 hl2 hG2 hacc => ?_
      have zok : (us : List Value) → True := fun _ => trivial
      obtain ⟨b1, b2, b3, b4, b5⟩ := pairs_laid (tk := tk) (ch := [s1.heap.objs.size + 4, s1.heap.objs.size + 3, s1.heap.objs.size, s1.heap.objs.size + 1]) I2
        (fun b o hb e => hk2 b o (fun z => hb (by simp [z])) (fun z => hb (by simp [z])) (fun z => hb (by simp [z])) (fun z => hb (by simp [z])) e)
        (fun b hb => by
          have le : s1.heap.objs.size ≤ b := by
            simp only [List.mem_cons, List.not_mem_nil, or_false] at hb
            rcases hb with rfl | rfl | rfl | rfl
            · exact Nat.le_add_right _ _
            · exact Nat.le_add_right _ _
            · exact Nat.le_refl _
            · exact Nat.le_add_right _ _
          exact I1.fpOk le (I1.hok.fresh le)) y1 y2 hz hS2 (by rw [hl2, List.length_zip]) hG2 hacc
      exact ⟨.ref _, _, b5, rfl, q _ as b1 b2 b3 b4 (by rw [hl2, List.length_zip])⟩
/-! ### at the level of data -/
def strq : D → Bool
  | .str _ => true
  | _ => false
def mListZip (a : MA) : MF := fun env P => a env fun as e1 => match as with
  | [.d x, .d y] => ∃ xs ys, itD x = some xs ∧ itD y = some ys ∧ xs.length ≤ 1000000 ∧ P (zipD xs ys) e1
  | _ => False
theorem dr_pairs {K : PySem.W.Frag} {G : Hp} : ∀ {ts : List Addr} {us ws : List V} {xs ys : List D}, Paired (fun (t : Addr) (p : V × V) => G t = some (.tup [p.1, p.2])) ts (us.zip ws) → DrAll K G us xs → DrAll K G ws ys → DrAll K G (ts.map V.ref) (zipD xs ys)
  | [], [], _, [], _, _, .nil, _ => .nil
  | [], _ :: _, [], _ :: _, [], _, .cons _ _, .nil => .nil
  | t :: ts, u :: us, v :: ws, x :: xs, y :: ys, .cons h1 h2, .cons a1 a2, .cons b1 b2 => .cons (.tup (SqT.of h1) (.cons a1 (.cons b1 .nil))) (dr_pairs h2 a2 b2)
theorem gf_listZip {e e2 : Expr} {m1 : MA} {n1 : Nat} {p p2 pos pos2 : Pos} (hc : X.calm = true) (hgl : Gl X "list") (hml : X.mg "list" = none) (hg : Gl X "zip") (hm : X.mg "zip" = none) (ha : GA X [e, e2] n1 m1)
    (hs0 : starEach [.Call (.Name "zip" p) [e, e2] [] pos] X.env = (false, eval (.Call (.Name "zip" p) [e, e2] [] pos) X.env) :: starEach [] X.env := by rfl)
    (hs : starEach [e, e2] X.env = (false, eval e X.env) :: starEach [e2] X.env := by rfl) (hpl : (backTo pos (starEach [e2] X.env)).any (·.1) = false := by rfl) :
    GF X (.Call (.Name "list" p2) [.Call (.Name "zip" p) [e, e2] [] pos] [] pos2) n1 (mListZip m1) := pe_imp (pe_listZip hc hgl hml hg hm ha hs0 hs hpl) fun σ H Q h => by
  obtain ⟨W, B, G0, H0, G, env, P, R, hm1, q⟩ := h
  refine ⟨W, B, G0, H0, G, env, _, R, hm1, fun as e1 us G1 H1 p1 s1 R1 a1 => ?_⟩
  split at p1
  · obtain ⟨xs, ys, hx, hy, hle, hP⟩ := p1
    cases a1 with
    | cons x1 y1 =>
      cases y1 with
      | cons y1 z1 =>
        cases z1
        obtain ⟨c, vs, rfl, h1, h2⟩ := cp_of x1 hx
        obtain ⟨d, ws, rfl, k1, k2⟩ := cp_of y1 hy
        have l1 := dpAll_len h2
        refine ⟨c, d, vs, ws, rfl, h1 _ R1.pub, k1 _ R1.pub, ?_, fun t ts nd tn tf tp tl => ?_⟩
        · rw [List.length_zip]
          have : (1000000 : Nat) ≤ sizeLine := by decide
          omega
        · have g := grow_putP ts (vs.zip ws) G1 H1 R1.pub nd tf
          have R2 := R1.grow g
          have pt : putP H1 ts (vs.zip ws) t = none := by rw [putP_off _ _ _ tn]; exact tp
          obtain ⟨R3, f1, f2, f3, f4⟩ := R2.fresh (o := .lst (ts.map V.ref)) pt
          exact q _ _ _ _ _ hP (s1.trans g.eg) R3 ⟨_, upd_same, f1, f2, f3, f4, (dr_pairs (putP_at ts (vs.zip ws) G1 tl nd) (dpAll_same g.eg h2) (dpAll_same g.eg k2))⟩
  · exact p1.elim
end
end DL
namespace DL
open PySem PySem.Spec PyProof.Rows L2
/-! ### calls whose arguments are named in another order -/
def pick {α : Type} (ix : List Nat) (l : List α) : List α := ix.filterMap fun i => l[i]?
def gP (ix : List Nat) (as bs : List EV) : List EV := pick ix (as ++ bs)
theorem vals_at : ∀ {vs : List V} {us : List Value}, Vals vs us → ∀ i : Nat, (vs[i]? = none ∧ us[i]? = none) ∨ ∃ v u, vs[i]? = some v ∧ us[i]? = some u ∧ RelV v u
  | _, _, .nil, i => .inl ⟨rfl, rfl⟩
  | _, _, .cons r t, 0 => .inr ⟨_, _, rfl, rfl, r⟩
  | _, _, .cons r t, i + 1 => by simpa using vals_at t i
theorem vals_pick {vs : List V} {us : List Value} (h : Vals vs us) : ∀ ix : List Nat, Vals (pick ix vs) (pick ix us)
  | [] => .nil
  | i :: ix => by
    have ih := vals_pick h ix
    rcases vals_at h i with ⟨e1, e2⟩ | ⟨v, u, e1, e2, r⟩
    · unfold pick at ih ⊢
      rw [List.filterMap_cons, List.filterMap_cons, e1, e2]
      exact ih
    · unfold pick at ih ⊢
      rw [List.filterMap_cons, List.filterMap_cons, e1, e2]
      exact .cons r ih
section
variable {P : Program} {w : World} {K : PySem.W.Frag} {mg : Str → Option Value} {base h : Heap}
theorem args_at {W : Wk} {G : Hp} : ∀ {vs : List V} {as : List EV}, ArgsOk K W G vs as → ∀ i : Nat, (vs[i]? = none ∧ as[i]? = none) ∨ ∃ v a, vs[i]? = some v ∧ as[i]? = some a ∧ ArgsOk K W G [v] [a]
  | _, _, .nil, i => .inl ⟨rfl, rfl⟩
  | _, _, .cons r t, 0 => .inr ⟨_, _, rfl, rfl, .cons r .nil⟩
  | _, _, .cons r t, i + 1 => by simpa using args_at t i
theorem args_pick {W : Wk} {G : Hp} {vs : List V} {as : List EV} (h : ArgsOk K W G vs as) : ∀ ix : List Nat, ArgsOk K W G (pick ix vs) (pick ix as)
  | [] => .nil
  | i :: ix => by
    have ih := args_pick h ix
    rcases args_at h i with ⟨e1, e2⟩ | ⟨v, u, e1, e2, r⟩
    · unfold pick at ih ⊢
      rw [List.filterMap_cons, List.filterMap_cons, e1, e2]
      exact ih
    · unfold pick at ih ⊢
      rw [List.filterMap_cons, List.filterMap_cons, e1, e2]
      cases r with
      | cons r1 r2 => exact .cons r1 ih
theorem kn_p {st : Stmt} {k n c : Nat} {x : Str} {ps ks : List Str} {sp : List EV → (D → Prop) → Prop} (ix : List Nat) (X : K.In h) (G : h.Ns mainGlobals mg) (d : Df K x st)
    (hb : ∀ (kV doc pm : Value) (an : Option Addr) (cdv ct : Value) (us ws : List Value), us.length = n → ws.length = ks.length → bindArgs (PySem.W.fnOf x x (defArgs st) (defBody st) (defScope st) .none kV doc pm an cdv ct) ⟨us, ks.zip ws⟩ = pure (ps.zip (pick ix (us ++ ws))))
    (hF : ∀ f fd, Fun K x x st f fd → FnG P w K mg base CX0 k f fd ps (spD K c sp)) : CalN P w K mg base x k n ks c (gP ix) sp := by
  obtain ⟨f, fd, a, F⟩ := d.ex
  refine ⟨f, fd, ps, fun us ws => pick ix (us ++ ws), fun us ws => pick ix (us ++ ws), hF f fd F, PySem.W.mg_of X G a, F.kp, ⟨fun s us ws _ l1 l2 => ?_, fun r1 r2 => vals_pick (r1.append r2) ix⟩, fun W G vs zs as bs h1 h2 _ _ => args_pick (args_app h1 h2) ix⟩
  obtain ⟨oc, od, kV, doc, pm, an, cdv, ct, osl, rfl, lk, hcd⟩ := F.ex
  exact .of_eq (hb kV doc pm an cdv ct us ws l1 l2)
end
/-! ### the bits of ints -/
def dI2 (c : Int → Int → Prop) (f : Int → Int → Int) : D → D → (D → Prop) → Prop
  | .int i, .int j, P => c i j ∧ P (.int (f i j))
  | _, _, _ => False
section
variable {X : Cx}
theorem od_i2 {op : Value → Value → PySem.Sem Value} {c : Int → Int → Prop} {f : Int → Int → Int} (h : OpR X op (rI c fun i j => .int (f i j))) : OpR X op (rD2 X.K (dI2 c f)) := by
  intro pins s σ H x y v u Q I rx ry z
  obtain ⟨G, dx, dy, P, sG, d1, d2, hf, q⟩ := z
  unfold dI2 at hf
  split at hf
  · cases dp_int d1
    cases dp_int d2
    exact h pins s σ H _ _ v u Q I rx ry ⟨_, _, rfl, rfl, hf.1, q _ _ G H hf.2 (Grow.refl sG) (.int _)⟩
  · exact hf.elim
theorem od_i0 {op : Value → Value → PySem.Sem Value} {f : Int → Int → Int} (h : OpR X op (rI0 fun i j => .int (f i j))) : OpR X op (rD2 X.K (dI2 (fun _ _ => True) f)) := by
  intro pins s σ H x y v u Q I rx ry z
  obtain ⟨G, dx, dy, P, sG, d1, d2, hf, q⟩ := z
  unfold dI2 at hf
  split at hf
  · cases dp_int d1
    cases dp_int d2
    exact h pins s σ H _ _ v u Q I rx ry ⟨_, _, rfl, rfl, q _ _ G H hf.2 (Grow.refl sG) (.int _)⟩
  · exact hf.elim
theorem od_shr : OpR X (binaryOp .RShift) (rD2 X.K (dI2 (fun _ j => 0 ≤ j) fun i j => i / 2 ^ j.toNat)) := od_i2 op_shr
theorem od_shl : OpR X (binaryOp .LShift) (rD2 X.K (dI2 CPow fun i j => i * 2 ^ j.toNat)) := od_i2 op_shl
theorem od_and : OpR X (binaryOp .BitAnd) (rD2 X.K (dI2 (fun _ _ => True) Builtin.bitAnd)) := od_i0 op_and
theorem od_or : OpR X (binaryOp .BitOr) (rD2 X.K (dI2 (fun _ _ => True) Builtin.bitOr)) := od_i0 op_or
theorem od_xor : OpR X (binaryOp .BitXor) (rD2 X.K (dI2 (fun _ _ => True) Builtin.bitXor)) := od_i0 op_xor
end
end DL
namespace DL
open PySem PySem.Spec PyProof.Rows L2
/-! ### dicts in order -/
theorem putKD_new {k : Key} {y : D} : ∀ {ks : List (Key × D)}, k ∉ ks.map (·.1) → putKD ks k y = ks ++ [(k, y)]
  | [], _ => rfl
  | (g, x) :: r, h => by
    rw [List.map_cons, List.mem_cons, not_or] at h
    unfold putKD
    rw [if_neg (fun z => h.1 z.symm), putKD_new h.2]
    rfl
theorem mergeKD_new : ∀ {more ks : List (Key × D)}, ((ks ++ more).map (·.1)).Nodup → mergeKD ks more = ks ++ more
  | [], ks, _ => by rw [List.append_nil]; rfl
  | (k, y) :: more, ks, h => by
    have h' : ((ks ++ [(k, y)]) ++ more).map (·.1) = (ks ++ (k, y) :: more).map (·.1) := by rw [List.append_assoc]; rfl
    have e : putKD ks k y = ks ++ [(k, y)] := putKD_new fun z => by
      rw [List.map_append, List.map_cons] at h
      exact (List.nodup_append.mp h).2.2 _ z _ List.mem_cons_self rfl
    show mergeKD (putKD ks k y) more = _
    rw [e, mergeKD_new (by rw [h']; exact h), List.append_assoc]
    rfl
/-- a put at a key that is there -/
theorem putKD_map {α : Type} [DecidableEq α] {kf : α → Key} {v : α → D} {a : α} {y : D} (inj : ∀ x y, kf x = kf y → x = y) : ∀ {ks : List α}, a ∈ ks → ks.Nodup → putKD (ks.map fun x => (kf x, v x)) (kf a) y = ks.map fun x => (kf x, if x = a then y else v x)
  | [], h, _ => by cases h
  | b :: r, h, hn => by
    have hn' := List.nodup_cons.mp hn
    rw [List.map_cons, List.map_cons]
    unfold putKD
    by_cases e : b = a
    · subst e
      rw [if_pos rfl, if_pos rfl]
      congr 1
      refine List.map_congr_left fun x hx => ?_
      rw [if_neg (fun z => hn'.1 (by rw [← z]; exact hx))]
    · rw [if_neg (fun z => e (inj _ _ z)), if_neg e, putKD_map inj ((List.mem_cons.mp h).resolve_left fun z => e z.symm) hn'.2]
theorem valDD_kvs : ∀ (ks : List (Key × D)) (k : Key), valDD (kvsD ks) k = valKD ks k
  | [], _ => rfl
  | (g, x) :: r, k => by
    show (if keyOf (keyD g) = some k then some x else valDD (kvsD r) k) = (if g = k then some x else valKD r k)
    rw [keyOf_keyD, valDD_kvs r k]
    by_cases e : g = k
    · rw [if_pos e, if_pos (by rw [e])]
    · rw [if_neg e, if_neg (fun z => e (Option.some.inj z))]
theorem valKD_map {α : Type} {kf : α → Key} {v : α → D} {a : α} (inj : ∀ x y, kf x = kf y → x = y) : ∀ {ks : List α}, a ∈ ks → valKD (ks.map fun x => (kf x, v x)) (kf a) = some (v a)
  | [], h => by cases h
  | b :: r, h => by
    rw [List.map_cons]
    unfold valKD
    by_cases e : kf b = kf a
    · rw [if_pos e, inj _ _ e]
    · rw [if_neg e]
      exact valKD_map inj ((List.mem_cons.mp h).resolve_left fun z => e (by rw [z]))
/-! ### dict comprehensions whose turns are a function's -/
def dcStep (g : MG) (tt : MT) (tk te : ME) (vs : List Nat) (env : DEnv) (x : D) (k : Option (Key × D) → Prop) : Prop := g x (wipeE env vs) fun e1 => tt e1 fun b e2 => e2 = e1 ∧ match b with
  | true => tk e2 fun y e3 => e3 = e2 ∧ te e3 fun z e4 => e4 = e3 ∧ ∃ kk, keyOf y = some kk ∧ k (some (kk, z))
  | false => k none
section
variable {g : MG} {tt : MT} {tk te : ME} {vs : List Nat} {env : DEnv}
theorem dcl_fun (f : D → Option (Key × D)) : ∀ (xs : List D) (acc : List (Key × D)) {P : List (Key × D) → Prop}, (∀ x ∈ xs, ∀ k : Option (Key × D) → Prop, k (f x) → dcStep g tt tk te vs env x k) → acc.length + xs.length ≤ sizeLine →
    ((acc ++ xs.filterMap f).map (·.1)).Nodup → P (acc ++ xs.filterMap f) → mDcL g tt tk te vs xs acc env P
  | [], acc, P, _, _, _, hP => by
    rw [List.filterMap_nil, List.append_nil] at hP
    exact hP
  | x :: xs, acc, P, hx, hl, hn, hP => by
    rw [List.length_cons] at hl
    refine hx x List.mem_cons_self (fun o => match o with
      | some p => (acc.length < sizeLine ∧ (acc.map (·.1)).Nodup) ∧ mDcL g tt tk te vs xs (putKD acc p.1 p.2) env P
      | none => mDcL g tt tk te vs xs acc env P) ?_
    have na : (acc.map (·.1)).Nodup := by
      rw [List.map_append] at hn
      exact (List.nodup_append.mp hn).1
    cases e : f x with
    | none =>
      rw [List.filterMap_cons, e] at hn hP
      exact dcl_fun f xs acc (fun z hz => hx z (List.mem_cons_of_mem _ hz)) (by omega) hn hP
    | some p =>
      rw [List.filterMap_cons, e] at hn hP
      have h' : ((acc ++ [p]) ++ xs.filterMap f) = (acc ++ p :: xs.filterMap f) := by rw [List.append_assoc]; rfl
      have e2 : putKD acc p.1 p.2 = acc ++ [p] := putKD_new fun z => by
        rw [List.map_append, List.map_cons] at hn
        exact (List.nodup_append.mp hn).2.2 _ z _ List.mem_cons_self rfl
      refine ⟨⟨by omega, na⟩, ?_⟩
      rw [e2]
      exact dcl_fun f xs (acc ++ [p]) (fun z hz => hx z (List.mem_cons_of_mem _ hz)) (by rw [List.length_append, List.length_cons, List.length_nil]; omega) (by rw [h']; exact hn) (by rw [h']; exact hP)
end
section
variable {g : MG} {tt : MT} {te : ME} {vs : List Nat} {env : DEnv}
/-- each turn's item, if there is one, is such a one -/
theorem lcl_opt (A : D → Prop) : ∀ (xs acc : List D) {P : List D → Prop}, (∀ x ∈ xs, ∀ k : Option D → Prop, k none → (∀ y, A y → k (some y)) → lcStep g tt te vs env x k) → acc.length + xs.length ≤ sizeLine →
    (∀ ys, ys.length ≤ xs.length → (∀ y ∈ ys, A y) → P (acc ++ ys)) → mLcL g tt te vs xs acc env P
  | [], acc, P, _, _, hP => by
    have := hP [] (Nat.le_refl _) (fun y hy => by cases hy)
    rw [List.append_nil] at this
    exact this
  | x :: xs, acc, P, hx, hl, hP => by
    rw [List.length_cons] at hl
    refine lcl_cons (hx x List.mem_cons_self _ ?_ fun y hy => ?_)
    · exact lcl_opt A xs acc (fun z hz => hx z (List.mem_cons_of_mem _ hz)) (by omega) fun ys h1 h2 => hP ys (by rw [List.length_cons]; omega) h2
    · refine ⟨by omega, lcl_opt A xs (acc ++ [y]) (fun z hz => hx z (List.mem_cons_of_mem _ hz)) (by rw [List.length_append, List.length_cons, List.length_nil]; omega) fun ys h1 h2 => ?_⟩
      rw [List.append_assoc]
      refine hP (y :: ys) (by rw [List.length_cons, List.length_cons]; omega) fun z hz => ?_
      rcases List.mem_cons.mp hz with rfl | hz
      · exact hy
      · exact h2 z hz
end
theorem hu2_of {k : Nat} {A : Around} (r : Room k A) : A.units + 65 < cLine := by have := r.un; omega
theorem ix0 {i : Nat} {env : DEnv} {x : D} {xs : List D} {Pd : D → DEnv → Prop} (h : env[i]? = some (.d (.tuple (x :: xs)))) (p : Pd x env) : mOp dIx (mVar i) (mC (.int 0)) env Pd := by
  unfold mOp mVar
  rw [h]
  exact ⟨x, atI_nat (j := 0) rfl, p⟩
/-- x[0] == 'text' as a test, as a condition -/
theorem if_ix {i : Nat} {env : DEnv} {z u : Str} {xs : List D} {a b : MS} {E : DEnds} (h : env[i]? = some (.d (.tuple (.str z :: xs)))) (h1 : z = u → a E env) (h2 : z ≠ u → b E env) : sIf (mCmpT cEq (mOp dIx (mVar i) (mC (.int 0))) (mC (.str u))) a b E env := by
  unfold sIf mCmpT
  exact ix0 h (dec_ite h1 h2)
theorem mif_ix {i : Nat} {env : DEnv} {z u : Str} {xs : List D} {a b : ME} {Pd : D → DEnv → Prop} (h : env[i]? = some (.d (.tuple (.str z :: xs)))) (h1 : z = u → a env Pd) (h2 : z ≠ u → b env Pd) : mIf (mCmpT cEq (mOp dIx (mVar i) (mC (.int 0))) (mC (.str u))) a b env Pd := by
  unfold mIf mCmpT
  exact ix0 h (dec_ite h1 h2)
theorem if_str {i : Nat} {env : DEnv} {z u : Str} {a b : MS} {E : DEnds} (h : env[i]? = some (.d (.str z))) (h1 : z = u → a E env) (h2 : z ≠ u → b E env) : sIf (mCmpT cEq (mVar i) (mC (.str u))) a b E env := by
  unfold sIf mCmpT mVar
  rw [h]
  exact dec_ite h1 h2
theorem take_snoc {α : Type} : ∀ {xs : List α} {i : Nat} {x : α}, xs[i]? = some x → xs.take (i + 1) = xs.take i ++ [x]
  | [], _, _, h => by cases h
  | y :: ys, 0, x, h => by cases h; rfl
  | y :: ys, i + 1, x, h => by
    show y :: ys.take (i + 1) = y :: (ys.take i ++ [x])
    rw [take_snoc (xs := ys) (by simpa using h)]
theorem pairs_get {xs : List D} {i : Nat} {y : D} (h : (pairs xs)[i]? = some y) : ∃ x, xs[i]? = some x ∧ y = .tuple [.int (i : Int), x] := by
  unfold pairs at h
  rw [List.getElem?_mapIdx, Option.map_eq_some_iff] at h
  obtain ⟨x, h1, h2⟩ := h
  exact ⟨x, h1, h2.symm⟩
theorem pairsD_len (xs : List D) : (pairs xs).length = xs.length := by
  unfold pairs
  exact List.length_mapIdx
def pairsF : Nat → List D → List D
  | _, [] => []
  | k, x :: xs => .tuple [.int (k : Int), x] :: pairsF (k + 1) xs
theorem pairsF_get : ∀ {xs : List D} {k i : Nat}, (pairsF k xs)[i]? = (xs[i]?).map fun x => .tuple [.int ((k + i : Nat) : Int), x]
  | [], _, _ => rfl
  | x :: xs, k, 0 => rfl
  | x :: xs, k, i + 1 => by
    show (pairsF (k + 1) xs)[i]? = _
    rw [pairsF_get]
    show _ = (xs[i]?).map _
    congr 1
    funext x
    have : k + 1 + i = k + (i + 1) := by omega
    rw [this]
theorem pairs_eq (xs : List D) : pairs xs = pairsF 0 xs := by
  apply List.ext_getElem?
  intro i
  rw [pairsF_get]
  unfold pairs
  rw [List.getElem?_mapIdx, Nat.zero_add]
theorem inD_strs (z : Str) : ∀ zs : List Str, inD (.str z) (zs.map .str) = decide (z ∈ zs)
  | [] => rfl
  | y :: ys => by
    show (PyData.eqv (.str y) (.str z) || inD (.str z) (ys.map .str)) = _
    rw [inD_strs z ys]
    show (decide (y = z) || decide (z ∈ ys)) = decide (z ∈ y :: ys)
    by_cases e : y = z
    · rw [decide_eq_true e, Bool.true_or, decide_eq_true (by rw [e]; exact List.mem_cons_self)]
    · rw [decide_eq_false e, Bool.false_or]
      by_cases m : z ∈ ys
      · rw [decide_eq_true m, decide_eq_true (List.mem_cons_of_mem _ m)]
      · rw [decide_eq_false m, decide_eq_false fun h => (List.mem_cons.mp h).elim (fun q => e q.symm) m]
theorem flat_strs (zs : List Str) : (zs.map PyData.str).all flatD = true := by
  rw [List.all_eq_true]
  intro x hx
  obtain ⟨z, _, rfl⟩ := List.mem_map.mp hx
  rfl
end DL
namespace DL
open PySem PySem.Spec PyProof.Rows L2
/-! ### name = {k: v for ..} on one line, the name a local -/
section
variable {X : Cx} {kx vx elt tg iter : Expr} {ifs : List Expr} {scope : Scope} {own : List (Str × Nat)} {pos spos py : Pos} {y : Str} {i j : Nat}
theorem sw_trueD {gs : List Comprehension} {l : Nat} {env : Env} (hk : env.scope.kind = .function) (hy : env.scope.names.lookup y = some .local) (hl : (py.line == pos.line) = true)
    (ha : (scope.names.any fun (n, k) => n == y && (k == .local || k == .cell)) = false) : swapsWith (.DictComp kx vx gs scope pos) (some (.Name y py)) l env = pure true := by
  have ky : env.kindOf y = some .local := hy
  have hb : env.blockKind = .function := by unfold Env.blockKind; rw [hk]; rfl
  unfold swapsWith
  simp only [hb, ky, ha, Expr.pos, hl]
  rfl
theorem ps_setDc {wi : TI} {g : TG} {tt : TT} {tk tv : TE} (hc : X.calm = true) (hN : X.N.Nodup) (hy : X.N[j]? = some y) (hyl : X.env.scope.names.lookup y = some .local)
    (hsw : swapsWith (.DictComp kx vx [⟨tg, iter, ifs, 0⟩] scope pos) (some (.Name y py)) spos.line X.env = pure true) (hi : PI X tg iter wi) (ok : BlkOk X.N X.env.scope scope own)
    (hg : ∀ (s : Shared) (H : Hp) (C : Addr) (cl : List (Str × Addr)) (fp : List Addr), PG (X.blk s H scope (compEnvC scope cl C X.env) fp) tg g) (ht : ∀ (s : Shared) (H : Hp) (C : Addr) (cl : List (Str × Addr)) (fp : List Addr), PTs (X.blk s H scope (compEnvC scope cl C X.env) fp) ifs tt)
    (hk : ∀ (s : Shared) (H : Hp) (C : Addr) (cl : List (Str × Addr)) (fp : List Addr), PE (X.blk s H scope (compEnvC scope cl C X.env) fp) kx tk)
    (he : ∀ (s : Shared) (H : Hp) (C : Addr) (cl : List (Str × Addr)) (fp : List Addr), PE (X.blk s H scope (compEnvC scope cl C X.env) fp) vx tv) (hs : ∀ x, foldedSetIterable iter X.env x = pure x := by intro _; rfl) :
    PS X (.Assign [.Name y py] (.DictComp kx vx [⟨tg, iter, ifs, 0⟩] scope pos) spos) (tAsg (tDc wi g tt tk tv (own.map (·.2))) (gName j)) := by
  refine ⟨fun pins s σ H D I h => ?_⟩
  rw [exec_Assign_Name_used _ _ _ _ hsw]
  refine wpAny_bind (wpAny_standAt (wpAny_bind ?_))
  show wpAny _ X.A (do let _ ← comprehension (.DictComp kx vx [⟨tg, iter, ifs, 0⟩] scope pos) scope X.env (firstIterPos [⟨tg, iter, ifs, 0⟩] pos) newDict false (eval iter X.env) (some (assign (.Name y py) X.env))) _ _ s
  have h : tDc wi g tt tk tv (own.map (·.2)) σ H (fun x H1 => gName j x σ H1 D.nx) := h
  refine wpAny_bind (thn (dc_core (Qf := fun _ s' => SP X pins D .next s') hc hN I hi ok hg ht hk he hs h fun L C s' m H' I' q hn f => ?_) fun _ s' hq => wpAny_pure (wpAny_pure hq))
  show wpAny _ _ (assign (.Name y py) X.env (.ref L)) _ _ _
  refine wpAny_assign_Name (store_ok2 (v := V.ref L) I' hN hy (.inl hyl) rfl (fun s2 I2 ⟨a, sb, ha⟩ => ?_) (.inr hyl))
  obtain ⟨f0, f1, f2, f3, f4, f5⟩ := f
  have haC : C ≠ a := by
    rcases ha with z | z
    · rw [z]; exact f1
    · exact fun e => f4 y a z e.symm
  refine ⟨m, hn.sameBut sb haC, fun h3 sb3 => ?_⟩
  exact ⟨_, H', I2.turned (t' := s2.toks) (fun b o hb e => (sb3.2 b hb).trans e) f0 f1 f3 f4 f5, q⟩
variable {mi : MI} {mg : MG} {mt : MT} {mk me : ME} {ni nt nk ne : Nat}
theorem gs_setDc (c : Nat) (hc : X.calm = true) (hN : X.N.Nodup) (hy : X.N[j]? = some y) (hyl : X.env.scope.names.lookup y = some .local)
    (hsw : swapsWith (.DictComp kx vx [⟨tg, iter, ifs, 0⟩] scope pos) (some (.Name y py)) spos.line X.env = pure true) (hi : GI X tg iter ni mi) (ok : BlkOk X.N X.env.scope scope own)
    (hg : ∀ (s : Shared) (H : Hp) (C : Addr) (cl : List (Str × Addr)) (fp : List Addr), GG (X.blk s H scope (compEnvC scope cl C X.env) fp) tg (own.map (·.2)) mg) (ht : ∀ (s : Shared) (H : Hp) (C : Addr) (cl : List (Str × Addr)) (fp : List Addr), GTs (X.blk s H scope (compEnvC scope cl C X.env) fp) ifs nt mt)
    (hk : ∀ (s : Shared) (H : Hp) (C : Addr) (cl : List (Str × Addr)) (fp : List Addr), GE (X.blk s H scope (compEnvC scope cl C X.env) fp) kx nk mk)
    (he : ∀ (s : Shared) (H : Hp) (C : Addr) (cl : List (Str × Addr)) (fp : List Addr), GE (X.blk s H scope (compEnvC scope cl C X.env) fp) vx ne me) (hs : ∀ x, foldedSetIterable iter X.env x = pure x := by intro _; rfl) :
    GS X (.Assign [.Name y py] (.DictComp kx vx [⟨tg, iter, ifs, 0⟩] scope pos) spos) (ni + c) (sSetDk j (mDcC (nt + (nk + ne)) c mi mg mt mk me (own.map (·.2)))) := ps_imp (ps_setDc hc hN hy hyl hsw hi ok hg ht hk he hs) fun D σ H h => by
  obtain ⟨W, B, G0, H0, G, env, E, R, hm, q⟩ := h
  refine dc_ok ⟨W, B, G0, H0, G, env, _, R, hm, fun kvs e1 p G1 H1 p1 s1 R1 f1 => ?_⟩
  exact q.nx _ _ _ _ p1 s1 (R1.setDk f1)
variable {wi : TI} {Jof : Addr → Obj → List (Key × V) → It} {items : List (D × D) → List D}
theorem gs_setDcDk (c : Nat) (k : WkD X.K i wi Jof items) (hc : X.calm = true) (hN : X.N.Nodup) (hy : X.N[j]? = some y) (hyl : X.env.scope.names.lookup y = some .local)
    (hsw : swapsWith (.DictComp kx vx [⟨tg, iter, ifs, 0⟩] scope pos) (some (.Name y py)) spos.line X.env = pure true) (hi : PI X tg iter wi) (ok : BlkOk X.N X.env.scope scope own)
    (hg : ∀ (s : Shared) (H : Hp) (C : Addr) (cl : List (Str × Addr)) (fp : List Addr), GG (X.blk s H scope (compEnvC scope cl C X.env) fp) tg (own.map (·.2)) mg) (ht : ∀ (s : Shared) (H : Hp) (C : Addr) (cl : List (Str × Addr)) (fp : List Addr), GTs (X.blk s H scope (compEnvC scope cl C X.env) fp) ifs nt mt)
    (hk : ∀ (s : Shared) (H : Hp) (C : Addr) (cl : List (Str × Addr)) (fp : List Addr), GE (X.blk s H scope (compEnvC scope cl C X.env) fp) kx nk mk)
    (he : ∀ (s : Shared) (H : Hp) (C : Addr) (cl : List (Str × Addr)) (fp : List Addr), GE (X.blk s H scope (compEnvC scope cl C X.env) fp) vx ne me) (hs : ∀ x, foldedSetIterable iter X.env x = pure x := by intro _; rfl) :
    GS X (.Assign [.Name y py] (.DictComp kx vx [⟨tg, iter, ifs, 0⟩] scope pos) spos) c (sSetDk j (mDcDk (nt + (nk + ne)) c i items mg mt mk me (own.map (·.2)))) := by
  have h0 := ps_setDc (g := tG X.K (own.map (·.2)) mg) (tt := tDT X.K nt mt) (tk := tD X.K nk mk) (tv := tD X.K ne me) hc hN hy hyl hsw hi ok hg ht hk he hs
  refine ps_imp (ps_or (ps_lock h0) h0) fun D σ H h => ?_
  obtain ⟨W, B, G0, H0, G, env, E, R, hm, q⟩ := h
  unfold sSetDk mDcDk at hm
  split at hm
  · rename_i ds hd
    obtain ⟨d, us, e, dv, hG | ⟨od, hG⟩⟩ := dict_at R hd
    · refine .inl ⟨d, .dK us, R.pub _ _ hG, trivial, fun od => ?_⟩
      have dv2 := drKv_sim (sim_lock (od := od) hG) dv
      exact dcJ_ok (R.lock hG) (k.hit _ _ _ _ _ upd_same dv2) hm.1 hm.2.1 hm.2.2 (fun ys p G' H' p' s' R' f => (ends_lock R hG q).nx _ _ _ _ p' s' (R'.setDk f)) fun Rr r => k.hw _ _ _ _ _ _ e upd_same r
    · exact .inr (dcJ_ok R (k.hit _ _ _ _ _ hG dv) hm.1 hm.2.1 hm.2.2 (fun ys p G' H' p' s' R' f => q.nx _ _ _ _ p' s' (R'.setDk f)) fun Rr r => k.hw _ _ _ _ _ _ e (R.pub _ _ hG) r)
  · exact hm.elim
theorem gs_setLcDk (c : Nat) (k : WkD X.K i wi Jof items) (hc : X.calm = true) (hN : X.N.Nodup) (hy : X.N[j]? = some y) (hyl : X.env.scope.names.lookup y = some .local)
    (hsw : swapsWith (.ListComp elt [⟨tg, iter, ifs, 0⟩] scope pos) (some (.Name y py)) spos.line X.env = pure true) (hi : PI X tg iter wi) (ok : BlkOk X.N X.env.scope scope own)
    (hg : ∀ (s : Shared) (H : Hp) (C : Addr) (cl : List (Str × Addr)) (fp : List Addr), GG (X.blk s H scope (compEnvC scope cl C X.env) fp) tg (own.map (·.2)) mg) (ht : ∀ (s : Shared) (H : Hp) (C : Addr) (cl : List (Str × Addr)) (fp : List Addr), GTs (X.blk s H scope (compEnvC scope cl C X.env) fp) ifs nt mt)
    (he : ∀ (s : Shared) (H : Hp) (C : Addr) (cl : List (Str × Addr)) (fp : List Addr), GE (X.blk s H scope (compEnvC scope cl C X.env) fp) elt ne me) (hs : ∀ x, foldedSetIterable iter X.env x = pure x := by intro _; rfl) :
    GS X (.Assign [.Name y py] (.ListComp elt [⟨tg, iter, ifs, 0⟩] scope pos) spos) c (sSetF j (mLcDk (nt + ne) c i items mg mt me (own.map (·.2)))) := by
  have h0 := ps_setLc (g := tG X.K (own.map (·.2)) mg) (tt := tDT X.K nt mt) (te := tD X.K ne me) hc hN hy hyl hsw hi ok hg ht he hs
  refine ps_imp (ps_or (ps_lock h0) h0) fun D σ H h => ?_
  obtain ⟨W, B, G0, H0, G, env, E, R, hm, q⟩ := h
  unfold sSetF mLcDk at hm
  split at hm
  · rename_i ds hd
    obtain ⟨d, us, e, dv, hG | ⟨od, hG⟩⟩ := dict_at R hd
    · refine .inl ⟨d, .dK us, R.pub _ _ hG, trivial, fun od => ?_⟩
      have dv2 := drKv_sim (sim_lock (od := od) hG) dv
      exact lcJ_ok (R.lock hG) (k.hit _ _ _ _ _ upd_same dv2) hm.1 hm.2.1 hm.2.2 (fun ys p G' H' p' s' R' f => (ends_lock R hG q).nx _ _ _ _ p' s' (R'.set_own f)) fun Rr r => k.hw _ _ _ _ _ _ e upd_same r
    · exact .inr (lcJ_ok R (k.hit _ _ _ _ _ hG dv) hm.1 hm.2.1 hm.2.2 (fun ys p G' H' p' s' R' f => q.nx _ _ _ _ p' s' (R'.set_own f)) fun Rr r => k.hw _ _ _ _ _ _ e (R.pub _ _ hG) r)
  · exact hm.elim
end
end DL
namespace L34
open PySem PySem.Spec PyProof.Rows L2 DL
def topS (i : Nat) : Stmt := PySem.Challenge.pw_wiretongue_k34_gates_beat_by_beat.main.body.getD i (.Pass ⟨0, 0, 0, 0⟩)
abbrev s_law_draw : Stmt := topS 5
abbrev N_law_draw : List Str := ["_law_deck_here", "_law_sides", "_law_at", "_law_number", "_law_cell"]
theorem sc_law_draw : FnScope N_law_draw ["_law_deck_here", "_law_sides"] (defScope s_law_draw) := ⟨rfl, rfl, rfl, by decide +kernel, rfl, by decide +kernel, by decide +kernel⟩
abbrev s_law_deck : Stmt := topS 4
abbrev N_law_deck : List Str := ["_law_script", "_law_cells", "_law_seed", "_law_cell"]
theorem sc_law_deck : FnScope N_law_deck ["_law_script"] (defScope s_law_deck) := ⟨rfl, rfl, rfl, by decide +kernel, rfl, by decide +kernel, by decide +kernel⟩
abbrev s_at_once : Stmt := topS 1
abbrev N_at_once : List Str := ["gates", "boxes", "worths", "found", "number", "word", "rest", "one", "other"]
theorem sc_at_once : FnScope N_at_once ["gates", "boxes", "worths"] (defScope s_at_once) := ⟨rfl, rfl, rfl, by decide +kernel, rfl, by decide +kernel, by decide +kernel⟩
abbrev s_gate_waves : Stmt := topS 2
abbrev N_gate_waves : List Str := ["net", "beats", "ins", "gates", "traces", "outs", "boxes", "rows", "clocks", "told", "worths", "now", "number", "gate", "worth", "path", "wide", "held", "row"]
theorem sc_gate_waves : FnScope N_gate_waves ["net", "beats", "ins"] (defScope s_gate_waves) := ⟨rfl, rfl, rfl, by decide +kernel, rfl, by decide +kernel, by decide +kernel⟩
abbrev s_law_drawn_beats : Stmt := topS 6
abbrev N_law_drawn_beats : List Str := ["_law_deck_here", "_law_flat", "_law_ticks", "_law_many", "_law_found", "_law_k", "_law_some", "_law_clock", "_law_row"]
theorem sc_law_drawn_beats : FnScope N_law_drawn_beats ["_law_deck_here", "_law_flat", "_law_ticks", "_law_many"] (defScope s_law_drawn_beats) := ⟨rfl, rfl, rfl, by decide +kernel, rfl, by decide +kernel, by decide +kernel⟩
abbrev s_law_stepped : Stmt := topS 7
abbrev N_law_stepped : List Str := ["_law_gates", "_law_boxes", "_law_known", "_law_found", "_law_at", "_law_gate", "_law_one", "_law_other"]
theorem sc_law_stepped : FnScope N_law_stepped ["_law_gates", "_law_boxes", "_law_known"] (defScope s_law_stepped) := ⟨rfl, rfl, rfl, by decide +kernel, rfl, by decide +kernel, by decide +kernel⟩
abbrev s_law_gate_beats : Stmt := topS 8
abbrev N_law_gate_beats : List Str := ["_law_gates", "_law_flat", "_law_rows", "_law_boxes", "_law_paths", "_law_found", "_law_ticks", "_law_worths", "_law_now", "_law_at", "_law_gate", "_law_row"]
theorem sc_law_gate_beats : FnScope N_law_gate_beats ["_law_gates", "_law_flat", "_law_rows"] (defScope s_law_gate_beats) := ⟨rfl, rfl, rfl, by decide +kernel, rfl, by decide +kernel, by decide +kernel⟩
abbrev s_law_flat_drawn : Stmt := topS 9
abbrev N_law_flat_drawn : List Str := ["_law_deck_here", "_law_rows", "_law_k"]
theorem sc_law_flat_drawn : FnScope N_law_flat_drawn ["_law_deck_here"] (defScope s_law_flat_drawn) := ⟨rfl, rfl, rfl, by decide +kernel, rfl, by decide +kernel, by decide +kernel⟩
abbrev s_law_net_drawn : Stmt := topS 10
abbrev N_law_net_drawn : List Str := ["_law_deck_here", "_law_flat", "_law_left", "_law_row", "_law_gates", "_law_size", "_law_at", "_law_way", "_law_traces", "_law_path", "_law_k"]
theorem sc_law_net_drawn : FnScope N_law_net_drawn ["_law_deck_here", "_law_flat"] (defScope s_law_net_drawn) := ⟨rfl, rfl, rfl, by decide +kernel, rfl, by decide +kernel, by decide +kernel⟩
abbrev s_law : Stmt := topS 11
abbrev N_law : List Str := ["_law_script", "_law_deck_here", "_law_turn", "_law_many", "_law_flat", "_law_here", "_law_said", "_law_own", "_law_rows", "_law_due", "_law_kept", "_law_found", "_law_row", "_law_at"]
theorem sc_law : FnScope N_law ["_law_script"] (defScope s_law) := ⟨rfl, rfl, rfl, by decide +kernel, rfl, by decide +kernel, by decide +kernel⟩
structure Tb (K : PySem.W.Frag) (mg : Str → Option Value) : Prop where
  n_len : mg "len" = none
  n_int : mg "int" = none
  n_range : mg "range" = none
  n_list : mg "list" = none
  n_repr : mg "repr" = none
  n_tuple : mg "tuple" = none
  n_enumerate : mg "enumerate" = none
  n_zip : mg "zip" = none
  n_dict : mg "dict" = none
  n_sorted : mg "sorted" = none
/-! ### the gates -/
inductive Gt where
  | is (b : Int)
  | inn (p : Str) (k : Nat)
  | box (c : Str) (b : Int) (s : Nat)
  | nt (a : Nat)
  | two (o a b : Nat)
def opN : Nat → Str
  | 0 => "and"
  | 1 => "or"
  | _ => "xor"
def opB (o : Nat) (a b : Int) : Int := match o with
  | 0 => Builtin.bitAnd a b
  | 1 => Builtin.bitOr a b
  | _ => Builtin.bitXor a b
def Gt.d : Gt → D
  | .is b => .tuple [.str "is", .int b]
  | .inn p k => .tuple [.str "in", .str p, .int (k : Int)]
  | .box c b s => .tuple [.str "box", .str c, .int b, .int (s : Int)]
  | .nt a => .tuple [.str "not", .int (a : Int)]
  | .two o a b => .tuple [.str (opN o), .int (a : Int), .int (b : Int)]
def Bit (b : Int) : Prop := b = 0 ∨ b = 1
def Gt.ok (n i : Nat) : Gt → Prop
  | .is b => Bit b
  | .inn _ k => k ≤ 3
  | .box _ b s => Bit b ∧ s < n
  | .nt a => a < i
  | .two o a b => o < 3 ∧ a < i ∧ b < i
def WfG (gs : List Gt) : Prop := gs.length ≤ 64 ∧ ∀ (i : Nat) (g : Gt), gs[i]? = some g → g.ok gs.length i
def stepG (bx : Nat → Int) (kn : Str → Int) (fd : List Int) : Gt → Int
  | .is b => b
  | .inn p k => Builtin.bitAnd (kn p / 2 ^ k) 1
  | .box _ _ _ => bx fd.length
  | .nt a => 1 - fd.getD a 0
  | .two o a b => opB o (fd.getD a 0) (fd.getD b 0)
def runG (bx : Nat → Int) (kn : Str → Int) (gs : List Gt) : List Int := gs.foldl (fun fd g => fd ++ [stepG bx kn fd g]) []
theorem run_snoc (bx : Nat → Int) (kn : Str → Int) (gs : List Gt) (g : Gt) : runG bx kn (gs ++ [g]) = runG bx kn gs ++ [stepG bx kn (runG bx kn gs) g] := by
  unfold runG
  rw [List.foldl_append]
  rfl
theorem run_len (bx : Nat → Int) (kn : Str → Int) : ∀ gs : List Gt, (runG bx kn gs).length = gs.length := fun gs => by
  have key : ∀ (gs : List Gt) (fd : List Int), (gs.foldl (fun fd g => fd ++ [stepG bx kn fd g]) fd).length = fd.length + gs.length := fun gs => by
    induction gs with
    | nil => intro fd; rfl
    | cons g gs ih =>
      intro fd
      rw [List.foldl_cons, ih, List.length_append, List.length_cons, List.length_cons, List.length_nil]
      omega
  have := key gs []
  rw [List.length_nil, Nat.zero_add] at this
  exact this
theorem run_take {bx : Nat → Int} {kn : Str → Int} {gs : List Gt} {i : Nat} {g : Gt} (h : gs[i]? = some g) : runG bx kn (gs.take (i + 1)) = runG bx kn (gs.take i) ++ [stepG bx kn (runG bx kn (gs.take i)) g] := by
  rw [take_snoc h, run_snoc]
theorem bit_and {a b : Int} (h1 : Bit a) (h2 : Bit b) : Bit (Builtin.bitAnd a b) := by
  rcases h1 with rfl | rfl <;> rcases h2 with rfl | rfl <;> (unfold Bit; decide)
theorem bit_or {a b : Int} (h1 : Bit a) (h2 : Bit b) : Bit (Builtin.bitOr a b) := by
  rcases h1 with rfl | rfl <;> rcases h2 with rfl | rfl <;> (unfold Bit; decide)
theorem bit_xor {a b : Int} (h1 : Bit a) (h2 : Bit b) : Bit (Builtin.bitXor a b) := by
  rcases h1 with rfl | rfl <;> rcases h2 with rfl | rfl <;> (unfold Bit; decide)
def bitsD (xs : List Int) : List D := xs.map .int
/-- what both ways of working out the gates answer -/
def spOnce : List EV → (D → Prop) → Prop := fun as P => ∃ (gs : List Gt) (bD kD : List (D × D)) (bx : Nat → Int) (kn : Str → Int), as = [.d (.tuple (gs.map Gt.d)), .d (.dict bD), .d (.dict kD)] ∧ WfG gs ∧
  (∀ (i : Nat) c b s, gs[i]? = some (.box c b s) → valDD bD (.inl (i : Int)) = some (.int (bx i))) ∧ (∀ (i : Nat) p k, gs[i]? = some (.inn p k) → valDD kD (.inr p) = some (.int (kn p))) ∧ P (.list (bitsD (runG bx kn gs)))
theorem at_bits {xs : List Int} {a : Nat} (h : a < xs.length) : atI (bitsD xs) (a : Int) = some (.int (xs.getD a 0)) := by
  have e : (bitsD xs)[a]? = some (.int (xs.getD a 0)) := by
    unfold bitsD
    rw [List.getElem?_map, List.getElem?_eq_getElem h]
    simp [h]
  exact atI_nat e
theorem en_star {n j k : Nat} {a x : D} {xs : List D} {env : DEnv} {Pc : DEnv → Prop} (hl : xs.length ≤ 16383) (h : Pc (((env.set n (.d a)).set j (.d x)).set k (.d (.list xs)))) :
    gTp 2 (gsCons n (gsConsG (gStarTp 1 2 (gsCons j (gsCons k gsNil))) gsNil)) (.tuple [a, .tuple (x :: xs)]) env Pc := by
  refine ⟨rfl, by decide, by rw [List.length_cons]; omega, by rw [List.length_cons]; omega, ?_⟩
  have e : starD 1 2 (x :: xs) = [x, .list xs] := by
    unfold starD
    have : (x :: xs).length + 1 - 2 = xs.length := by rw [List.length_cons]; omega
    rw [this]
    show [x] ++ [.list (xs.take xs.length)] ++ xs.drop xs.length = _
    rw [List.take_length, List.drop_length]
    rfl
  rw [e]
  exact ⟨rfl, rfl, h⟩
section
variable {P : Program} {w : World} {K : PySem.W.Frag} {mg : Str → Option Value} {base : Heap}
theorem ok_at_once {f : Addr} {fd : FuncData} (T : Tb K mg) (F : Fun K "at_once" "at_once" s_at_once f fd) : FnG P w K mg base CX0 1 f fd ["gates", "boxes", "worths"] (spD K 0 spOnce) := by
  have nd := sc_at_once.nd
  refine okDG (k := 0) F sc_at_once (fun as Q h => by obtain ⟨gs, bD, kD, bx, kn, rfl, _⟩ := h; rfl) (fun cdv A fs s H E hr => have hu := hr.rm.units; have hgd := hr.gd; (gss_cons (gs_setF (i := 3) nd rfl (.inl rfl) (gf_lst ga_nil))
      (gss_cons (gs_forC 0 PassesOwn.never rfl (gi_enumT (by rfl) T.n_enumerate (ga_cons (ge_var 0) ga_nil)) (gg_tup (n := 2) rfl (ggs_cons (i := 4) (vs := [4, 5, 6]) nd rfl (.inl rfl) (by decide) (ggs_consG (gg_starT (n := 2) (i := 1) rfl (ggs_cons (i := 5) (vs := [4, 5, 6]) nd rfl (.inl rfl) (by decide) (ggs_star (j := 6) (vs := [4, 5, 6]) nd rfl (.inl rfl) (by decide) ggs_nil))) ggs_nil))) (gss_one (gs_if (gt_cmp (od_eq hu) (ge_var 5) ge_str (nomark _)) (gss_one (gs_append (i := 3) rfl (.inl rfl) (ge_ix od_ix (ge_var 6) ge_int (fun _ _ => rfl)))) (gss_one (gs_if (gt_cmp (od_eq hu) (ge_var 5) ge_str (nomark _)) (gss_one (gs_append (i := 3) rfl (.inl rfl) (ge_op od_and (ge_op od_shr (ge_dix hu (ge_var 2) (ge_ix od_ix (ge_var 6) ge_int (fun _ _ => rfl)) (fun _ _ => rfl)) (ge_ix od_ix (ge_var 6) ge_int (fun _ _ => rfl))) ge_int))) (gss_one (gs_if (gt_cmp (od_eq hu) (ge_var 5) ge_str (nomark _)) (gss_one (gs_append (i := 3) rfl (.inl rfl) (ge_dix hu (ge_var 1) (ge_var 4) (fun _ _ => rfl)))) (gss_one (gs_if (gt_cmp (od_eq hu) (ge_var 5) ge_str (nomark _)) (gss_one (gs_append (i := 3) rfl (.inl rfl) (ge_op od_sub ge_int (ge_ixM 3 (ge_ix od_ix (ge_var 6) ge_int (fun _ _ => rfl)) (fun _ _ => rfl))))) (gss_cons (gs_par rfl nd (i := 7) (j := 8) rfl rfl (by decide) rfl rfl (ga_cons (ge_ixM 3 (ge_ix od_ix (ge_var 6) ge_int (fun _ _ => rfl)) (fun _ _ => rfl)) (ga_cons (ge_ixM 3 (ge_ix od_ix (ge_var 6) ge_int (fun _ _ => rfl)) (fun _ _ => rfl)) ga_nil)) (by rfl))
      (gss_one (gs_append (i := 3) rfl (.inl rfl) (ge_dix hu (ge_disp [("and", _, _), ("or", _, _), ("xor", _, _)] (pps_cons pe_str (ge_op od_and (ge_var 7) (ge_var 8)) (pps_cons pe_str (ge_op od_or (ge_var 7) (ge_var 8)) (pps_cons pe_str (ge_op od_xor (ge_var 7) (ge_var 8)) pps_nil))) (by rfl) (by rfl) (fun z => by cases z) (by decide) (by decide +kernel) (by decide)) (ge_var 5) (fun _ _ => rfl))))))))))))))
      (gss_one (gs_ret (ge_var 3)))))) (by decide) (fun as Q h => ?_)
  obtain ⟨gs, bD, kD, bx, kn, rfl, wf, hb, hk, hP⟩ := h
  refine ⟨by decide, by rw [Nat.mul_comm]; exact Nat.le_of_eq (Nat.zero_mul _), ?_⟩
  refine sfor_by (fun i env => ∃ e4 e5 e6 e7 e8, env = [.d (.tuple (gs.map Gt.d)), .d (.dict bD), .d (.dict kD), .mo none (.lst (bitsD (runG bx kn (gs.take i)))), e4, e5, e6, e7, e8]) ⟨_, _, _, _, _, rfl⟩ (fun i it env N hit hI hN => ?_) fun env hI => ?_
  · obtain ⟨e4, e5, e6, e7, e8, rfl⟩ := hI
    obtain ⟨x, hx, rfl⟩ := pairs_get hit
    rw [List.getElem?_map, Option.map_eq_some_iff] at hx
    obtain ⟨g, hg, rfl⟩ := hx
    have wg := wf.2 _ _ hg
    have er := run_take (bx := bx) (kn := kn) hg
    have ln : (runG bx kn (gs.take i)).length = i := by
      rw [run_len, List.length_take]
      have := (List.getElem?_eq_some_iff.mp hg).1
      omega
    have fin : ∀ (v : Int) e4 e5 e6 e7 e8, v = stepG bx kn (runG bx kn (gs.take i)) g → N [.d (.tuple (gs.map Gt.d)), .d (.dict bD), .d (.dict kD), .mo none (.lst (bitsD (runG bx kn (gs.take i)) ++ [.int v])), e4, e5, e6, e7, e8] := fun v e4 e5 e6 e7 e8 ev => hN _ ⟨e4, e5, e6, e7, e8, by
      rw [er, ev]
      unfold bitsD
      rw [List.map_append]
      rfl⟩
    have lz : (bitsD (runG bx kn (gs.take i))).length < sizeLine := by
      unfold bitsD
      rw [List.length_map, ln]
      have := (List.getElem?_eq_some_iff.mp hg).1
      have := wf.1
      have : (64 : Nat) < sizeLine := by decide
      omega
    cases g with
    | is b =>
      refine en_star (show (1 : Nat) ≤ 16383 by decide) ?_
      refine if_str (i := 5) (z := "is") rfl (fun _ => ?_) (fun h => absurd rfl h)
      exact ⟨⟨_, rfl⟩, _, rfl, lz, fin _ _ _ _ _ _ rfl⟩
    | inn p k =>
      refine en_star (show (2 : Nat) ≤ 16383 by decide) ?_
      refine if_str (i := 5) (z := "in") rfl (fun h => absurd h (by decide +kernel)) (fun _ => ?_)
      refine if_str (i := 5) (z := "in") rfl (fun _ => ?_) (fun h => absurd rfl h)
      exact ⟨⟨_, rfl⟩, ⟨_, rfl, _, hk _ _ _ hg, _, rfl, by omega, trivial, lz, fin _ _ _ _ _ _ rfl⟩⟩
    | box c b z =>
      refine en_star (show (3 : Nat) ≤ 16383 by decide) ?_
      refine if_str (i := 5) (z := "box") rfl (fun h => absurd h (by decide +kernel)) (fun _ => ?_)
      refine if_str (i := 5) (z := "box") rfl (fun h => absurd h (by decide +kernel)) (fun _ => ?_)
      refine if_str (i := 5) (z := "box") rfl (fun _ => ?_) (fun h => absurd rfl h)
      exact ⟨⟨_, rfl⟩, _, hb _ _ _ _ hg, lz, fin _ _ _ _ _ _ (by rw [stepG, ln])⟩
    | nt a =>
      refine en_star (show (1 : Nat) ≤ 16383 by decide) ?_
      refine if_str (i := 5) (z := "not") rfl (fun h => absurd h (by decide +kernel)) (fun _ => ?_)
      refine if_str (i := 5) (z := "not") rfl (fun h => absurd h (by decide +kernel)) (fun _ => ?_)
      refine if_str (i := 5) (z := "not") rfl (fun h => absurd h (by decide +kernel)) (fun _ => ?_)
      refine if_str (i := 5) (z := "not") rfl (fun _ => ?_) (fun h => absurd rfl h)
      exact ⟨⟨_, rfl⟩, ⟨⟨_, _, rfl⟩, _, rfl, _, at_bits (by rw [ln]; exact wg), lz, fin _ _ _ _ _ _ rfl⟩⟩
    | two o a b =>
      refine en_star (show (2 : Nat) ≤ 16383 by decide) ?_
      have no : ∀ o, opN o ≠ "is" ∧ opN o ≠ "in" ∧ opN o ≠ "box" ∧ opN o ≠ "not" := fun o => by
        match o with
        | 0 => decide +kernel
        | 1 => decide +kernel
        | n + 2 =>
          show ("xor" : Str) ≠ _ ∧ ("xor" : Str) ≠ _ ∧ ("xor" : Str) ≠ _ ∧ ("xor" : Str) ≠ _
          decide +kernel
      obtain ⟨n1, n2, n3, n4⟩ := no o
      refine if_str (i := 5) (z := opN o) rfl (fun h => absurd h n1) (fun _ => ?_)
      refine if_str (i := 5) (z := opN o) rfl (fun h => absurd h n2) (fun _ => ?_)
      refine if_str (i := 5) (z := opN o) rfl (fun h => absurd h n3) (fun _ => ?_)
      refine if_str (i := 5) (z := opN o) rfl (fun h => absurd h n4) (fun _ => ?_)
      refine ⟨⟨_, _, rfl⟩, ⟨_, rfl, _, at_bits (xs := runG bx kn (gs.take i)) (a := a) (by rw [ln]; exact wg.2.1), ⟨_, _, rfl⟩, _, rfl, _, at_bits (xs := runG bx kn (gs.take i)) (a := b) (by rw [ln]; exact wg.2.2), ?_⟩⟩
      refine ⟨⟨_, rfl⟩, trivial, trivial, trivial, ?_⟩
      have ev : valDD [(.str "and", .int (Builtin.bitAnd ((runG bx kn (gs.take i)).getD a 0) ((runG bx kn (gs.take i)).getD b 0))), (.str "or", .int (Builtin.bitOr ((runG bx kn (gs.take i)).getD a 0) ((runG bx kn (gs.take i)).getD b 0))), (.str "xor", .int (Builtin.bitXor ((runG bx kn (gs.take i)).getD a 0) ((runG bx kn (gs.take i)).getD b 0)))] (.inr (opN o)) = some (.int (opB o ((runG bx kn (gs.take i)).getD a 0) ((runG bx kn (gs.take i)).getD b 0))) := by
        match o with
        | 0 => rfl
        | 1 => rfl
        | n + 2 => rfl
      exact ⟨_, ev, lz, fin _ _ _ _ _ _ rfl⟩
  · obtain ⟨e4, e5, e6, e7, e8, rfl⟩ := hI
    rw [pairsD_len, List.length_map, List.take_length]
    exact hP
end
end L34
namespace L34
open PySem PySem.Spec PyProof.Rows L2 DL
theorem eqv_str (a b : Str) : PyData.eqv (.str a) (.str b) = decide (a = b) := rfl
theorem in_two (z : Str) : inD (.str z) [.str "is", .str "box"] = (decide (z = "is") || decide (z = "box")) := by
  show (PyData.eqv (.str "is") (.str z) || (PyData.eqv (.str "box") (.str z) || false)) = _
  rw [eqv_str, eqv_str, Bool.or_false, decide_eq_decide.mpr (eq_comm (a := ("is" : Str))), decide_eq_decide.mpr (eq_comm (a := ("box" : Str)))]
theorem if_in2 {i : Nat} {env : DEnv} {z : Str} {xs : List D} {a b : MS} {E : DEnds} (h : env[i]? = some (.d (.tuple (.str z :: xs)))) (h1 : z = "is" ∨ z = "box" → a E env) (h2 : z ≠ "is" → z ≠ "box" → b E env) :
    sIf (mCmpT cInX (mOp dIx (mVar i) (mC (.int 0))) (mTup (mCons (mC (.str "is")) (mCons (mC (.str "box")) mNil)))) a b E env := by
  unfold sIf mCmpT
  refine ix0 h ⟨(show (2 : Nat) ≤ sizeLine by decide), ⟨rfl, rfl⟩, ?_⟩
  show match inD (.str z) [.str "is", .str "box"] with
    | true => a E env
    | false => b E env
  rw [in_two]
  by_cases z1 : z = "is"
  · rw [decide_eq_true z1]
    exact h1 (.inl z1)
  · rw [decide_eq_false z1]
    by_cases z2 : z = "box"
    · rw [decide_eq_true z2]
      exact h1 (.inr z2)
    · rw [decide_eq_false z2]
      exact h2 z1 z2
theorem ok3 : okEq (.list [.str "and", .str "or", .str "xor"]) = true := by decide +kernel
theorem okO (o : Nat) : okEq (.str (opN o)) = true := by
  match o with
  | 0 => decide +kernel
  | 1 => decide +kernel
  | n + 2 =>
    show okEq (.str "xor") = true
    decide +kernel
theorem find_op (o : Nat) (ho : o < 3) : findD [.str "and", .str "or", .str "xor"] (.str (opN o)) = some o := by
  match o, ho with
  | 0, _ => decide +kernel
  | 1, _ => decide +kernel
  | 2, _ => decide +kernel
section
variable {P : Program} {w : World} {K : PySem.W.Frag} {mg : Str → Option Value} {base : Heap}
theorem ok_stepped {f : Addr} {fd : FuncData} (T : Tb K mg) (F : Fun K "_law_stepped" "_law_stepped" s_law_stepped f fd) : FnG P w K mg base CX0 1 f fd ["_law_gates", "_law_boxes", "_law_known"] (spD K 0 spOnce) := by
  have nd := sc_law_stepped.nd
  refine okDG (k := 0) F sc_law_stepped (fun as Q h => by obtain ⟨gs, bD, kD, bx, kn, rfl, _⟩ := h; rfl) (fun cdv A fs s H E hr => have hu := hr.rm.units; have hu2 := hu2_of hr.rm; (gss_cons (gs_setF (i := 3) nd rfl (.inl rfl) (gf_lst ga_nil))
      (gss_cons (gs_forC 0 PassesOwn.never rfl (gi_enumT (by rfl) T.n_enumerate (ga_cons (ge_var 0) ga_nil)) (gg_tup (n := 2) rfl (ggs_cons (i := 4) (vs := [4, 5]) nd rfl (.inl rfl) (by decide) (ggs_cons (i := 5) (vs := [4, 5]) nd rfl (.inl rfl) (by decide) ggs_nil))) (gss_one (gs_if (gt_cmp (od_eq hu) (ge_ix od_ix (ge_var 5) ge_int (fun _ _ => rfl)) ge_str (nomark _)) (gss_one (gs_append (i := 3) rfl (.inl rfl) (ge_op od_and (ge_op od_shr (ge_dix hu (ge_var 2) (ge_ix od_ix (ge_var 5) ge_int (fun _ _ => rfl)) (fun _ _ => rfl)) (ge_ix od_ix (ge_var 5) ge_int (fun _ _ => rfl))) ge_int))) (gss_one (gs_if (gt_cmp (od_inX hu) (ge_ix od_ix (ge_var 5) ge_int (fun _ _ => rfl)) (ge_tup (ga_cons ge_str (ga_cons ge_str ga_nil))) (by rfl)) (gss_one (gs_append (i := 3) rfl (.inl rfl) (ge_if (gt_cmp (od_eq hu) (ge_ix od_ix (ge_var 5) ge_int (fun _ _ => rfl)) ge_str (nomark _)) (ge_ix od_ix (ge_var 5) ge_int (fun _ _ => rfl)) (ge_dix hu (ge_var 1) (ge_var 4) (fun _ _ => rfl))))) (gss_one (gs_if (gt_cmp (od_eq hu) (ge_ix od_ix (ge_var 5) ge_int (fun _ _ => rfl)) ge_str (nomark _)) (gss_one (gs_append (i := 3) rfl (.inl rfl) (ge_op od_sub ge_int (ge_ixM 3 (ge_ix od_ix (ge_var 5) ge_int (fun _ _ => rfl)) (fun _ _ => rfl))))) (gss_cons (gs_par rfl nd (i := 6) (j := 7) rfl rfl (by decide) rfl rfl (ga_cons (ge_ixM 3 (ge_ix od_ix (ge_var 5) ge_int (fun _ _ => rfl)) (fun _ _ => rfl)) (ga_cons (ge_ixM 3 (ge_ix od_ix (ge_var 5) ge_int (fun _ _ => rfl)) (fun _ _ => rfl)) ga_nil)) (by rfl))
      (gss_one (gs_append (i := 3) rfl (.inl rfl) (ge_ix od_ix (ge_lst (ga_cons (ge_op od_and (ge_var 6) (ge_var 7)) (ga_cons (ge_op od_or (ge_var 6) (ge_var 7)) (ga_cons (ge_op od_xor (ge_var 6) (ge_var 7)) ga_nil)))) (ge_bm PySem.F.plainAttrs_list PySem.F.slot_list_index PySem.F.type_list_index (md_index hu2) (ge_lst (ga_cons ge_str (ga_cons ge_str (ga_cons ge_str ga_nil)))) (ga_cons (ge_ix od_ix (ge_var 5) ge_int (fun _ _ => rfl)) ga_nil)) (fun _ _ => rfl))))))))))))
      (gss_one (gs_ret (ge_var 3)))))) (by decide) (fun as Q h => ?_)
  obtain ⟨gs, bD, kD, bx, kn, rfl, wf, hb, hk, hP⟩ := h
  refine ⟨by decide, by rw [Nat.mul_comm]; exact Nat.le_of_eq (Nat.zero_mul _), ?_⟩
  refine sfor_by (fun i env => ∃ e4 e5 e6 e7, env = [.d (.tuple (gs.map Gt.d)), .d (.dict bD), .d (.dict kD), .mo none (.lst (bitsD (runG bx kn (gs.take i)))), e4, e5, e6, e7]) ⟨_, _, _, _, rfl⟩ (fun i it env N hit hI hN => ?_) fun env hI => ?_
  · obtain ⟨e4, e5, e6, e7, rfl⟩ := hI
    obtain ⟨x, hx, rfl⟩ := pairs_get hit
    rw [List.getElem?_map, Option.map_eq_some_iff] at hx
    obtain ⟨g, hg, rfl⟩ := hx
    have wg := wf.2 _ _ hg
    have er := run_take (bx := bx) (kn := kn) hg
    have ln : (runG bx kn (gs.take i)).length = i := by
      rw [run_len, List.length_take]
      have := (List.getElem?_eq_some_iff.mp hg).1
      omega
    have fin : ∀ (v : Int) e4 e5 e6 e7, v = stepG bx kn (runG bx kn (gs.take i)) g → N [.d (.tuple (gs.map Gt.d)), .d (.dict bD), .d (.dict kD), .mo none (.lst (bitsD (runG bx kn (gs.take i)) ++ [.int v])), e4, e5, e6, e7] := fun v e4 e5 e6 e7 ev => hN _ ⟨e4, e5, e6, e7, by
      rw [er, ev]
      unfold bitsD
      rw [List.map_append]
      rfl⟩
    have lz : (bitsD (runG bx kn (gs.take i))).length < sizeLine := by
      unfold bitsD
      rw [List.length_map, ln]
      have := (List.getElem?_eq_some_iff.mp hg).1
      have := wf.1
      have : (64 : Nat) < sizeLine := by decide
      omega
    cases g with
    | is b =>
      refine ⟨rfl, rfl, ?_⟩
      refine if_ix (i := 5) (z := "is") rfl (fun h => absurd h (by decide +kernel)) (fun _ => ?_)
      refine if_in2 (i := 5) (z := "is") rfl (fun _ => ?_) (fun h => absurd rfl h)
      exact ⟨⟨_, rfl⟩, mif_ix (i := 5) (z := "is") rfl (fun _ => ⟨_, rfl, lz, fin _ _ _ _ _ rfl⟩) (fun h => absurd rfl h)⟩
    | inn p k =>
      refine ⟨rfl, rfl, ?_⟩
      refine if_ix (i := 5) (z := "in") rfl (fun _ => ?_) (fun h => absurd rfl h)
      exact ⟨⟨_, rfl⟩, ⟨_, rfl, _, hk _ _ _ hg, _, rfl, by omega, trivial, lz, fin _ _ _ _ _ rfl⟩⟩
    | box c b z =>
      refine ⟨rfl, rfl, ?_⟩
      refine if_ix (i := 5) (z := "box") rfl (fun h => absurd h (by decide +kernel)) (fun _ => ?_)
      refine if_in2 (i := 5) (z := "box") rfl (fun _ => ?_) (fun _ h => absurd rfl h)
      exact ⟨⟨_, rfl⟩, mif_ix (i := 5) (z := "box") rfl (fun h => absurd h (by decide +kernel)) (fun _ => ⟨_, hb _ _ _ _ hg, lz, fin _ _ _ _ _ (by rw [stepG, ln])⟩)⟩
    | nt a =>
      refine ⟨rfl, rfl, ?_⟩
      refine if_ix (i := 5) (z := "not") rfl (fun h => absurd h (by decide +kernel)) (fun _ => ?_)
      refine if_in2 (i := 5) (z := "not") rfl (fun h => (by rcases h with h | h <;> exact absurd h (by decide +kernel))) (fun _ _ => ?_)
      refine if_ix (i := 5) (z := "not") rfl (fun _ => ?_) (fun h => absurd rfl h)
      exact ⟨⟨_, rfl⟩, ⟨⟨_, _, rfl⟩, _, rfl, _, at_bits (by rw [ln]; exact wg), lz, fin _ _ _ _ _ rfl⟩⟩
    | two o a b =>
      refine ⟨rfl, rfl, ?_⟩
      have no : ∀ o, opN o ≠ "is" ∧ opN o ≠ "in" ∧ opN o ≠ "box" ∧ opN o ≠ "not" := fun o => by
        match o with
        | 0 => decide +kernel
        | 1 => decide +kernel
        | n + 2 =>
          show ("xor" : Str) ≠ _ ∧ ("xor" : Str) ≠ _ ∧ ("xor" : Str) ≠ _ ∧ ("xor" : Str) ≠ _
          decide +kernel
      obtain ⟨n1, n2, n3, n4⟩ := no o
      refine if_ix (i := 5) (z := opN o) rfl (fun h => absurd h n2) (fun _ => ?_)
      refine if_in2 (i := 5) (z := opN o) rfl (fun h => (by rcases h with h | h; exact absurd h n1; exact absurd h n3)) (fun _ _ => ?_)
      refine if_ix (i := 5) (z := opN o) rfl (fun h => absurd h n4) (fun _ => ?_)
      refine ⟨⟨_, _, rfl⟩, ⟨_, rfl, _, at_bits (xs := runG bx kn (gs.take i)) (a := a) (by rw [ln]; exact wg.2.1), ⟨_, _, rfl⟩, _, rfl, _, at_bits (xs := runG bx kn (gs.take i)) (a := b) (by rw [ln]; exact wg.2.2), ?_⟩⟩
      refine ⟨⟨_, rfl⟩, trivial, trivial, trivial, (show (3 : Nat) ≤ sizeLine by decide), (show (3 : Nat) ≤ sizeLine by decide), rfl, _, rfl, ok3, okO o, _, find_op o wg.1, ?_⟩
      have ev : ([.int (Builtin.bitAnd ((runG bx kn (gs.take i)).getD a 0) ((runG bx kn (gs.take i)).getD b 0)), .int (Builtin.bitOr ((runG bx kn (gs.take i)).getD a 0) ((runG bx kn (gs.take i)).getD b 0)), .int (Builtin.bitXor ((runG bx kn (gs.take i)).getD a 0) ((runG bx kn (gs.take i)).getD b 0))] : List D)[o]? = some (.int (opB o ((runG bx kn (gs.take i)).getD a 0) ((runG bx kn (gs.take i)).getD b 0))) := by
        match o, wg.1 with
        | 0, _ => rfl
        | 1, _ => rfl
        | 2, _ => rfl
      exact ⟨_, atI_nat ev, lz, fin _ _ _ _ _ rfl⟩
  · obtain ⟨e4, e5, e6, e7, rfl⟩ := hI
    rw [pairsD_len, List.length_map, List.take_length]
    exact hP
end
end L34
namespace L34
open PySem PySem.Spec PyProof.Rows L2 DL
/-! ### the boxes -/
structure Bx where
  i : Nat
  c : Str
  b : Int
  s : Nat
def bxs : Nat → List Gt → List Bx
  | _, [] => []
  | k, .box c b s :: r => ⟨k, c, b, s⟩ :: bxs (k + 1) r
  | k, .is _ :: r => bxs (k + 1) r
  | k, .inn _ _ :: r => bxs (k + 1) r
  | k, .nt _ :: r => bxs (k + 1) r
  | k, .two _ _ _ :: r => bxs (k + 1) r
theorem bxs_cons (k : Nat) (g : Gt) (r : List Gt) : (∃ c b s, g = .box c b s ∧ bxs k (g :: r) = ⟨k, c, b, s⟩ :: bxs (k + 1) r) ∨ ((∀ c b s, g ≠ .box c b s) ∧ bxs k (g :: r) = bxs (k + 1) r) := by
  cases g with
  | box c b s => exact .inl ⟨c, b, s, rfl, rfl⟩
  | is b => exact .inr ⟨fun _ _ _ h => (by cases h), rfl⟩
  | inn p j => exact .inr ⟨fun _ _ _ h => (by cases h), rfl⟩
  | nt a => exact .inr ⟨fun _ _ _ h => (by cases h), rfl⟩
  | two o a b => exact .inr ⟨fun _ _ _ h => (by cases h), rfl⟩
theorem bxs_mem : ∀ {gs : List Gt} {k : Nat} {x : Bx}, x ∈ bxs k gs ↔ ∃ j, x.i = k + j ∧ gs[j]? = some (.box x.c x.b x.s)
  | [], k, x => ⟨fun h => (by cases h), fun ⟨j, _, h⟩ => by cases h⟩
  | g :: r, k, x => by
    constructor
    · intro h
      rcases bxs_cons k g r with ⟨c, b, s, rfl, e⟩ | ⟨_, e⟩
      · rw [e] at h
        rcases List.mem_cons.mp h with rfl | h
        · exact ⟨0, rfl, rfl⟩
        · obtain ⟨j, h1, h2⟩ := bxs_mem.mp h
          exact ⟨j + 1, by omega, h2⟩
      · rw [e] at h
        obtain ⟨j, h1, h2⟩ := bxs_mem.mp h
        exact ⟨j + 1, by omega, h2⟩
    · rintro ⟨j, h1, h2⟩
      rcases bxs_cons k g r with ⟨c, b, s, rfl, e⟩ | ⟨n, e⟩
      · rw [e]
        cases j with
        | zero =>
          have h2 : some (Gt.box c b s) = some (.box x.c x.b x.s) := h2
          injection h2 with h2
          injection h2 with e1 e2 e3
          subst e1 e2 e3
          have : x = ⟨k, x.c, x.b, x.s⟩ := by cases x; cases h1; rfl
          rw [← this]
          exact List.mem_cons_self
        | succ j => exact List.mem_cons_of_mem _ (bxs_mem.mpr ⟨j, by omega, h2⟩)
      · rw [e]
        cases j with
        | zero => exact absurd (Option.some.inj h2) (n _ _ _)
        | succ j => exact bxs_mem.mpr ⟨j, by omega, h2⟩
theorem bxs_lo {gs : List Gt} {k : Nat} {x : Bx} (h : x ∈ bxs k gs) : k ≤ x.i := by
  obtain ⟨j, e, _⟩ := bxs_mem.mp h
  omega
theorem bxs_nodup : ∀ (gs : List Gt) (k : Nat), ((bxs k gs).map (·.i)).Nodup
  | [], _ => .nil
  | g :: r, k => by
    rcases bxs_cons k g r with ⟨c, b, s, rfl, e⟩ | ⟨_, e⟩
    · rw [e, List.map_cons]
      refine List.nodup_cons.mpr ⟨fun h => ?_, bxs_nodup r (k + 1)⟩
      obtain ⟨x, hx, e2⟩ := List.mem_map.mp h
      have h1 := bxs_lo hx
      have e2 : x.i = k := e2
      omega
    · rw [e]
      exact bxs_nodup r (k + 1)
theorem bxs_len : ∀ (gs : List Gt) (k : Nat), (bxs k gs).length ≤ gs.length
  | [], _ => Nat.le_refl _
  | g :: r, k => by
    have := bxs_len r (k + 1)
    rcases bxs_cons k g r with ⟨c, b, s, rfl, e⟩ | ⟨_, e⟩
    · rw [e, List.length_cons, List.length_cons]; omega
    · rw [e, List.length_cons]; omega
def ixs (gs : List Gt) : List Nat := (bxs 0 gs).map (·.i)
theorem ixs_mem {gs : List Gt} {i : Nat} : i ∈ ixs gs ↔ ∃ c b s, gs[i]? = some (.box c b s) := by
  unfold ixs
  rw [List.mem_map]
  constructor
  · rintro ⟨x, hx, rfl⟩
    obtain ⟨j, e, h⟩ := bxs_mem.mp hx
    rw [Nat.zero_add] at e
    rw [e]
    exact ⟨_, _, _, h⟩
  · rintro ⟨c, b, s, h⟩
    exact ⟨⟨i, c, b, s⟩, bxs_mem.mpr ⟨i, (Nat.zero_add i).symm, h⟩, rfl⟩
theorem ixs_len (gs : List Gt) : (ixs gs).length ≤ gs.length := by
  unfold ixs
  rw [List.length_map]
  exact bxs_len gs 0
def keyI (i : Nat) : Key := .inl (i : Int)
theorem keyI_inj (x y : Nat) (h : keyI x = keyI y) : x = y := by
  have h : (Sum.inl (x : Int) : Key) = Sum.inl (y : Int) := h
  injection h with h
  omega
/-- what the boxes hold -/
def bxK (gs : List Gt) (v : Nat → Int) : List (Key × D) := (ixs gs).map fun i => (keyI i, .int (v i))
theorem bxK_nodup (gs : List Gt) (v : Nat → Int) : ((bxK gs v).map (·.1)).Nodup := by
  unfold bxK
  rw [List.map_map]
  exact List.Pairwise.map _ (fun a b h z => h (keyI_inj a b z)) (bxs_nodup gs 0)
theorem bxK_len (gs : List Gt) (v : Nat → Int) : (bxK gs v).length ≤ gs.length := by
  unfold bxK
  rw [List.length_map]
  exact ixs_len gs
theorem bxK_val {gs : List Gt} {v : Nat → Int} {i : Nat} {c : Str} {b : Int} {s : Nat} (h : gs[i]? = some (.box c b s)) : valDD (kvsD (bxK gs v)) (.inl (i : Int)) = some (.int (v i)) := by
  rw [valDD_kvs]
  exact valKD_map (kf := keyI) (v := fun i => .int (v i)) keyI_inj (ixs_mem.mpr ⟨c, b, s, h⟩)
theorem bxK_congr {gs : List Gt} {v u : Nat → Int} (h : ∀ i ∈ ixs gs, v i = u i) : bxK gs v = bxK gs u := by
  unfold bxK
  exact List.map_congr_left fun i hi => by rw [h i hi]
def bx0 (gs : List Gt) (i : Nat) : Int := match gs[i]? with
  | some (.box _ b _) => b
  | _ => 0
theorem bx0_at {gs : List Gt} {i : Nat} {c : Str} {b : Int} {s : Nat} (h : gs[i]? = some (.box c b s)) : bx0 gs i = b := by
  unfold bx0
  rw [h]
/-- the turn of the first dict -/
def boxF : D → Option (Key × D)
  | .tuple [.int i, .tuple [_, _, .int b, _]] => some (.inl i, .int b)
  | _ => none
theorem boxF_at (i : Nat) (g : Gt) : (∃ c b s, g = .box c b s ∧ boxF (.tuple [.int (i : Int), g.d]) = some (keyI i, .int b)) ∨ ((∀ c b s, g ≠ .box c b s) ∧ boxF (.tuple [.int (i : Int), g.d]) = none) := by
  cases g with
  | box c b s => exact .inl ⟨c, b, s, rfl, rfl⟩
  | is b => exact .inr ⟨fun _ _ _ h => (by cases h), rfl⟩
  | inn p j => exact .inr ⟨fun _ _ _ h => (by cases h), rfl⟩
  | nt a => exact .inr ⟨fun _ _ _ h => (by cases h), rfl⟩
  | two o a b => exact .inr ⟨fun _ _ _ h => (by cases h), rfl⟩
theorem box_list : ∀ (gs : List Gt) (k : Nat), (pairsF k (gs.map Gt.d)).filterMap boxF = (bxs k gs).map fun x => (keyI x.i, .int x.b)
  | [], _ => rfl
  | g :: r, k => by
    show (PyData.tuple [.int (k : Int), g.d] :: pairsF (k + 1) (r.map Gt.d)).filterMap boxF = _
    rw [List.filterMap_cons, box_list r (k + 1)]
    rcases boxF_at k g with ⟨c, b, s, rfl, e⟩ | ⟨n, e⟩
    · rw [e]
      rfl
    · rw [e]
      rcases bxs_cons k g r with ⟨c, b, s, e1, _⟩ | ⟨_, e2⟩
      · exact absurd e1 (n _ _ _)
      · rw [e2]
theorem box_first (gs : List Gt) : (pairs (gs.map Gt.d)).filterMap boxF = bxK gs (bx0 gs) := by
  rw [pairs_eq, box_list]
  unfold bxK ixs
  rw [List.map_map]
  refine List.map_congr_left fun x hx => ?_
  obtain ⟨j, e, h⟩ := bxs_mem.mp hx
  rw [Nat.zero_add] at e
  show (keyI x.i, PyData.int x.b) = (keyI x.i, .int (bx0 gs x.i))
  rw [e, bx0_at h]
/-! ### the beats -/
abbrev Row := List Str × List Int
def rowD (r : Row) : D := .tuple [.tuple (r.1.map .str), .tuple (r.2.map .int)]
def knK (ps : List Str) (vs : List Int) : List (Key × D) := (ps.zip vs).map fun p => (.inr p.1, .int p.2)
def knW (ps : List Str) (vs : List Int) (p : Str) : Int := ((ps.zip vs).lookup p).getD 0
theorem knK_keys : ∀ {ps : List Str} {vs : List Int}, vs.length = ps.length → (knK ps vs).map (·.1) = ps.map Sum.inr
  | [], _, _ => by cases ‹List Int› <;> rfl
  | p :: ps, [], h => by cases h
  | p :: ps, v :: vs, h => by
    show (Sum.inr p : Key) :: (knK ps vs).map (·.1) = _
    rw [knK_keys (Nat.succ.inj h)]
    rfl
theorem knK_nodup {ps : List Str} {vs : List Int} (h : vs.length = ps.length) (n : ps.Nodup) : ((knK ps vs).map (·.1)).Nodup := by
  rw [knK_keys h]
  exact List.Pairwise.map _ (fun a b h z => h (by injection z)) n
theorem knK_val : ∀ {ps : List Str} {vs : List Int} {p : Str}, vs.length = ps.length → p ∈ ps → valDD (kvsD (knK ps vs)) (.inr p) = some (.int (knW ps vs p))
  | [], _, _, _, h => by cases h
  | q :: ps, [], _, h, _ => by cases h
  | q :: ps, v :: vs, p, h, hm => by
    rw [valDD_kvs]
    show (if (Sum.inr q : Key) = Sum.inr p then some (PyData.int v) else valKD (knK ps vs) (.inr p)) = some (.int (((((q, v) :: ps.zip vs).lookup p)).getD 0))
    by_cases e : q = p
    · subst e
      rw [if_pos rfl, List.lookup_cons_self]
      rfl
    · rw [if_neg (fun z => e (by injection z)), List.lookup_cons, beq_false_of_ne (fun z => e z.symm), ← valDD_kvs]
      exact knK_val (Nat.succ.inj h) ((List.mem_cons.mp hm).resolve_left fun z => e z.symm)
def nextB (gs : List Gt) (bx : Nat → Int) (now : List Int) (ts : List Str) (i : Nat) : Int := match gs[i]? with
  | some (.box c _ s) => if c ∈ ts then now.getD s 0 else bx i
  | _ => 0
def nowB (gs : List Gt) (ps : List Str) (bx : Nat → Int) (r : Row) : List Int := runG bx (knW ps r.2) gs
def stepB (gs : List Gt) (ps : List Str) (st : (Nat → Int) × List (List Int)) (r : Row) : (Nat → Int) × List (List Int) := (nextB gs st.1 (nowB gs ps st.1 r) r.1, st.2 ++ [nowB gs ps st.1 r])
def runB (gs : List Gt) (ps : List Str) (rs : List Row) : (Nat → Int) × List (List Int) := rs.foldl (stepB gs ps) (bx0 gs, [])
theorem runB_take {gs : List Gt} {ps : List Str} {rs : List Row} {i : Nat} {r : Row} (h : rs[i]? = some r) : runB gs ps (rs.take (i + 1)) = stepB gs ps (runB gs ps (rs.take i)) r := by
  rw [take_snoc h]
  unfold runB
  rw [List.foldl_append]
  rfl
theorem runB_len (gs : List Gt) (ps : List Str) (rs : List Row) : (runB gs ps rs).2.length = rs.length := by
  have key : ∀ (rs : List Row) st, (rs.foldl (stepB gs ps) st).2.length = st.2.length + rs.length := fun rs => by
    induction rs with
    | nil => intro st; rfl
    | cons r rs ih =>
      intro st
      rw [List.foldl_cons, ih, List.length_cons]
      show (st.2 ++ [_]).length + _ = _
      rw [List.length_append, List.length_cons, List.length_nil]
      omega
  have := key rs (bx0 gs, [])
  rw [List.length_nil, Nat.zero_add] at this
  exact this
theorem runB_rows (gs : List Gt) (ps : List Str) (rs : List Row) : ∀ now ∈ (runB gs ps rs).2, now.length = gs.length := by
  have key : ∀ (rs : List Row) st, (∀ now ∈ st.2, now.length = gs.length) → ∀ now ∈ (rs.foldl (stepB gs ps) st).2, now.length = gs.length := fun rs => by
    induction rs with
    | nil => intro st h; exact h
    | cons r rs ih =>
      intro st h
      rw [List.foldl_cons]
      refine ih _ fun now hn => ?_
      rcases List.mem_append.mp hn with hn | hn
      · exact h now hn
      · rw [List.mem_singleton.mp hn]
        exact run_len _ _ gs
  exact key rs _ (fun now hn => by cases hn)
structure WfB (gs : List Gt) (ps : List Str) (rs : List Row) : Prop where
  g : WfG gs
  inn : ∀ (i : Nat) p k, gs[i]? = some (.inn p k) → p ∈ ps
  nd : ps.Nodup
  few : ps.length ≤ 10
  rows : rs.length ≤ 100
  wide : ∀ r ∈ rs, r.2.length = ps.length
def rowsD (rows : List (List Int)) : List D := rows.map fun r => .list (bitsD r)
def wavesD (n : Nat) (rows : List (List Int)) : D := .tuple ((List.range n).map fun k => .tuple (rows.map fun r => .int (r.getD k 0)))
theorem var_by {i : Nat} {env : DEnv} {x : D} {Pd : D → DEnv → Prop} (h : env[i]? = some (.d x)) (p : Pd x env) : mVar i env Pd := by
  unfold mVar
  rw [h]
  exact p
theorem rangeD_mem {n : Nat} {x : D} (h : x ∈ rangeD 0 n) : ∃ k : Nat, k < n ∧ x = .int (k : Int) := by
  unfold rangeD at h
  obtain ⟨k, hk, rfl⟩ := List.mem_map.mp h
  exact ⟨k, List.mem_range.mp hk, by rw [Int.zero_add]⟩
theorem rangeD_len' (n : Nat) : (rangeD 0 n).length = n := by
  unfold rangeD
  rw [List.length_map, List.length_range]
/-- tuple([row[k] for row in rows]) for each k -/
theorem waves_loop {a l b nb n : Nat} {rows : List (List Int)} {env : DEnv} {Pd : List D → Prop} (h0 : nb = 0) (hl : env[l]? = some (.d (.list (rowsD rows)))) (ha : env[a]? = some .un) (hb : env[b]? = some .un) (hal : a ≠ l) (hab : a ≠ b) (hbl : b ≠ l)
    (hr : ∀ r ∈ rows, r.length = n) (hz : rows.length ≤ 1000) (hn : n ≤ 1000) (hP : Pd ((List.range n).map fun k => .tuple (rows.map fun r => .int (r.getD k 0)))) :
    mLcL (gNm a) mYes (mCB dTupOf (mCons (mPubF (mLcC nb 0 (miSeq (mVar l)) (gNm b) mYes (mOp dIx (mVar b) (mVar a)) [b])) mNil)) [a] (rangeD 0 n) [] env Pd := by
  subst h0
  have big : (1000 : Nat) ≤ sizeLine := by decide
  have la : a < env.length := (List.getElem?_eq_some_iff.mp ha).1
  have lb : b < env.length := (List.getElem?_eq_some_iff.mp hb).1
  refine lcl_fun (fun x => match x with
    | .int k => some (.tuple (rows.map fun r => .int (r.getD k.toNat 0)))
    | _ => none) _ _ (fun x hx k hk => ?_) (by rw [rangeD_len', List.length_nil]; omega) ?_
  · obtain ⟨j, hj, rfl⟩ := rangeD_mem hx
    refine ⟨rfl, ?_⟩
    dsimp only [mCB, mCons, mPubF, mLcC, miSeq, mNil, wipeE]
    refine var_by (by rw [List.getElem?_set_ne hal, List.getElem?_set_ne hal]; exact hl) ?_
    refine ⟨Nat.le_of_eq (Nat.mul_zero _), fun i hi w c => ?_, ?_⟩
    · rw [List.mem_singleton.mp hi, List.getElem?_set_ne hab, List.getElem?_set_ne hab, hb]
      exact fun z => by cases z
    · refine lcl_fun (fun x => match x with
        | .list ds => ds[j]?
        | _ => none) _ _ (fun y hy k2 hk2 => ?_) (by unfold rowsD; rw [List.length_map, List.length_nil]; omega) ?_
      · obtain ⟨r, hm, rfl⟩ := List.mem_map.mp hy
        have hrj : j < r.length := by rw [hr r hm]; exact hj
        have ej : (bitsD r)[j]? = some (.int (r.getD j 0)) := by
          unfold bitsD
          rw [List.getElem?_map, List.getElem?_eq_getElem hrj]
          simp [hrj]
        refine ⟨rfl, ?_⟩
        dsimp only [mOp, wipeE]
        refine var_by (by rw [List.getElem?_set_self (by simpa using lb)]) ?_
        refine var_by (x := .int j) (by rw [List.getElem?_set_ne hab.symm, List.getElem?_set_ne hab.symm, List.getElem?_set_self (by simpa using la)]) ?_
        refine ⟨_, atI_nat ej, rfl, ?_⟩
        rw [← ej]
        exact hk2
      · rw [List.nil_append]
        have e : (rowsD rows).filterMap (fun x => match x with
            | .list ds => ds[j]?
            | _ => none) = rows.map fun r => PyData.int (r.getD j 0) := by
          unfold rowsD
          rw [List.filterMap_map]
          have : ∀ rs : List (List Int), (∀ r ∈ rs, j < r.length) → rs.filterMap ((fun x => match x with
              | PyData.list ds => ds[j]?
              | _ => none) ∘ fun r => PyData.list (bitsD r)) = rs.map fun r => PyData.int (r.getD j 0) := fun rs => by
            induction rs with
            | nil => intro _; rfl
            | cons r rs ih =>
              intro h
              have hrj := h r List.mem_cons_self
              have ej : (bitsD r)[j]? = some (.int (r.getD j 0)) := by
                unfold bitsD
                rw [List.getElem?_map, List.getElem?_eq_getElem hrj]
                simp [hrj]
              have ej' : ((fun x => match x with
                | PyData.list ds => ds[j]?
                | _ => none) ∘ fun r => PyData.list (bitsD r)) r = some (PyData.int (r.getD j 0)) := ej
              rw [List.filterMap_cons, ej', List.map_cons, ih fun z hz => h z (List.mem_cons_of_mem _ hz)]
          exact this rows fun r hm => by rw [hr r hm]; exact hj
        rw [e]
        exact ⟨rfl, hk⟩
  · rw [List.nil_append]
    have e : (rangeD 0 n).filterMap (fun x => match x with
        | .int k => some (PyData.tuple (rows.map fun r => .int (r.getD k.toNat 0)))
        | _ => none) = (List.range n).map fun k => PyData.tuple (rows.map fun r => .int (r.getD k 0)) := by
      unfold rangeD
      rw [List.filterMap_map]
      have : ∀ ks : List Nat, ks.filterMap ((fun x => match x with
          | PyData.int k => some (PyData.tuple (rows.map fun r => .int (r.getD k.toNat 0)))
          | _ => none) ∘ fun (i : Nat) => PyData.int (0 + (i : Int))) = ks.map fun k => PyData.tuple (rows.map fun r => .int (r.getD k 0)) := fun ks => by
        induction ks with
        | nil => rfl
        | cons k ks ih =>
          have e : ((fun x => match x with
            | PyData.int k => some (PyData.tuple (rows.map fun r => .int (r.getD k.toNat 0)))
            | _ => none) ∘ fun (i : Nat) => PyData.int (0 + (i : Int))) k = some (PyData.tuple (rows.map fun r => .int (r.getD k 0))) := by
            show some (PyData.tuple (rows.map fun r => .int (r.getD (0 + (k : Int)).toNat 0))) = _
            rw [Int.zero_add, Int.toNat_natCast]
          rw [List.filterMap_cons, e, List.map_cons, ih]
      exact this _
    rw [e]
    exact hP
theorem cost0 {n nb c : Nat} (h : nb = 0) : n * nb ≤ c := by
  subst h
  rw [Nat.mul_zero]
  exact Nat.zero_le _
theorem no_one {env : DEnv} {a : Nat} (h : env[a]? = some .un) : noOwn env [a] := fun i hi w c => by
  rw [List.mem_singleton.mp hi, h]
  exact fun z => by cases z
theorem no_two {env : DEnv} {a b : Nat} (h : env[a]? = some .un) (h2 : env[b]? = some .un) : noOwn env [a, b] := fun i hi w c => by
  rcases List.mem_cons.mp hi with rfl | hi
  · rw [h]
    exact fun z => by cases z
  · rw [List.mem_singleton.mp hi, h2]
    exact fun z => by cases z
theorem no_three {env : DEnv} {a b d : Nat} (h : env[a]? = some .un) (h2 : env[b]? = some .un) (h3 : env[d]? = some .un) : noOwn env [a, b, d] := fun i hi w c => by
  rcases List.mem_cons.mp hi with rfl | hi
  · rw [h]
    exact fun z => by cases z
  · exact no_two h2 h3 i hi w c
theorem waves_expr {a l b nb nb2 n : Nat} {rows : List (List Int)} {gsD : List D} {mg : ME} {env : DEnv} {Pd : D → DEnv → Prop} (h1 : nb = 0) (h0 : nb2 = 0) (hm : ∀ Q : D → DEnv → Prop, Q (.tuple gsD) env → mg env Q) (hlg : gsD.length = n) (hl : env[l]? = some (.d (.list (rowsD rows)))) (ha : env[a]? = some .un) (hb : env[b]? = some .un) (hal : a ≠ l) (hab : a ≠ b) (hbl : b ≠ l)
    (hr : ∀ r ∈ rows, r.length = n) (hz : rows.length ≤ 1000) (hn : n ≤ 1000) (hP : Pd (wavesD n rows) env) :
    mCB dTupOf (mCons (mPubF (mLcC nb 0 (miRng1 (mCons (mCB dLenX (mCons mg mNil)) mNil)) (gNm a) mYes (mCB dTupOf (mCons (mPubF (mLcC nb2 0 (miSeq (mVar l)) (gNm b) mYes (mOp dIx (mVar b) (mVar a)) [b])) mNil)) [a])) mNil) env Pd := by
  subst hlg
  unfold mCB
  dsimp only [mCons, mPubF, mLcC, miRng1, mNil]
  refine hm _ ?_
  refine ⟨by omega, by omega, cost0 h1, no_one ha, ?_⟩
  exact waves_loop h0 hl ha hb hal hab hbl hr hz hn hP
end L34
namespace L34
open PySem PySem.Spec PyProof.Rows L2 DL
def insD (x : Str × Int) : D := .tuple [.str x.1, .int x.2]
def netD (gs : List Gt) (a b : D) : D := .tuple [.tuple (gs.map Gt.d), a, b]
def spWaves : List EV → (D → Prop) → Prop := fun as P => ∃ (gs : List Gt) (ta to : D) (ins : List (Str × Int)) (rs : List Row), as = [.d (netD gs ta to), .d (.tuple (rs.map rowD)), .d (.tuple (ins.map insD))] ∧ WfB gs (ins.map (·.1)) rs ∧
  P (wavesD gs.length (runB gs (ins.map (·.1)) rs).2)
/-- the turn of the dict of worths -/
def knF : D → Option (Key × D)
  | .tuple [.tuple [.str p, _], .int v] => some (.inr p, .int v)
  | _ => none
theorem kn_list : ∀ (ins : List (Str × Int)) (vs : List Int), (zipD (ins.map insD) (vs.map .int)).filterMap knF = knK (ins.map (·.1)) vs
  | [], _ => by cases ‹List Int› <;> rfl
  | x :: ins, [] => rfl
  | x :: ins, v :: vs => by
    show (PyData.tuple [insD x, .int v] :: zipD (ins.map insD) (vs.map .int)).filterMap knF = _
    rw [List.filterMap_cons, kn_list ins vs]
    rfl
theorem zip_mem : ∀ {ins : List (Str × Int)} {vs : List Int} {x : D}, x ∈ zipD (ins.map insD) (vs.map .int) → ∃ a v, x = .tuple [insD a, .int v]
  | [], vs, x, h => by cases vs <;> cases h
  | a :: ins, [], x, h => by cases h
  | a :: ins, v :: vs, x, h => by
    rcases List.mem_cons.mp h with rfl | h
    · exact ⟨a, v, rfl⟩
    · exact zip_mem h
theorem bx_items (gs : List Gt) (v : Nat → Int) : ditems (kvsD (bxK gs v)) = (ixs gs).map fun i => .tuple [.int (i : Int), .int (v i)] := by
  unfold ditems kvsD bxK
  rw [List.map_map, List.map_map]
  rfl
def heldF (gs : List Gt) (v : Nat → Int) (now : List Int) (ts : List Str) : D → Option (Key × D)
  | .tuple [.int i, _] => some (.inl i, .int (nextB gs v now ts i.toNat))
  | _ => none
theorem held_list (gs : List Gt) (v : Nat → Int) (now : List Int) (ts : List Str) : (ditems (kvsD (bxK gs v))).filterMap (heldF gs v now ts) = bxK gs (nextB gs v now ts) := by
  rw [bx_items]
  unfold bxK
  induction ixs gs with
  | nil => rfl
  | cons i r ih =>
    rw [List.map_cons, List.filterMap_cons, ih]
    rfl
theorem pub_ret {i : Nat} {m : ME} {E : DEnds} {env : DEnv} {xs : List D} (h : env[i]? = some (.mo none (.lst xs))) (p : m (env.set i (.d (.list xs))) E.rt) : sPub i (sRet m) E env := by
  unfold sPub
  rw [h]
  exact p
theorem step_call {i j k n : Nat} {sp : List EV → (D → Prop) → Prop} {rest : MS} {E : DEnds} {env : DEnv} {x : D} {b c : List (Key × D)} (hjk : j ≠ k) (h1 : env[i]? = some (.d x)) (h2 : env[j]? = some (.mo none (.dic b))) (h3 : env[k]? = some (.mo none (.dic c)))
    (h : sp [.d x, .d (.dict (kvsD b)), .d (.dict (kvsD c))] fun z => rest E (((env.set j (.d (.dict (kvsD b)))).set k (.d (.dict (kvsD c)))).set n (.d z))) : sSeq (sSet n (mCall sp (mCons (mVar i) (mCons (mVar j) (mCons (mVar k) mNil))))) rest E env := by
  unfold sSeq sSet mCall mCons mNil
  have e1 : ∀ Pd : D → DEnv → Prop, Pd x env → mVar i env Pd := fun Pd p => var_by h1 p
  have e2 : ∀ Pd : D → DEnv → Prop, Pd (.dict (kvsD b)) (env.set j (.d (.dict (kvsD b)))) → mVar j env Pd := fun Pd p => by
    unfold mVar
    rw [h2]
    exact p
  have e3 : ∀ Pd : D → DEnv → Prop, Pd (.dict (kvsD c)) ((env.set j (.d (.dict (kvsD b)))).set k (.d (.dict (kvsD c)))) → mVar k (env.set j (.d (.dict (kvsD b)))) Pd := fun Pd p => by
    unfold mVar
    rw [List.getElem?_set_ne hjk, h3]
    exact p
  exact e1 _ (e2 _ (e3 _ h))
theorem op_by {f : D → D → (D → Prop) → Prop} {a b : ME} {env : DEnv} {x : D} {Pd : D → DEnv → Prop} (ha : ∀ Q : D → DEnv → Prop, Q x env → a env Q) (hb : b env fun y e2 => f x y fun z => Pd z e2) : mOp f a b env Pd := ha _ hb
theorem held_val {env : DEnv} {gsD : List D} {NW : List Int} {ts : List Str} {c : Str} {b hv : Int} {z j : Nat} {Pd : D → DEnv → Prop} (h3 : env[3]? = some (.d (.tuple gsD))) (h8 : env[8]? = some (.d (.tuple (ts.map .str)))) (h11 : env[11]? = some (.d (.list (bitsD NW))))
    (h12 : env[12]? = some (.d (.int (j : Int)))) (h17 : env[17]? = some (.d (.int hv))) (hg : gsD[j]? = some (.tuple [.str "box", .str c, .int b, .int (z : Int)])) (hz : z < NW.length) (hP : Pd (.int (if c ∈ ts then NW.getD z 0 else hv)) env) :
    mIf (mCmpT cInX (mOp dIx (mOp dIx (mVar 3) (mVar 12)) (mC (.int 1))) (mVar 8)) (mOp dIx (mVar 11) (mOp dIx (mOp dIx (mVar 3) (mVar 12)) (mC (.int 3)))) (mVar 17) env Pd := by
  have ix : ∀ (k : Int) (x : D) (Q : D → DEnv → Prop), atI [.str "box", .str c, .int b, .int (z : Int)] k = some x → Q x env → mOp dIx (mOp dIx (mVar 3) (mVar 12)) (mC (.int k)) env Q := fun k x Q hx q =>
    op_by (x := .tuple [.str "box", .str c, .int b, .int (z : Int)]) (fun Q q => op_by (fun Q q => var_by h3 q) (var_by h12 ⟨_, atI_nat hg, q⟩)) ⟨x, hx, q⟩
  unfold mIf mCmpT
  refine ix 1 (.str c) _ rfl (var_by h8 ⟨⟨rfl, flat_strs ts⟩, ?_⟩)
  rw [inD_strs]
  refine dec_ite (fun hm => ?_) (fun hm => ?_)
  · rw [if_pos hm] at hP
    exact op_by (fun Q q => var_by h11 q) (ix 3 (.int (z : Int)) _ rfl ⟨_, at_bits hz, hP⟩)
  · rw [if_neg hm] at hP
    exact var_by h17 hP
section
variable {P : Program} {w : World} {K : PySem.W.Frag} {mg : Str → Option Value} {base : Heap}
theorem ok_gate_waves {f : Addr} {fd : FuncData} (T : Tb K mg) (c_at_once : Cal P w K mg base "at_once" 1 ["gates", "boxes", "worths"] 0 spOnce) (F : Fun K "gate_waves" "gate_waves" s_gate_waves f fd) : FnG P w K mg base CX0 2 f fd ["net", "beats", "ins"] (spD K 0 spWaves) := by
  have nd := sc_gate_waves.nd
  refine okDG (k := 1) F sc_gate_waves (fun as Q h => by obtain ⟨gs, ta, to, ins, rs, rfl, _⟩ := h; rfl) (fun cdv A fs s H E hr => have hu := hr.rm.units; have hu2 := hu2_of hr.rm; (gss_cons (gs_asg (ge_var 0) (gg_tup (n := 3) rfl (ggs_cons (i := 3) (vs := [3, 4, 5]) nd rfl (.inr rfl) (by decide) (ggs_cons (i := 4) (vs := [3, 4, 5]) nd rfl (.inl rfl) (by decide) (ggs_cons (i := 5) (vs := [3, 4, 5]) nd rfl (.inl rfl) (by decide) ggs_nil)))))
      (gss_cons (gs_setDc (j := 6) 0 rfl nd rfl rfl (sw_trueD rfl rfl rfl (by decide +kernel)) (gi_enumT (by rfl) T.n_enumerate (ga_cons (ge_var 3) ga_nil)) (blkOk_by (own := [("number", 12), ("gate", 13)]) (N := N_gate_waves) (sc := defScope s_gate_waves) (by decide +kernel)) (fun _ _ _ _ _ => (gg_tup (n := 2) rfl (ggs_cons (i := 12) (vs := (List.map (·.2) ([("number", 12), ("gate", 13)] : List (Str × Nat)))) nd rfl (.inl rfl) (by decide) (ggs_cons (i := 13) (vs := (List.map (·.2) ([("number", 12), ("gate", 13)] : List (Str × Nat)))) nd rfl (.inl rfl) (by decide) ggs_nil)))) (fun _ _ _ _ _ => (gts_one (gt_cmp (od_eq hu) (ge_ix od_ix (ge_var 13) ge_int (fun _ _ => rfl)) ge_str (nomark _)))) (fun _ _ _ _ _ => (ge_var 12)) (fun _ _ _ _ _ => (ge_ix od_ix (ge_var 13) ge_int (fun _ _ => rfl))))
      (gss_cons (gs_setF (i := 7) nd rfl (.inr rfl) (gf_lst ga_nil))
      (gss_cons (gs_forC 0 PassesOwn.never rfl (gi_tup (ge_var 1)) (gg_tup (n := 2) rfl (ggs_cons (i := 8) (vs := [8, 9]) nd rfl (.inr rfl) (by decide) (ggs_cons (i := 9) (vs := [8, 9]) nd rfl (.inl rfl) (by decide) ggs_nil))) (gss_cons (gs_setDc (j := 10) 0 rfl nd rfl rfl (sw_trueD rfl rfl rfl (by decide +kernel)) (gi_zipS (by rfl) T.n_zip (ga_cons (ge_var 2) (ga_cons (ge_var 9) ga_nil))) (blkOk_by (own := [("worth", 14), ("path", 15), ("wide", 16)]) (N := N_gate_waves) (sc := defScope s_gate_waves) (by decide +kernel)) (fun _ _ _ _ _ => (gg_tup (n := 2) rfl (ggs_consG (gg_tup (n := 2) rfl (ggs_cons (i := 15) (vs := (List.map (·.2) ([("worth", 14), ("path", 15), ("wide", 16)] : List (Str × Nat)))) nd rfl (.inl rfl) (by decide) (ggs_cons (i := 16) (vs := (List.map (·.2) ([("worth", 14), ("path", 15), ("wide", 16)] : List (Str × Nat)))) nd rfl (.inl rfl) (by decide) ggs_nil))) (ggs_cons (i := 14) (vs := (List.map (·.2) ([("worth", 14), ("path", 15), ("wide", 16)] : List (Str × Nat)))) nd rfl (.inl rfl) (by decide) ggs_nil)))) (fun _ _ _ _ _ => gts_nil) (fun _ _ _ _ _ => (ge_var 15)) (fun _ _ _ _ _ => (ge_var 14)))
      (gss_cons (gs_set (i := 11) nd rfl (.inr rfl) (ge_cal c_at_once (hr.mono (by first | decide | omega)) (by rfl) (ga_cons (ge_var 3) (ga_cons (ge_var 6) (ga_cons (ge_var 10) ga_nil)))))
      (gss_cons (gs_append (i := 7) rfl (.inr (.inl rfl)) (ge_var 11))
      (gss_one (gs_setDcDk (i := 6) (j := 6) 0 wk_items rfl nd rfl rfl (sw_trueD rfl rfl rfl (by decide +kernel)) (pi_items (pv 6)) (blkOk_by (own := [("number", 12), ("held", 17)]) (N := N_gate_waves) (sc := defScope s_gate_waves) (by decide +kernel)) (fun _ _ _ _ _ => (gg_tup (n := 2) rfl (ggs_cons (i := 12) (vs := (List.map (·.2) ([("number", 12), ("held", 17)] : List (Str × Nat)))) nd rfl (.inl rfl) (by decide) (ggs_cons (i := 17) (vs := (List.map (·.2) ([("number", 12), ("held", 17)] : List (Str × Nat)))) nd rfl (.inl rfl) (by decide) ggs_nil)))) (fun _ _ _ _ _ => gts_nil) (fun _ _ _ _ _ => (ge_var 12)) (fun _ _ _ _ _ => (ge_if (gt_cmp (od_inX hu) (ge_ix od_ix (ge_ix od_ix (ge_var 3) (ge_var 12) (fun _ _ => rfl)) ge_int (fun _ _ => rfl)) (ge_var 8) (by rfl)) (ge_ix od_ix (ge_var 11) (ge_ix od_ix (ge_ix od_ix (ge_var 3) (ge_var 12) (fun _ _ => rfl)) ge_int (fun _ _ => rfl)) (fun _ _ => rfl)) (ge_var 17)))))))))
      (gss_one (gs_pub 7 (gs_ret (ge_callTy cd_tuple (by rfl) T.n_tuple (by decide +kernel) (ga_cons (ge_pub (gf_lc 0 rfl nd (gi_range1 (by rfl) T.n_range (ga_cons (ge_callB cd_lenX (by rfl) T.n_len PySem.boot_len (ga_cons (ge_var 3) ga_nil)) ga_nil)) (blkOk_by (own := [("number", 12)]) (N := N_gate_waves) (sc := defScope s_gate_waves) (by decide +kernel)) (fun _ _ _ _ _ => (gg_name (i := 12) (vs := (List.map (·.2) ([("number", 12)] : List (Str × Nat)))) nd rfl (.inr rfl) (by decide))) (fun _ _ _ _ _ => gts_nil) (fun _ _ _ _ _ => (ge_callTy cd_tuple (by rfl) T.n_tuple (by decide +kernel) (ga_cons (ge_pub (gf_lc 0 rfl nd (gi_list (ge_var 7)) (blkOk_by (own := [("row", 18)]) (N := N_gate_waves) (by kernel_rfl)) (fun _ _ _ _ _ => (gg_name (i := 18) (vs := (List.map (·.2) ([("row", 18)] : List (Str × Nat)))) nd rfl (.inl rfl) (by decide))) (fun _ _ _ _ _ => gts_nil) (fun _ _ _ _ _ => (ge_ix od_ix (ge_var 18) (ge_var 12) (fun _ _ => rfl))))) ga_nil))))) ga_nil)))))))))) (by decide) (fun as Q h => ?_)
  obtain ⟨gs, ta, to, ins, rs, rfl, wf, hP⟩ := h
  have lg : gs.length ≤ 64 := wf.g.1
  have big : (1000 : Nat) ≤ sizeLine := by decide
  refine ⟨rfl, rfl, ?_⟩
  refine ⟨cost0 rfl, no_two rfl rfl, ?_⟩
  refine dcl_fun boxF _ _ (fun x hx k hk => ?_) (by rw [pairsD_len, List.length_map, List.length_nil]; omega) ?_ ?_
  · rw [pairs_eq] at hx
    obtain ⟨i, hi⟩ := List.mem_iff_getElem?.mp hx
    rw [pairsF_get, List.getElem?_map] at hi
    simp only [Option.map_map, Option.map_eq_some_iff, Nat.zero_add] at hi
    obtain ⟨g, hg, rfl⟩ := hi
    have e : ∃ z xs, g.d = .tuple (.str z :: xs) ∧ ((z = "box" ∧ ∃ c b s, g = .box c b s) ∨ (z ≠ "box" ∧ ∀ c b s, g ≠ .box c b s)) := by
      cases g with
      | box c b s => exact ⟨_, _, rfl, .inl ⟨rfl, c, b, s, rfl⟩⟩
      | is b => exact ⟨_, _, rfl, .inr ⟨by decide +kernel, fun _ _ _ h => by cases h⟩⟩
      | inn p j => exact ⟨_, _, rfl, .inr ⟨by decide +kernel, fun _ _ _ h => by cases h⟩⟩
      | nt a => exact ⟨_, _, rfl, .inr ⟨by decide +kernel, fun _ _ _ h => by cases h⟩⟩
      | two o a b =>
        refine ⟨_, _, rfl, .inr ⟨?_, fun _ _ _ h => by cases h⟩⟩
        match o with
        | 0 => decide +kernel
        | 1 => decide +kernel
        | n + 2 =>
          show ("xor" : Str) ≠ _
          decide +kernel
    obtain ⟨z, xs, ed, hz⟩ := e
    refine ⟨rfl, rfl, ?_⟩
    refine ix0 (i := 13) (x := .str z) (xs := xs) (by rw [← ed]; rfl) ?_
    refine ⟨rfl, dec_ite (fun e1 => ?_) (fun e1 => ?_)⟩
    · rcases hz with ⟨_, c, b, s, rfl⟩ | ⟨n, _⟩
      · exact ⟨rfl, _, rfl, rfl, _, rfl, hk⟩
      · exact absurd e1 n
    · rcases hz with ⟨n, _⟩ | ⟨_, n⟩
      · exact absurd n e1
      · rcases boxF_at i g with ⟨c, b, s, e2, _⟩ | ⟨_, e2⟩
        · exact absurd e2 (n _ _ _)
        · have hk : k (boxF (.tuple [.int (i : Int), g.d])) := hk
          rw [e2] at hk
          exact hk
  · rw [List.nil_append, box_first]
    exact bxK_nodup _ _
  rw [List.nil_append, box_first]
  refine ⟨by decide, cost0 rfl, ?_⟩
  refine sfor_by (fun i env => ∃ e8 e9 e10 e11, env = [.d (netD gs ta to), .d (.tuple (rs.map rowD)), .d (.tuple (ins.map insD)), .d (.tuple (gs.map Gt.d)), .d ta, .d to, .mo none (.dic (bxK gs (runB gs (ins.map (·.1)) (rs.take i)).1)),
    .mo none (.lst (rowsD (runB gs (ins.map (·.1)) (rs.take i)).2)), e8, e9, e10, e11, .un, .un, .un, .un, .un, .un, .un]) ⟨_, _, _, _, rfl⟩ (fun i it env N hit hI hN => ?_) fun env hI => ?_
  · obtain ⟨e8, e9, e10, e11, rfl⟩ := hI
    rw [List.getElem?_map, Option.map_eq_some_iff] at hit
    obtain ⟨r, hr, rfl⟩ := hit
    have wr := wf.wide r (List.mem_of_getElem? hr)
    have wr' : r.2.length = ins.length := by rw [wr, List.length_map]
    have er := runB_take (gs := gs) (ps := ins.map (·.1)) hr
    have ln : (runB gs (ins.map (·.1)) (rs.take i)).2.length ≤ 100 := by
      rw [runB_len, List.length_take]
      have := wf.rows
      omega
    generalize runB gs (ins.map (·.1)) (rs.take i) = st at er ln ⊢
    have few : ins.length ≤ 10 := by have := wf.few; rw [List.length_map] at this; exact this
    refine ⟨rfl, rfl, ?_⟩
    refine ⟨by rw [List.length_map, List.length_map, wr'], cost0 rfl, no_three rfl rfl rfl, ?_⟩
    have zl : (zipD (ins.map insD) (r.2.map .int)).length ≤ 10 := by
      unfold zipD
      rw [List.length_zipWith, List.length_map]
      omega
    refine dcl_fun knF _ _ (fun x hx k hk => ?_) (by rw [List.length_nil]; omega) ?_ ?_
    · obtain ⟨a, v, rfl⟩ := zip_mem hx
      exact ⟨rfl, rfl, rfl, rfl, rfl, rfl, rfl, _, rfl, hk⟩
    · rw [List.nil_append, kn_list]
      exact knK_nodup wr wf.nd
    rw [List.nil_append, kn_list]
    have hb1 : ∀ (j : Nat) c b s, gs[j]? = some (.box c b s) → valDD (kvsD (bxK gs st.1)) (.inl (j : Int)) = some (.int (st.1 j)) := fun j c b s hj => bxK_val hj
    have hk1 : ∀ (j : Nat) p k, gs[j]? = some (.inn p k) → valDD (kvsD (knK (ins.map (·.1)) r.2)) (.inr p) = some (.int (knW (ins.map (·.1)) r.2 p)) := fun j p k hj => knK_val wr (wf.inn j p k hj)
    dsimp only
    generalize hB : bxK gs st.1 = BB at hb1 ⊢
    generalize hK : knK (ins.map (·.1)) r.2 = KK at hk1 ⊢
    refine step_call (i := 3) (j := 6) (k := 10) (n := 11) (x := .tuple (gs.map Gt.d)) (b := BB) (c := KK) (by decide) rfl rfl rfl ?_
    refine ⟨gs, kvsD BB, kvsD KK, st.1, knW (ins.map (·.1)) r.2, rfl, wf.g, hb1, hk1, ?_⟩
    have hnl := run_len st.1 (knW (ins.map (·.1)) r.2) gs
    generalize hNW : runG st.1 (knW (ins.map (·.1)) r.2) gs = NW at hnl ⊢
    have lrw : (rowsD st.2).length ≤ 100 := by unfold rowsD; rw [List.length_map]; exact ln
    have rsn : rowsD (st.2 ++ [NW]) = rowsD st.2 ++ [.list (bitsD NW)] := by unfold rowsD; rw [List.map_append]; rfl
    generalize rowsD st.2 = RW at lrw rsn ⊢
    refine ⟨⟨_, rfl⟩, (by omega), ?_⟩
    have bi : ditems (kvsD BB) = (ixs gs).map fun i => .tuple [.int (i : Int), .int (st.1 i)] := by rw [← hB]; exact bx_items gs st.1
    have hl := held_list gs st.1 NW r.1
    rw [hB] at hl
    have il : (ditems (kvsD BB)).length ≤ 64 := by
      rw [bi, List.length_map]
      have := ixs_len gs
      omega
    refine ⟨cost0 rfl, no_two rfl rfl, ?_⟩
    refine dcl_fun (heldF gs st.1 NW r.1) _ _ (fun x hx k hk => ?_) (by rw [List.length_nil]; exact Nat.le_trans (by omega) big) ?_ ?_
    · have hx : x ∈ ditems (kvsD BB) := hx
      rw [bi] at hx
      obtain ⟨j, hj, rfl⟩ := List.mem_map.mp hx
      obtain ⟨c, b, z, hg⟩ := ixs_mem.mp hj
      have wz : z < gs.length := (wf.g.2 _ _ hg).2
      have gd : (gs.map Gt.d)[j]? = some (.tuple [.str "box", .str c, .int b, .int (z : Int)]) := by rw [List.getElem?_map, hg]; rfl
      have hk : k (some (.inl (j : Int), .int (nextB gs st.1 NW r.1 (j : Int).toNat))) := hk
      rw [Int.toNat_natCast] at hk
      unfold nextB at hk
      rw [hg] at hk
      have hk : k (some (.inl (j : Int), .int (if c ∈ r.1 then NW.getD z 0 else st.1 j))) := hk
      exact ⟨rfl, rfl, rfl, rfl, held_val (NW := NW) (ts := r.1) rfl rfl rfl rfl rfl gd (by rw [hnl]; exact wz) ⟨rfl, _, rfl, hk⟩⟩
    · rw [List.nil_append, hl]
      exact bxK_nodup _ _
    rw [List.nil_append, hl]
    have e1 : bxK gs (runB gs (ins.map (·.1)) (rs.take (i + 1))).1 = bxK gs (nextB gs st.1 NW r.1) := by
      rw [er]
      unfold stepB nowB
      rw [hNW]
    have e2 : rowsD (runB gs (ins.map (·.1)) (rs.take (i + 1))).2 = RW ++ [.list (bitsD NW)] := by
      rw [er]
      unfold stepB nowB
      rw [hNW, rsn]
    generalize bxK gs (nextB gs st.1 NW r.1) = NB at e1 ⊢
    refine hN _ ⟨.d (.tuple (r.1.map .str)), .d (.tuple (r.2.map .int)), .d (.dict (kvsD KK)), .d (.list (bitsD NW)), ?_⟩
    rw [e1, e2]
    rfl
  · obtain ⟨e8, e9, e10, e11, rfl⟩ := hI
    have tl : rs.take (rs.map rowD).length = rs := by rw [List.length_map, List.take_length]
    rw [tl]
    have f1 := runB_len gs (ins.map (·.1)) rs
    have f2 := runB_rows gs (ins.map (·.1)) rs
    have f3 := wf.rows
    generalize runB gs (ins.map (·.1)) rs = st at f1 f2 hP ⊢
    generalize bxK gs st.1 = BB
    dsimp only
    refine pub_ret (i := 7) (xs := rowsD st.2) rfl ?_
    exact waves_expr (a := 12) (l := 7) (b := 18) (n := gs.length) (rows := st.2) (gsD := gs.map Gt.d) rfl rfl (fun Q q => q) (List.length_map ..) rfl rfl rfl (by decide) (by decide) (by decide) f2 (by omega) (by omega) hP
end
end L34
namespace L34
open PySem PySem.Spec PyProof.Rows L2 DL
abbrev In := Str × Nat × Str
def inD' (x : In) : D := .tuple [.str "in", .str x.1, .int (x.2.1 : Int), .str x.2.2]
def flatIn (ins : List In) (ow : Int) (nm : List D) : List D := ins.map inD' ++ [.tuple [.str "out", .str "y", .int ow, .tuple nm]]
def spBeats : List EV → (D → Prop) → Prop := fun as P => ∃ (gs : List Gt) (ins : List In) (ow : Int) (nm : List D) (rs : List Row), as = [.d (.tuple (gs.map Gt.d)), .d (.tuple (flatIn ins ow nm)), .d (.tuple (rs.map rowD))] ∧ WfB gs (ins.map (·.1)) rs ∧
  P (.list (rowsD (runB gs (ins.map (·.1)) rs).2))
/-- the turns -/
def boxP : D → Option D
  | .tuple [.int i, .tuple [_, _, .int b, _]] => some (.tuple [.int i, .int b])
  | _ => none
theorem boxP_at (i : Nat) (g : Gt) : (∃ c b s, g = .box c b s ∧ boxP (.tuple [.int (i : Int), g.d]) = some (.tuple [.int (i : Int), .int b])) ∨ ((∀ c b s, g ≠ .box c b s) ∧ boxP (.tuple [.int (i : Int), g.d]) = none) := by
  cases g with
  | box c b s => exact .inl ⟨c, b, s, rfl, rfl⟩
  | is b => exact .inr ⟨fun _ _ _ h => (by cases h), rfl⟩
  | inn p j => exact .inr ⟨fun _ _ _ h => (by cases h), rfl⟩
  | nt a => exact .inr ⟨fun _ _ _ h => (by cases h), rfl⟩
  | two o a b => exact .inr ⟨fun _ _ _ h => (by cases h), rfl⟩
theorem boxP_list : ∀ (gs : List Gt) (k : Nat), (pairsF k (gs.map Gt.d)).filterMap boxP = (bxs k gs).map fun x => .tuple [.int (x.i : Int), .int x.b]
  | [], _ => rfl
  | g :: r, k => by
    show (PyData.tuple [.int (k : Int), g.d] :: pairsF (k + 1) (r.map Gt.d)).filterMap boxP = _
    rw [List.filterMap_cons, boxP_list r (k + 1)]
    rcases boxP_at k g with ⟨c, b, s, rfl, e⟩ | ⟨n, e⟩
    · rw [e]
      rfl
    · rw [e]
      rcases bxs_cons k g r with ⟨c, b, s, e1, _⟩ | ⟨_, e2⟩
      · exact absurd e1 (n _ _ _)
      · rw [e2]
theorem pairs_bx : ∀ l : List Bx, pairsKD (l.map fun x => PyData.tuple [.int (x.i : Int), .int x.b]) = some (l.map fun x => (keyI x.i, .int x.b))
  | [] => rfl
  | x :: l => by
    show (match keyOf (.int (x.i : Int)), pairsKD (l.map fun x => PyData.tuple [.int (x.i : Int), .int x.b]) with
      | some k, some r => some ((k, PyData.int x.b) :: r)
      | _, _ => none) = _
    rw [pairs_bx l]
    rfl
theorem box_pairs (gs : List Gt) : pairsKD ((pairs (gs.map Gt.d)).filterMap boxP) = some (bxK gs (bx0 gs)) := by
  rw [pairs_eq, boxP_list, pairs_bx, ← box_first, pairs_eq, box_list]
theorem kn_pairs : ∀ (ps : List Str) (vs : List Int), pairsKD (zipD (ps.map .str) (vs.map .int)) = some (knK ps vs)
  | [], vs => by cases vs <;> rfl
  | p :: ps, [] => rfl
  | p :: ps, v :: vs => by
    show (match keyOf (.str p), pairsKD (zipD (ps.map .str) (vs.map .int)) with
      | some k, some r => some ((k, PyData.int v) :: r)
      | _, _ => none) = _
    rw [kn_pairs ps vs]
    rfl
def pathF : D → Option D
  | .tuple [_, .str p, _, .str _] => some (.str p)
  | _ => none
theorem path_list (ins : List In) (ow : Int) (nm : List D) : (flatIn ins ow nm).filterMap pathF = (ins.map (·.1)).map .str := by
  unfold flatIn
  rw [List.filterMap_append]
  have : ∀ l : List In, (l.map inD').filterMap pathF = (l.map (·.1)).map .str := fun l => by
    induction l with
    | nil => rfl
    | cons x l ih =>
      rw [List.map_cons, List.filterMap_cons, ih]
      rfl
  rw [this]
  exact List.append_nil _
theorem gt_word (g : Gt) : ∃ z xs, g.d = .tuple (.str z :: xs) ∧ ((z = "box" ∧ ∃ c b s, g = .box c b s) ∨ (z ≠ "box" ∧ ∀ c b s, g ≠ .box c b s)) := by
  cases g with
  | box c b s => exact ⟨_, _, rfl, .inl ⟨rfl, c, b, s, rfl⟩⟩
  | is b => exact ⟨_, _, rfl, .inr ⟨by decide +kernel, fun _ _ _ h => by cases h⟩⟩
  | inn p j => exact ⟨_, _, rfl, .inr ⟨by decide +kernel, fun _ _ _ h => by cases h⟩⟩
  | nt a => exact ⟨_, _, rfl, .inr ⟨by decide +kernel, fun _ _ _ h => by cases h⟩⟩
  | two o a b =>
    refine ⟨_, _, rfl, .inr ⟨?_, fun _ _ _ h => by cases h⟩⟩
    match o with
    | 0 => decide +kernel
    | 1 => decide +kernel
    | n + 2 =>
      show ("xor" : Str) ≠ _
      decide +kernel
theorem pairs_by {xs : List D} {ms : List (Key × D)} {A : List (Key × D) → Prop} (h : pairsKD xs = some ms) (p : A ms) : match pairsKD xs with
    | some ms => A ms
    | none => False := by
  rw [h]
  exact p
theorem merge_0 {ms : List (Key × D)} (h : (ms.map (·.1)).Nodup) : mergeKD [] ms = ms := mergeKD_new (ks := []) h
theorem seq_pub {i : Nat} {m rest : MS} {E : DEnds} {env : DEnv} {xs : List D} (h : env[i]? = some (.mo none (.lst xs))) (p : m { E with nx := rest E } (env.set i (.d (.list xs)))) : sSeq (sPub i m) rest E env := by
  unfold sSeq sPub
  rw [h]
  exact p
theorem hide_d {env : DEnv} {i : Nat} {x : D} (h : env[i]? = some (.d x)) : (hide env)[i]? = some (.d x) := by
  unfold hide
  rw [List.getElem?_map, h]
  rfl
theorem step_lend {sp : List EV → (D → Prop) → Prop} {rest : MS} {E : DEnds} {env : DEnv} {x : D} {B KK : List (Key × D)} {ps vs : List D} (h0 : env[0]? = some (.d x)) (h3 : env[3]? = some (.mo none (.dic B))) (h4 : env[4]? = some (.d (.list ps))) (h7 : env[7]? = some (.d (.tuple vs)))
    (hp : pairsKD (zipD ps vs) = some KK) (hm : mergeKD [] KK = KK) (hl : ps.length ≤ 1000000) (h : sp [.d x, .d (.dict (kvsD B)), .d (.dict (kvsD KK))] fun z => noDict z = true ∧ rest E (env.set 8 (.d z))) :
    sSeq (sSet 8 (mLendD 3 (mCall sp (mCons (mVar 0) (mCons (mVar 3) (mCons (mPubD (mDictP (mPubF (mListZip (mCons (mVar 4) (mCons (mVar 7) mNil)))))) mNil)))))) rest E env := by
  have l3 : 3 < (hide env).length := by
    have := (List.getElem?_eq_some_iff.mp h3).1
    unfold hide
    rw [List.length_map]
    exact this
  unfold sSeq sSet mLendD
  refine ⟨B, h3, ?_⟩
  unfold mCall
  dsimp only [mCons, mNil]
  refine var_by (by rw [List.getElem?_set_ne (by decide)]; exact hide_d h0) ?_
  refine var_by (by rw [List.getElem?_set_self l3]) ?_
  unfold mPubD mDictP mPubF mListZip
  dsimp only [mCons, mNil]
  refine var_by (by rw [List.getElem?_set_ne (by decide)]; exact hide_d h4) ?_
  refine var_by (by rw [List.getElem?_set_ne (by decide)]; exact hide_d h7) ?_
  refine ⟨ps, vs, rfl, rfl, hl, pairs_by hp ?_⟩
  rw [hm]
  exact h
def mixB (gs : List Gt) (v nx : Nat → Int) (j : Nat) (i : Nat) : Int := if i ∈ (ixs gs).take j then nx i else v i
theorem mix_0 (gs : List Gt) (v nx : Nat → Int) : bxK gs (mixB gs v nx 0) = bxK gs v := bxK_congr fun i _ => by
  unfold mixB
  rw [if_neg (by simp)]
theorem mix_end (gs : List Gt) (v nx : Nat → Int) : bxK gs (mixB gs v nx (ixs gs).length) = bxK gs nx := bxK_congr fun i hi => by
  unfold mixB
  rw [List.take_length, if_pos hi]
theorem mix_same {gs : List Gt} {v nx : Nat → Int} {j i : Nat} (h : (ixs gs)[j]? = some i) (e : nx i = v i) : bxK gs (mixB gs v nx (j + 1)) = bxK gs (mixB gs v nx j) := bxK_congr fun x _ => by
  unfold mixB
  rw [take_snoc h]
  by_cases m : x ∈ (ixs gs).take j
  · rw [if_pos (List.mem_append_left _ m), if_pos m]
  · rw [if_neg m]
    by_cases q : x = i
    · rw [if_pos (List.mem_append_right _ (by rw [q]; exact List.mem_cons_self)), q, e]
    · rw [if_neg fun z => (List.mem_append.mp z).elim m fun z => q (List.mem_singleton.mp z)]
theorem mix_put {gs : List Gt} {v nx : Nat → Int} {j i : Nat} (h : (ixs gs)[j]? = some i) : putKD (bxK gs (mixB gs v nx j)) (keyI i) (.int (nx i)) = bxK gs (mixB gs v nx (j + 1)) := by
  unfold bxK
  rw [putKD_map (kf := keyI) (v := fun i => .int (mixB gs v nx j i)) keyI_inj (List.mem_of_getElem? h) (bxs_nodup gs 0)]
  refine List.map_congr_left fun x _ => ?_
  unfold mixB
  rw [take_snoc h]
  by_cases q : x = i
  · rw [if_pos q, if_pos (List.mem_append_right _ (by rw [q]; exact List.mem_cons_self)), q]
  · rw [if_neg q]
    by_cases m : x ∈ (ixs gs).take j
    · rw [if_pos (List.mem_append_left _ m), if_pos m]
    · rw [if_neg m, if_neg fun z => (List.mem_append.mp z).elim m fun z => q (List.mem_singleton.mp z)]
theorem bits_noDict : ∀ NW : List Int, noDict (.list (bitsD NW)) = true
  | [] => rfl
  | _ :: r => bits_noDict r
theorem gate_ix {env : DEnv} {gsD : List D} {c : Str} {b : Int} {z i n : Nat} (h0 : env[0]? = some (.d (.tuple gsD))) (h9 : env[n]? = some (.d (.int (i : Int)))) (hg : gsD[i]? = some (.tuple [.str "box", .str c, .int b, .int (z : Int)])) :
    ∀ (k : Int) (x : D) (Q : D → DEnv → Prop), atI [.str "box", .str c, .int b, .int (z : Int)] k = some x → Q x env → mOp dIx (mOp dIx (mVar 0) (mVar n)) (mC (.int k)) env Q := fun k x Q hx q =>
  op_by (x := .tuple [.str "box", .str c, .int b, .int (z : Int)]) (fun Q q => op_by (fun Q q => var_by h0 q) (var_by h9 ⟨_, atI_nat hg, q⟩)) ⟨x, hx, q⟩
theorem tick_by {env : DEnv} {gsD : List D} {ts : List Str} {c : Str} {b : Int} {z i : Nat} {a1 a2 : MS} {E : DEnds} (h0 : env[0]? = some (.d (.tuple gsD))) (h6 : env[6]? = some (.d (.tuple (ts.map .str)))) (h9 : env[9]? = some (.d (.int (i : Int)))) (hg : gsD[i]? = some (.tuple [.str "box", .str c, .int b, .int (z : Int)]))
    (h1 : c ∈ ts → a1 E env) (h2 : c ∉ ts → a2 E env) : sIf (mCmpT cInX (mOp dIx (mOp dIx (mVar 0) (mVar 9)) (mC (.int 1))) (mVar 6)) a1 a2 E env := by
  unfold sIf mCmpT
  refine gate_ix h0 h9 hg 1 (.str c) _ rfl (var_by h6 ⟨⟨rfl, flat_strs ts⟩, ?_⟩)
  rw [inD_strs]
  exact dec_ite h1 h2
theorem put_by {env : DEnv} {gsD : List D} {NW : List Int} {c : Str} {b : Int} {z i : Nat} {kvs : List (Key × D)} {E : DEnds} (h0 : env[0]? = some (.d (.tuple gsD))) (h8 : env[8]? = some (.d (.list (bitsD NW)))) (h9 : env[9]? = some (.d (.int (i : Int)))) (hg : gsD[i]? = some (.tuple [.str "box", .str c, .int b, .int (z : Int)]))
    (hz : z < NW.length) (h3 : env[3]? = some (.mo none (.dic kvs))) (hn : (kvs.map (·.1)).Nodup) (hl : kvs.length < sizeLine) (h : E.nx (env.set 3 (.mo none (.dic (putKD kvs (keyI i) (.int (NW.getD z 0))))))) :
    sDputM 3 (mOp dIx (mVar 8) (mOp dIx (mOp dIx (mVar 0) (mVar 9)) (mC (.int 3)))) (mVar 9) E env := by
  unfold sDputM
  refine op_by (fun Q q => var_by h8 q) (gate_ix h0 h9 hg 3 (.int (z : Int)) _ rfl ⟨_, at_bits hz, ⟨_, _, h3⟩, var_by h9 ?_⟩)
  rw [h3]
  exact ⟨⟨hn, hl⟩, h⟩
section
variable {P : Program} {w : World} {K : PySem.W.Frag} {mg : Str → Option Value} {base : Heap}
theorem ok_gate_beats {f : Addr} {fd : FuncData} (T : Tb K mg) (c_law_stepped : Cal P w K mg base "_law_stepped" 1 ["_law_gates", "_law_boxes", "_law_known"] 0 spOnce) (F : Fun K "_law_gate_beats" "_law_gate_beats" s_law_gate_beats f fd) : FnG P w K mg base CX0 2 f fd ["_law_gates", "_law_flat", "_law_rows"] (spD K 0 spBeats) := by
  have nd := sc_law_gate_beats.nd
  refine okDG (k := 1) F sc_law_gate_beats (fun as Q h => by obtain ⟨gs, ins, ow, nm, rs, rfl, _⟩ := h; rfl) (fun cdv A fs s H E hr => have hu := hr.rm.units; have hu2 := hu2_of hr.rm; (gss_cons (gs_setDk (i := 3) nd rfl (.inl rfl) (gd_dict rfl (by rfl) T.n_dict (ge_pub (gf_lc 0 rfl nd (gi_enumT (by rfl) T.n_enumerate (ga_cons (ge_var 0) ga_nil)) (blkOk_by (own := [("_law_at", 9), ("_law_gate", 10)]) (N := N_law_gate_beats) (sc := defScope s_law_gate_beats) (by decide +kernel)) (fun _ _ _ _ _ => (gg_tup (n := 2) rfl (ggs_cons (i := 9) (vs := (List.map (·.2) ([("_law_at", 9), ("_law_gate", 10)] : List (Str × Nat)))) nd rfl (.inl rfl) (by decide) (ggs_cons (i := 10) (vs := (List.map (·.2) ([("_law_at", 9), ("_law_gate", 10)] : List (Str × Nat)))) nd rfl (.inl rfl) (by decide) ggs_nil)))) (fun _ _ _ _ _ => (gts_one (gt_cmp (od_eq hu) (ge_ix od_ix (ge_var 10) ge_int (fun _ _ => rfl)) ge_str (nomark _)))) (fun _ _ _ _ _ => (ge_tup (ga_cons (ge_var 9) (ga_cons (ge_ix od_ix (ge_var 10) ge_int (fun _ _ => rfl)) ga_nil))))))))
      (gss_cons (gs_setLc 0 (i := 4) rfl nd rfl rfl (sw_true rfl rfl rfl (by decide +kernel)) (gi_tup (ge_var 1)) (blkOk_by (own := [("_law_row", 11)]) (N := N_law_gate_beats) (sc := defScope s_law_gate_beats) (by decide +kernel)) (fun _ _ _ _ _ => (gg_name (i := 11) (vs := (List.map (·.2) ([("_law_row", 11)] : List (Str × Nat)))) nd rfl (.inl rfl) (by decide))) (fun _ _ _ _ _ => (gts_one (gt_cmp (od_eq hu) (ge_ix od_ix (ge_var 11) ge_int (fun _ _ => rfl)) ge_str (nomark _)))) (fun _ _ _ _ _ => (ge_ix od_ix (ge_var 11) ge_int (fun _ _ => rfl))))
      (gss_cons (gs_pub 4 (gs_setF (i := 5) nd rfl (.inl rfl) (gf_lst ga_nil)))
      (gss_cons (gs_forC 0 PassesOwn.never rfl (gi_tup (ge_var 2)) (gg_tup (n := 2) rfl (ggs_cons (i := 6) (vs := [6, 7]) nd rfl (.inl rfl) (by decide) (ggs_cons (i := 7) (vs := [6, 7]) nd rfl (.inl rfl) (by decide) ggs_nil))) (gss_cons (gs_set (i := 8) nd rfl (.inl rfl) (ge_lendD 3 (ge_cal c_law_stepped (hr.mono (by first | decide | omega)) (by rfl) (ga_cons (ge_var 0) (ga_cons (ge_var 3) (ga_cons (ge_pubD (gd_dict rfl (by rfl) T.n_dict (ge_pub (gf_listZip rfl (by rfl) T.n_list (by rfl) T.n_zip (ga_cons (ge_var 4) (ga_cons (ge_var 7) ga_nil)))))) ga_nil))))))
      (gss_cons (gs_append (i := 5) rfl (.inl rfl) (ge_var 8))
      (gss_one (gs_forC 0 PassesOwn.never rfl (gi_list (ge_pub (gf_listM 3 rfl (by rfl) T.n_list))) (gg_name (i := 9) (vs := [9]) nd rfl (.inl rfl) (by decide)) (gss_one (gs_if (gt_cmp (od_inX hu) (ge_ix od_ix (ge_ix od_ix (ge_var 0) (ge_var 9) (fun _ _ => rfl)) ge_int (fun _ _ => rfl)) (ge_var 6) (by rfl)) (gss_one (gs_dputM 3 hu (ge_ix od_ix (ge_var 8) (ge_ix od_ix (ge_ix od_ix (ge_var 0) (ge_var 9) (fun _ _ => rfl)) ge_int (fun _ _ => rfl)) (fun _ _ => rfl)) (ge_var 9))) gss_nil)))))))
      (gss_one (gs_ret (ge_var 5)))))))) (by decide) (fun as Q h => ?_)
  obtain ⟨gs, ins, ow, nm, rs, rfl, wf, hP⟩ := h
  have lg : gs.length ≤ 64 := wf.g.1
  have big : (1000 : Nat) ≤ sizeLine := by decide
  have few : ins.length ≤ 10 := by have := wf.few; rw [List.length_map] at this; exact this
  refine ⟨cost0 rfl, no_two rfl rfl, ?_⟩
  refine lcl_fun boxP _ _ (fun x hx k hk => ?_) (by rw [pairsD_len, List.length_map, List.length_nil]; omega) ?_
  · rw [pairs_eq] at hx
    obtain ⟨i, hi⟩ := List.mem_iff_getElem?.mp hx
    rw [pairsF_get, List.getElem?_map] at hi
    simp only [Option.map_map, Option.map_eq_some_iff, Nat.zero_add] at hi
    obtain ⟨g, hg, rfl⟩ := hi
    obtain ⟨z, xs, ed, hz⟩ := gt_word g
    have hk : k (boxP (.tuple [.int (i : Int), g.d])) := hk
    refine ⟨rfl, rfl, ?_⟩
    refine ix0 (i := 10) (x := .str z) (xs := xs) (by rw [← ed]; rfl) ?_
    refine ⟨rfl, dec_ite (fun e1 => ?_) (fun e1 => ?_)⟩
    · rcases hz with ⟨_, c, b, s, rfl⟩ | ⟨n, _⟩
      · exact ⟨_, rfl, (show (2 : Nat) ≤ sizeLine by decide), rfl, hk⟩
      · exact absurd e1 n
    · rcases hz with ⟨n, _⟩ | ⟨_, n⟩
      · exact absurd n e1
      · rcases boxP_at i g with ⟨c, b, s, e2, _⟩ | ⟨_, e2⟩
        · exact absurd e2 (n _ _ _)
        · rw [e2] at hk
          exact hk
  rw [List.nil_append]
  refine pairs_by (box_pairs gs) ?_
  have b0 : mergeKD [] (bxK gs (bx0 gs)) = bxK gs (bx0 gs) := merge_0 (bxK_nodup _ _)
  rw [b0]
  refine ⟨cost0 rfl, no_one rfl, ?_⟩
  refine lcl_fun pathF _ _ (fun x hx k hk => ?_) (by unfold flatIn; rw [List.length_append, List.length_map, List.length_nil, List.length_cons, List.length_nil]; omega) ?_
  · rcases List.mem_append.mp hx with hx | hx
    · obtain ⟨a, _, rfl⟩ := List.mem_map.mp hx
      unfold lcStep gNm mCmpT
      refine ix0 (i := 11) (x := .str "in") (xs := [.str a.1, .int (a.2.1 : Int), .str a.2.2]) rfl ⟨rfl, ?_⟩
      rw [decide_eq_true (rfl : ("in" : Str) = "in")]
      exact ⟨_, rfl, rfl, hk⟩
    · rw [List.mem_singleton.mp hx] at hk ⊢
      unfold lcStep gNm mCmpT
      refine ix0 (i := 11) (x := .str "out") (xs := [.str "y", .int ow, .tuple nm]) rfl ⟨rfl, ?_⟩
      rw [decide_eq_false (show ¬ (("out" : Str) = "in") by decide +kernel)]
      exact hk
  rw [List.nil_append, path_list]
  dsimp only
  refine seq_pub (i := 4) (xs := (ins.map (·.1)).map .str) rfl ?_
  refine ⟨by decide, cost0 rfl, ?_⟩
  refine sfor_by (fun i env => ∃ e6 e7 e8 e9, env = [.d (.tuple (gs.map Gt.d)), .d (.tuple (flatIn ins ow nm)), .d (.tuple (rs.map rowD)), .mo none (.dic (bxK gs (runB gs (ins.map (·.1)) (rs.take i)).1)), .d (.list ((ins.map (·.1)).map .str)),
    .mo none (.lst (rowsD (runB gs (ins.map (·.1)) (rs.take i)).2)), e6, e7, e8, e9, .un, .un]) ⟨_, _, _, _, rfl⟩ (fun i it env N hit hI hN => ?_) fun env hI => ?_
  · obtain ⟨e6, e7, e8, e9, rfl⟩ := hI
    rw [List.getElem?_map, Option.map_eq_some_iff] at hit
    obtain ⟨r, hr, rfl⟩ := hit
    have wr := wf.wide r (List.mem_of_getElem? hr)
    have er := runB_take (gs := gs) (ps := ins.map (·.1)) hr
    have ln : (runB gs (ins.map (·.1)) (rs.take i)).2.length ≤ 100 := by
      rw [runB_len, List.length_take]
      have := wf.rows
      omega
    generalize runB gs (ins.map (·.1)) (rs.take i) = st at er ln ⊢
    have hb1 : ∀ (j : Nat) c b s, gs[j]? = some (.box c b s) → valDD (kvsD (bxK gs st.1)) (.inl (j : Int)) = some (.int (st.1 j)) := fun j c b s hj => bxK_val hj
    have hk1 : ∀ (j : Nat) p k, gs[j]? = some (.inn p k) → valDD (kvsD (knK (ins.map (·.1)) r.2)) (.inr p) = some (.int (knW (ins.map (·.1)) r.2 p)) := fun j p k hj => knK_val wr (wf.inn j p k hj)
    have hzp := kn_pairs (ins.map (·.1)) r.2
    have hmg : mergeKD [] (knK (ins.map (·.1)) r.2) = knK (ins.map (·.1)) r.2 := merge_0 (knK_nodup wr wf.nd)
    have lps : ((ins.map (·.1)).map PyData.str).length ≤ 1000000 := by rw [List.length_map, List.length_map]; omega
    have hm0 := fun nx => mix_0 gs st.1 nx
    generalize hB : bxK gs st.1 = BB at hb1 hm0 ⊢
    generalize knK (ins.map (·.1)) r.2 = KK at hk1 hzp hmg
    have hnl := run_len st.1 (knW (ins.map (·.1)) r.2) gs
    have rsn : ∀ NW, rowsD (st.2 ++ [NW]) = rowsD st.2 ++ [.list (bitsD NW)] := fun NW => by unfold rowsD; rw [List.map_append]; rfl
    have lrw : (rowsD st.2).length ≤ 100 := by unfold rowsD; rw [List.length_map]; exact ln
    generalize rowsD st.2 = RW at lrw rsn ⊢
    generalize hPS : (ins.map (·.1)).map PyData.str = PS at hzp lps ⊢
    refine ⟨rfl, rfl, ?_⟩
    dsimp only
    refine step_lend (x := .tuple (gs.map Gt.d)) (B := BB) (KK := KK) (ps := PS) (vs := r.2.map .int) rfl rfl rfl rfl hzp hmg lps ?_
    refine ⟨gs, kvsD BB, kvsD KK, st.1, knW (ins.map (·.1)) r.2, rfl, wf.g, hb1, hk1, ?_⟩
    generalize hNW : runG st.1 (knW (ins.map (·.1)) r.2) gs = NW at hnl ⊢
    refine ⟨?_, ⟨_, rfl⟩, (by omega), ?_⟩
    · exact bits_noDict NW
    dsimp only
    refine ⟨cost0 rfl, ?_⟩
    have ek : keysK BB = (ixs gs).map fun i => .int (i : Int) := by
      rw [← hB]
      unfold keysK bxK
      rw [List.map_map]
      rfl
    have en := mix_end gs st.1 (nextB gs st.1 NW r.1)
    refine sfor_by (fun j env => ∃ e9, env = [.d (.tuple (gs.map Gt.d)), .d (.tuple (flatIn ins ow nm)), .d (.tuple (rs.map rowD)), .mo none (.dic (bxK gs (mixB gs st.1 (nextB gs st.1 NW r.1) j))), .d (.list PS),
      .mo none (.lst (RW ++ [.list (bitsD NW)])), .d (.tuple (r.1.map .str)), .d (.tuple (r.2.map .int)), .d (.list (bitsD NW)), e9, .un, .un]) ⟨e9, by rw [hm0]; rfl⟩ (fun j it env N2 hit hI hN2 => ?_) fun env hI => ?_
    · obtain ⟨e, rfl⟩ := hI
      have hit : (keysK BB)[j]? = some it := hit
      rw [ek, List.getElem?_map, Option.map_eq_some_iff] at hit
      obtain ⟨q, hq, rfl⟩ := hit
      obtain ⟨c, b, z, hg⟩ := ixs_mem.mp (List.mem_of_getElem? hq)
      have wz : z < gs.length := (wf.g.2 _ _ hg).2
      have gd : (gs.map Gt.d)[q]? = some (.tuple [.str "box", .str c, .int b, .int (z : Int)]) := by rw [List.getElem?_map, hg]; rfl
      have nq : nextB gs st.1 NW r.1 q = if c ∈ r.1 then NW.getD z 0 else st.1 q := by
        unfold nextB
        rw [hg]
      have mp := mix_put (v := st.1) (nx := nextB gs st.1 NW r.1) hq
      have ms := mix_same (v := st.1) (nx := nextB gs st.1 NW r.1) hq
      have hnd := bxK_nodup gs (mixB gs st.1 (nextB gs st.1 NW r.1) j)
      have hln := bxK_len gs (mixB gs st.1 (nextB gs st.1 NW r.1) j)
      have hN3 := hN2
      generalize bxK gs (mixB gs st.1 (nextB gs st.1 NW r.1) j) = M at mp ms hnd hln ⊢
      generalize bxK gs (mixB gs st.1 (nextB gs st.1 NW r.1) (j + 1)) = M2 at mp ms hN3
      unfold gNm
      refine tick_by (gsD := gs.map Gt.d) (ts := r.1) rfl rfl rfl gd (fun hm => ?_) (fun hm => ?_)
      · rw [if_pos hm] at nq
        rw [nq] at mp
        refine put_by (gsD := gs.map Gt.d) (NW := NW) (kvs := M) rfl rfl rfl gd (by rw [hnl]; exact wz) rfl hnd (by omega) ?_
        rw [mp]
        exact hN3 _ ⟨.d (.int (q : Int)), rfl⟩
      · rw [if_neg hm] at nq
        rw [ms nq] at hN3
        exact hN3 _ ⟨.d (.int (q : Int)), rfl⟩
    · obtain ⟨e, rfl⟩ := hI
      have e0 : (keysK BB).length = (ixs gs).length := by rw [ek, List.length_map]
      have e1 : bxK gs (runB gs (ins.map (·.1)) (rs.take (i + 1))).1 = bxK gs (nextB gs st.1 NW r.1) := by
        rw [er]
        unfold stepB nowB
        rw [hNW]
      have e2 : rowsD (runB gs (ins.map (·.1)) (rs.take (i + 1))).2 = RW ++ [.list (bitsD NW)] := by
        rw [er]
        unfold stepB nowB
        rw [hNW, rsn]
      rw [e0, en]
      generalize bxK gs (nextB gs st.1 NW r.1) = NB at e1 ⊢
      refine hN _ ⟨.d (.tuple (r.1.map .str)), .d (.tuple (r.2.map .int)), .d (.list (bitsD NW)), e, ?_⟩
      rw [e1, e2, hPS]
  · obtain ⟨e6, e7, e8, e9, rfl⟩ := hI
    have tl : rs.take (rs.map rowD).length = rs := by rw [List.length_map, List.take_length]
    rw [tl]
    exact hP
end
end L34
namespace L34
open PySem PySem.Spec PyProof.Rows L2 DL
/-- the ways in that are drawn -/
structure InsOk (ins : List In) : Prop where
  some : 1 ≤ ins.length
  few : ins.length ≤ 3
  names : ins.map (·.1) = (["q", "w", "z"] : List Str).take ins.length
  wide : ∀ x ∈ ins, 1 ≤ x.2.1 ∧ x.2.1 ≤ 3
  clk : ∀ x ∈ ins, x.2.2 = "c" ∨ x.2.2 = "d"
def flatOf (ins : List In) : D := .tuple (flatIn ins (((ins.map (·.2.1)).getD 0 0 : Nat) : Int) [.str "name", .str ((ins.map (·.1)).getD 0 "")])
def spFlat : List EV → (D → Prop) → Prop := fun as P => as = [.hd] ∧ ∀ ins, InsOk ins → P (flatOf ins)
theorem rangeD_at {n i : Nat} {x : D} (h : (rangeD 0 n)[i]? = some x) : i < n ∧ x = .int (i : Int) := by
  unfold rangeD at h
  rw [List.getElem?_map, Option.map_eq_some_iff] at h
  obtain ⟨j, hj, rfl⟩ := h
  obtain ⟨h1, h2⟩ := List.getElem?_eq_some_iff.mp hj
  rw [List.getElem_range] at h2
  rw [List.length_range] at h1
  exact ⟨h1, by rw [h2, Int.zero_add]⟩
section
variable {P : Program} {w : World} {K : PySem.W.Frag} {mg : Str → Option Value} {base : Heap}
theorem ok_flat_drawn {f : Addr} {fd : FuncData} (T : Tb K mg) (c_law_draw : Cal P w K mg base "_law_draw" 1 ["_law_deck_here", "_law_sides"] 1 spDraw) (F : Fun K "_law_flat_drawn" "_law_flat_drawn" s_law_flat_drawn f fd) : FnG P w K mg base CX0 2 f fd ["_law_deck_here"] (spD K 7 spFlat) := by
  have nd := sc_law_flat_drawn.nd
  refine okDG (k := 1) F sc_law_flat_drawn (fun as Q h => by obtain ⟨rfl, _⟩ := h; rfl) (fun cdv A fs s H E hr => have hu := hr.rm.units; have hu2 := hu2_of hr.rm; (gss_cons (gs_setF (i := 1) nd rfl (.inl rfl) (gf_lst ga_nil))
      (gss_cons (gs_forC 6 PassesOwn.never rfl (gi_range1 (by rfl) T.n_range (ga_cons (ge_op od_add ge_int (ge_cal c_law_draw (hr.mono (by first | decide | omega)) (by rfl) (ga_hd 0 (ga_cons ge_int ga_nil)))) ga_nil)) (gg_name (i := 2) (vs := [2]) nd rfl (.inl rfl) (by decide)) (gss_one (gs_append (i := 1) rfl (.inl rfl) (ge_tup (ga_cons ge_str (ga_cons (ge_ix od_ix ge_str (ge_var 2) (fun _ _ => rfl)) (ga_cons (ge_op od_add ge_int (ge_cal c_law_draw (hr.mono (by first | decide | omega)) (by rfl) (ga_hd 0 (ga_cons ge_int ga_nil)))) (ga_cons (ge_ix od_ix ge_str (ge_cal c_law_draw (hr.mono (by first | decide | omega)) (by rfl) (ga_hd 0 (ga_cons ge_int ga_nil))) (fun _ _ => rfl)) ga_nil))))))))
      (gss_one (gs_ret (ge_op od_add (ge_callTy cd_tuple (by rfl) T.n_tuple (by decide +kernel) (ga_cons (ge_var 1) ga_nil)) (ge_tup (ga_cons (ge_tup (ga_cons ge_str (ga_cons ge_str (ga_cons (ge_ix od_ix (ge_ix od_ix (ge_var 1) ge_int (fun _ _ => rfl)) ge_int (fun _ _ => rfl)) (ga_cons (ge_tup (ga_cons ge_str (ga_cons (ge_ix od_ix (ge_ix od_ix (ge_var 1) ge_int (fun _ _ => rfl)) ge_int (fun _ _ => rfl)) ga_nil))) ga_nil))))) ga_nil)))))))) (by decide) (fun as Q h => ?_)
  obtain ⟨rfl, hQ⟩ := h
  have big : (1000 : Nat) ≤ sizeLine := by decide
  refine ⟨by decide, 3, rfl, by decide, by decide, fun d d0 d1 => ?_⟩
  obtain ⟨n, rfl⟩ : ∃ n : Nat, d = (n : Int) := ⟨d.toNat, by omega⟩
  have hn : n < 3 := by omega
  have en : ((1 : Int) + (n : Int)).toNat = n + 1 := by omega
  have hc6 : (rangeD 0 ((1 : Int) + (n : Int)).toNat).length * 2 ≤ 6 := by
    rw [rangeD_len', en]
    omega
  refine ⟨by omega, by omega, hc6, ?_⟩
  rw [en]
  refine sfor_by (fun i env => ∃ (ins : List In) (e2 : EV), env = [.hd, .mo none (.lst (ins.map inD')), e2] ∧ ins.length = i ∧ ins.map (·.1) = (["q", "w", "z"] : List Str).take i ∧ (∀ x ∈ ins, 1 ≤ x.2.1 ∧ x.2.1 ≤ 3) ∧ ∀ x ∈ ins, x.2.2 = "c" ∨ x.2.2 = "d")
    ⟨[], _, rfl, rfl, rfl, (fun x h => by cases h), fun x h => by cases h⟩ (fun i it env N hit hI hN => ?_) fun env hI => ?_
  · obtain ⟨ins, e2, rfl, hl, hnm, hw, hc⟩ := hI
    obtain ⟨k, hk, ek⟩ : ∃ k, k < n + 1 ∧ k = i := ⟨i, (rangeD_at hit).1, rfl⟩
    have e := (rangeD_at hit).2
    subst e
    subst ek
    have sgn : ∃ c, atI ("qwz" : Str).cps.toList (k : Int) = some c ∧ (["q", "w", "z"] : List Str).take (k + 1) = (["q", "w", "z"] : List Str).take k ++ [⟨#[c]⟩] := by
      have : k = 0 ∨ k = 1 ∨ k = 2 := by omega
      rcases this with rfl | rfl | rfl
      · exact ⟨_, rfl, rfl⟩
      · exact ⟨_, rfl, rfl⟩
      · exact ⟨_, rfl, rfl⟩
    obtain ⟨sg, es, et⟩ := sgn
    refine ⟨⟨_, rfl⟩, (show ("qwz" : Str).length ≤ sizeLine by decide), sg, es, 3, rfl, by decide, by decide, fun a a0 a1 => ?_⟩
    refine ⟨2, rfl, by decide, by decide, fun b b0 b1 => ⟨(show ("cd" : Str).length ≤ sizeLine by decide), ?_⟩⟩
    obtain ⟨m, rfl⟩ : ∃ m : Nat, a = (m : Int) := ⟨a.toNat, by omega⟩
    have cs : ∃ c, atI ("cd" : Str).cps.toList b = some c ∧ ((⟨#[c]⟩ : Str) = "c" ∨ (⟨#[c]⟩ : Str) = "d") := by
      have : b = 0 ∨ b = 1 := by omega
      rcases this with rfl | rfl
      · exact ⟨_, rfl, .inl rfl⟩
      · exact ⟨_, rfl, .inr rfl⟩
    obtain ⟨cc, ec, eo⟩ := cs
    refine ⟨cc, ec, (show (4 : Nat) ≤ sizeLine by decide), (by rw [List.length_map, hl]; omega), hN _ ⟨ins ++ [(⟨#[sg]⟩, m + 1, ⟨#[cc]⟩)], .d (.int (k : Int)), ?_, ?_, ?_, ?_, ?_⟩⟩
    · rw [List.map_append]
      have : ((1 : Int) + (m : Int)) = ((m + 1 : Nat) : Int) := by omega
      show [EV.hd, EV.mo none (.lst (ins.map inD' ++ [.tuple [.str "in", .str ⟨#[sg]⟩, .int (1 + (m : Int)), .str ⟨#[cc]⟩]])), _] = _
      rw [this]
      rfl
    · rw [List.length_append, hl]; rfl
    · rw [List.map_append, hnm, et]; rfl
    · intro x hx
      rcases List.mem_append.mp hx with hx | hx
      · exact hw x hx
      · rw [List.mem_singleton.mp hx]
        exact ⟨by show 1 ≤ m + 1; omega, by show m + 1 ≤ 3; omega⟩
    · intro x hx
      rcases List.mem_append.mp hx with hx | hx
      · exact hc x hx
      · rw [List.mem_singleton.mp hx]
        exact eo
  · obtain ⟨ins, e2, rfl, hl, hnm, hw, hc⟩ := hI
    rw [rangeD_len'] at hl
    have ok : InsOk ins := ⟨by omega, by omega, by rw [hnm, rangeD_len', hl], hw, hc⟩
    have hR := hQ ins ok
    cases ins with
    | nil => simp at hl
    | cons x r =>
      refine ⟨inD' x, atI_nat (j := 0) rfl, .int (x.2.1 : Int), rfl, inD' x, atI_nat (j := 0) rfl, .str x.1, rfl, (show (2 : Nat) ≤ sizeLine by decide), (show (4 : Nat) ≤ sizeLine by decide), (show (1 : Nat) ≤ sizeLine by decide), ?_, hR⟩
      have := ok.few
      have big : (1000 : Nat) ≤ sizeLine := by decide
      show ((x :: r).map inD').length + 1 ≤ sizeLine
      rw [List.length_map]
      omega
end
end L34
namespace L34
open PySem PySem.Spec PyProof.Rows L2 DL
/-- the beats that are drawn -/
structure RowOk (n : Nat) (r : Row) : Prop where
  wide : r.2.length = n
  few : r.1.length ≤ 2
  names : ∀ z ∈ r.1, z = "c" ∨ z = "d"
  low : ∀ v ∈ r.2, 0 ≤ v ∧ v < 8
def spSaid : List EV → (D → Prop) → Prop := fun as P => ∃ (ins : List In) (many : Nat), as = [.hd, .d (flatOf ins), .d (.list [.str "c", .str "d"]), .d (.int (many : Int))] ∧ InsOk ins ∧ many ≤ 60 ∧
  ∀ rs : List Row, rs.length = many → (∀ r ∈ rs, RowOk ins.length r) → P (.tuple (rs.map rowD))
section
variable {g : MG} {tt : MT} {te : ME} {vs : List Nat} {env : DEnv}
/-- some turns have an item, the others none -/
theorem lcl_sel (sel : D → Bool) (A : D → Prop) : ∀ (xs acc : List D) {P : List D → Prop}, (∀ x ∈ xs, ∀ k : Option D → Prop, (sel x = false → k none) → (sel x = true → ∀ y, A y → k (some y)) → lcStep g tt te vs env x k) → acc.length + xs.length ≤ sizeLine →
    (∀ ys, ys.length = (xs.filter sel).length → (∀ y ∈ ys, A y) → P (acc ++ ys)) → mLcL g tt te vs xs acc env P
  | [], acc, P, _, _, hP => by
    have := hP [] rfl (fun y hy => by cases hy)
    rw [List.append_nil] at this
    exact this
  | x :: xs, acc, P, hx, hl, hP => by
    rw [List.length_cons] at hl
    refine lcl_cons (hx x List.mem_cons_self _ (fun e => ?_) fun e y hy => ?_)
    · exact lcl_sel sel A xs acc (fun z hz => hx z (List.mem_cons_of_mem _ hz)) (by omega) fun ys h1 h2 => hP ys (by rw [List.filter_cons, e]; exact h1) h2
    · refine ⟨by omega, lcl_sel sel A xs (acc ++ [y]) (fun z hz => hx z (List.mem_cons_of_mem _ hz)) (by rw [List.length_append, List.length_cons, List.length_nil]; omega) fun ys h1 h2 => ?_⟩
      rw [List.append_assoc]
      refine hP (y :: ys) (by rw [List.filter_cons, e]; simp [h1]) fun z hz => ?_
      rcases List.mem_cons.mp hz with rfl | hz
      · exact hy
      · exact h2 z hz
end
theorem list_of {α : Type} {A : α → Prop} {g : α → D} : ∀ ys : List D, (∀ y ∈ ys, ∃ z : α, A z ∧ y = g z) → ∃ zs : List α, ys = zs.map g ∧ ∀ z ∈ zs, A z
  | [], _ => ⟨[], rfl, fun z hz => by cases hz⟩
  | y :: r, h => by
    obtain ⟨c, hc, rfl⟩ := h y List.mem_cons_self
    obtain ⟨cs, e, h1⟩ := list_of r fun z hz => h z (List.mem_cons_of_mem _ hz)
    refine ⟨c :: cs, by rw [e]; rfl, fun z hz => ?_⟩
    rcases List.mem_cons.mp hz with rfl | hz
    · exact hc
    · exact h1 z hz
def selIn : D → Bool
  | .tuple [_, _, _, .str _] => true
  | _ => false
theorem sel_len (ins : List In) (ow : Int) (nm : List D) : ((flatIn ins ow nm).filter selIn).length = ins.length := by
  unfold flatIn
  rw [List.filter_append]
  have : ∀ l : List In, (l.map inD').filter selIn = l.map inD' := fun l => by
    induction l with
    | nil => rfl
    | cons x l ih =>
      rw [List.map_cons, List.filter_cons]
      show (if true = true then _ else _) = _
      rw [if_pos rfl, ih]
  rw [this, List.length_append, List.length_map]
  rfl
section
variable {P : Program} {w : World} {K : PySem.W.Frag} {mg : Str → Option Value} {base : Heap}
theorem ok_drawn_beats {f : Addr} {fd : FuncData} (T : Tb K mg) (c_law_draw : Cal P w K mg base "_law_draw" 1 ["_law_deck_here", "_law_sides"] 1 spDraw) (F : Fun K "_law_drawn_beats" "_law_drawn_beats" s_law_drawn_beats f fd) : FnG P w K mg base CX0 2 f fd ["_law_deck_here", "_law_flat", "_law_ticks", "_law_many"] (spD K 360 spSaid) := by
  have nd := sc_law_drawn_beats.nd
  refine okDG (k := 1) F sc_law_drawn_beats (fun as Q h => by obtain ⟨ins, many, rfl, _⟩ := h; rfl) (fun cdv A fs s H E hr => have hu := hr.rm.units; have hu2 := hu2_of hr.rm; (gss_cons (gs_setF (i := 4) nd rfl (.inl rfl) (gf_lst ga_nil))
      (gss_cons (gs_forC 360 PassesOwn.never rfl (gi_range1 (by rfl) T.n_range (ga_cons (ge_var 3) ga_nil)) (gg_name (i := 5) (vs := [5]) nd rfl (.inl rfl) (by decide)) (gss_cons (gs_set (i := 6) nd rfl (.inl rfl) (ge_callTy cd_tuple (by rfl) T.n_tuple (by decide +kernel) (ga_cons (ge_pub (gf_lc 2 rfl nd (gi_list (ge_callB (cd_sorted hu) (by rfl) T.n_sorted (by decide +kernel) (ga_cons (ge_var 2) ga_nil))) (blkOk_by (own := [("_law_clock", 7)]) (N := N_law_drawn_beats) (sc := defScope s_law_drawn_beats) (by decide +kernel)) (fun _ _ _ _ _ => (gg_name (i := 7) (vs := (List.map (·.2) ([("_law_clock", 7)] : List (Str × Nat)))) nd rfl (.inl rfl) (by decide))) (fun _ _ _ _ _ => (gts_one (gt_cmp od_gt (ge_cal c_law_draw (hr.mono (by first | decide | omega)) (by rfl) (ga_hd 0 (ga_cons ge_int ga_nil))) ge_int (nomark _)))) (fun _ _ _ _ _ => (ge_var 7)))) ga_nil)))
      (gss_one (gs_append (i := 4) rfl (.inl rfl) (ge_tup (ga_cons (ge_var 6) (ga_cons (ge_callTy cd_tuple (by rfl) T.n_tuple (by decide +kernel) (ga_cons (ge_pub (gf_lc 4 rfl nd (gi_tup (ge_var 1)) (blkOk_by (own := [("_law_row", 8)]) (N := N_law_drawn_beats) (sc := defScope s_law_drawn_beats) (by decide +kernel)) (fun _ _ _ _ _ => (gg_name (i := 8) (vs := (List.map (·.2) ([("_law_row", 8)] : List (Str × Nat)))) nd rfl (.inl rfl) (by decide))) (fun _ _ _ _ _ => (gts_one (gt_cmp (od_eq hu) (ge_ix od_ix (ge_var 8) ge_int (fun _ _ => rfl)) ge_str (nomark _)))) (fun _ _ _ _ _ => (ge_cal c_law_draw (hr.mono (by first | decide | omega)) (by rfl) (ga_hd 0 (ga_cons (ge_op od_shl ge_int (ge_ix od_ix (ge_var 8) ge_int (fun _ _ => rfl))) ga_nil)))))) ga_nil)) ga_nil)))))))
      (gss_one (gs_ret (ge_callTy cd_tuple (by rfl) T.n_tuple (by decide +kernel) (ga_cons (ge_var 4) ga_nil))))))) (by decide) (fun as Q h => ?_)
  obtain ⟨ins, many, rfl, ok, hm, hQ⟩ := h
  have big : (1000 : Nat) ≤ sizeLine := by decide
  have hc : (rangeD 0 ((many : Int)).toNat).length * 6 ≤ 360 := by
    rw [rangeD_len', Int.toNat_natCast]
    omega
  refine ⟨by decide, by omega, by omega, hc, ?_⟩
  rw [Int.toNat_natCast]
  refine sfor_by (fun i env => ∃ (rs : List Row) (e5 e6 : EV), env = [.hd, .d (flatOf ins), .d (.list [.str "c", .str "d"]), .d (.int (many : Int)), .mo none (.lst (rs.map rowD)), e5, e6, .un, .un] ∧ rs.length = i ∧ ∀ r ∈ rs, RowOk ins.length r)
    ⟨[], _, _, rfl, rfl, fun r h => by cases h⟩ (fun i it env N hit hI hN => ?_) fun env hI => ?_
  · obtain ⟨rs, e5, e6, rfl, hl, hr⟩ := hI
    have il := (rangeD_at hit).1
    have two : ∀ x ∈ ([.str "c", .str "d"] : List D), ∃ z, x = .str z ∧ (z = "c" ∨ z = "d") := fun x hx => by
      rcases List.mem_cons.mp hx with rfl | hx
      · exact ⟨_, rfl, .inl rfl⟩
      · rw [List.mem_singleton.mp hx]
        exact ⟨_, rfl, .inr rfl⟩
    have sl : (srtD [.str "c", .str "d"]).length = 2 := by
      unfold srtD
      rw [List.length_mergeSort]
      rfl
    refine ⟨fun x hx y hy => ?_, .inr fun x hx => ?_, (show (2 : Nat) ≤ sizeLine by decide), fun x hx => ?_, ?_, no_one rfl, ?_⟩
    · obtain ⟨a, rfl, _⟩ := two x hx
      obtain ⟨b, rfl, _⟩ := two y hy
      rfl
    · obtain ⟨a, rfl, _⟩ := two x hx
      exact ⟨(fun h => by cases h), fun xs h => by cases h⟩
    · obtain ⟨a, rfl, _⟩ := two x hx
      exact ⟨rfl, by unfold PyData.depth; decide⟩
    · rw [sl]
      decide
    refine lcl_opt (fun y => ∃ z : Str, (z = "c" ∨ z = "d") ∧ y = .str z) _ _ (fun x hx k k0 k1 => ?_) (by rw [sl, List.length_nil]; omega) fun ys y1 y2 => ?_
    · unfold srtD at hx
      obtain ⟨z, rfl, hz⟩ := two x (List.mem_mergeSort.mp hx)
      exact ⟨3, rfl, by decide, by decide, fun d d0 d1 => ⟨rfl, dec_ite (fun _ => ⟨rfl, k1 _ ⟨z, hz, rfl⟩⟩) (fun _ => k0)⟩⟩
    rw [List.nil_append]
    obtain ⟨zs, rfl, hzs⟩ := list_of ys y2
    rw [sl, List.length_map] at y1
    have fl : ∀ ow nm, (flatIn ins ow nm).length ≤ 4 := fun ow nm => by
      have := ok.few
      unfold flatIn
      rw [List.length_append, List.length_map, List.length_cons, List.length_nil]
      omega
    refine ⟨⟨_, rfl⟩, ?_, no_one rfl, ?_⟩
    · show (flatIn ins _ _).length * 1 ≤ 4
      rw [Nat.mul_one]
      exact fl _ _
    refine lcl_sel selIn (fun y => ∃ v : Int, (0 ≤ v ∧ v < 8) ∧ y = .int v) _ _ (fun x hx k k0 k1 => ?_) (by rw [List.length_nil, Nat.zero_add]; exact Nat.le_trans (fl _ _) (by omega)) fun vs v1 v2 => ?_
    · rcases List.mem_append.mp hx with hx | hx
      · obtain ⟨a, ha, rfl⟩ := List.mem_map.mp hx
        have wa := ok.wide a ha
        unfold lcStep gNm mCmpT
        refine ix0 (i := 8) (x := .str "in") (xs := [.str a.1, .int (a.2.1 : Int), .str a.2.2]) rfl ⟨rfl, ?_⟩
        rw [decide_eq_true (rfl : ("in" : Str) = "in")]
        have hw : (1 : Int) * 2 ^ ((a.2.1 : Int)).toNat ≤ 8 ∧ 0 < (1 : Int) * 2 ^ ((a.2.1 : Int)).toNat := by
          have : a.2.1 = 1 ∨ a.2.1 = 2 ∨ a.2.1 = 3 := by omega
          rcases this with e | e | e <;> rw [e] <;> decide
        refine ⟨.int (a.2.1 : Int), rfl, ⟨by omega, by omega, by decide⟩, _, rfl, hw.2, Int.lt_of_le_of_lt hw.1 (by decide), fun v p0 p1 => ⟨rfl, k1 rfl _ ⟨v, ⟨p0, Int.lt_of_lt_of_le p1 hw.1⟩, rfl⟩⟩⟩
      · rw [List.mem_singleton.mp hx] at k0 ⊢
        unfold lcStep gNm mCmpT
        refine ix0 (i := 8) (x := .str "out") rfl ⟨rfl, ?_⟩
        rw [decide_eq_false (show ¬ (("out" : Str) = "in") by decide +kernel)]
        exact k0 rfl
    rw [List.nil_append]
    rw [sel_len] at v1
    obtain ⟨ws, rfl, hws⟩ := list_of vs v2
    rw [List.length_map] at v1
    refine ⟨(show (2 : Nat) ≤ sizeLine by decide), (by rw [List.length_map]; omega), hN _ ⟨rs ++ [(zs, ws)], .d (.int (i : Int)), .d (.tuple (zs.map .str)), ?_, ?_, ?_⟩⟩
    · rw [(rangeD_at hit).2, List.map_append]
      rfl
    · rw [List.length_append, hl]
      rfl
    · intro r hm
      rcases List.mem_append.mp hm with hm | hm
      · exact hr r hm
      · rw [List.mem_singleton.mp hm]
        exact ⟨v1, y1, hzs, hws⟩
  · obtain ⟨rs, e5, e6, rfl, hl, hr⟩ := hI
    rw [rangeD_len'] at hl
    exact hQ rs hl hr
end
end L34
namespace L34
open PySem PySem.Spec PyProof.Rows L2 DL
/-- the net that is drawn -/
structure NetOk (ins : List In) (gs : List Gt) : Prop where
  wf : WfG gs
  few : gs.length ≤ 40
  inn : ∀ (i : Nat) p k, gs[i]? = some (.inn p k) → p ∈ ins.map (·.1)
  clk : ∀ (i : Nat) c b s, gs[i]? = some (.box c b s) → c = "c" ∨ c = "d"
def trD (x : Str × Nat × Nat) : D := .tuple [.str x.1, .int (x.2.1 : Int), .tuple [.str "gate", .int (x.2.2 : Int)]]
def TrOk (tr : List D) : Prop := tr.length ≤ 20 ∧ ∀ x ∈ tr, ∃ t, x = trD t ∧ t.1 ∈ (["q", "w", "z", "y"] : List Str) ∧ t.2.1 ≤ 3 ∧ t.2.2 ≤ 40
def spNet : List EV → (D → Prop) → Prop := fun as P => ∃ ins : List In, as = [.hd, .d (flatOf ins)] ∧ InsOk ins ∧ ∀ gs tr, NetOk ins gs → TrOk tr → P (netD gs (.tuple tr) (.tuple [.str "y"]))
/-! ### sizes -/
theorem bk_s1 {z : Str} (h : z ∈ (["q", "w", "z", "y", "c", "d"] : List Str)) : Bk 0 2 (.str z) := by
  have : z.length ≤ 1 ∧ ∀ c ∈ z.cps.toList, c < 0x110000 := by
    simp only [List.mem_cons, List.not_mem_nil, or_false] at h
    rcases h with rfl | rfl | rfl | rfl | rfl | rfl <;> decide
  exact bk_strN this.1 (by decide) this.2
theorem bk_w {z : Str} (h : z ∈ (["is", "in", "box", "not", "and", "or", "xor", "gate"] : List Str)) : Bk 0 5 (.str z) := by
  have : z.length ≤ 4 ∧ ∀ c ∈ z.cps.toList, c < 0x110000 := by
    simp only [List.mem_cons, List.not_mem_nil, or_false] at h
    rcases h with rfl | rfl | rfl | rfl | rfl | rfl | rfl | rfl <;> decide
  exact bk_strN this.1 (by decide) this.2
theorem bk_bit {b : Int} (h : Bit b) : Bk 0 1 (.int b) := by
  rcases h with rfl | rfl
  · exact bk_int (k := 0) (by decide)
  · exact bk_int (k := 1) (by decide)
theorem bk_nat {k : Nat} (h : k ≤ 64) : Bk 0 1 (.int (k : Int)) := bk_int (Nat.lt_of_le_of_lt h (by decide))
theorem names_in {ins : List In} (ok : InsOk ins) {p : Str} (h : p ∈ ins.map (·.1)) : p ∈ (["q", "w", "z"] : List Str) := by
  rw [ok.names] at h
  exact List.mem_of_mem_take h
theorem op_in (o : Nat) : opN o ∈ (["is", "in", "box", "not", "and", "or", "xor", "gate"] : List Str) := by
  match o with
  | 0 => decide +kernel
  | 1 => decide +kernel
  | n + 2 => show ("xor" : Str) ∈ _; decide +kernel
theorem bk_gt {ins : List In} (ok : InsOk ins) {gs : List Gt} (h : NetOk ins gs) {i : Nat} {g : Gt} (hg : gs[i]? = some g) : Bk 1 12 g.d := by
  have w := h.wf.2 i g hg
  have f := h.few
  have hi := (List.getElem?_eq_some_iff.mp hg).1
  cases g with
  | is b => exact (bk_tup (bk_cons (bk_w (by decide +kernel)) (bk_cons (bk_bit w) (bk_nil (m := 0))))).le (by decide) (by decide)
  | inn p k =>
    have w : k ≤ 3 := w
    have := names_in ok (h.inn i p k hg)
    have : p ∈ (["q", "w", "z", "y", "c", "d"] : List Str) := List.mem_of_mem_take (i := 3) this
    exact (bk_tup (bk_cons (bk_w (by decide +kernel)) (bk_cons (bk_s1 this) (bk_cons (bk_nat (by omega)) (bk_nil (m := 0)))))).le (by decide) (by decide)
  | box c b s =>
    have w : Bit b ∧ s < gs.length := w
    have : c ∈ (["q", "w", "z", "y", "c", "d"] : List Str) := by
      rcases h.clk i c b s hg with rfl | rfl <;> decide +kernel
    exact (bk_tup (bk_cons (bk_w (by decide +kernel)) (bk_cons (bk_s1 this) (bk_cons (bk_bit w.1) (bk_cons (bk_nat (by omega)) (bk_nil (m := 0))))))).le (by decide) (by decide)
  | nt a =>
    have w : a < i := w
    exact (bk_tup (bk_cons (bk_w (by decide +kernel)) (bk_cons (bk_nat (by omega)) (bk_nil (m := 0))))).le (by decide) (by decide)
  | two o a b =>
    have w : o < 3 ∧ a < i ∧ b < i := w
    exact (bk_tup (bk_cons (bk_w (op_in o)) (bk_cons (bk_nat (by omega)) (bk_cons (bk_nat (by omega)) (bk_nil (m := 0)))))).le (by decide) (by decide)
theorem bk_tr1 {t : Str × Nat × Nat} (h : t.1 ∈ (["q", "w", "z", "y"] : List Str) ∧ t.2.1 ≤ 3 ∧ t.2.2 ≤ 40) : Bk 2 12 (trD t) := by
  obtain ⟨h1, h2, h3⟩ := h
  have : t.1 ∈ (["q", "w", "z", "y", "c", "d"] : List Str) := List.mem_of_mem_take (i := 4) h1
  exact (bk_tup (bk_cons ((bk_s1 this).up (by decide)) (bk_cons ((bk_nat (by omega)).up (by decide)) (bk_cons (bk_tup (bk_cons (bk_w (by decide +kernel)) (bk_cons (bk_nat (by omega)) (bk_nil (m := 0))))) (bk_nil (m := 0)))))).le (Nat.le_refl _) (by decide)
theorem bk_tr {tr : List D} (h : TrOk tr) : Bk 3 241 (.tuple tr) := by
  have e : BkA 2 (12 * tr.length) tr := bk_all fun x hx => by
    obtain ⟨t, rfl, h1, h2, h3⟩ := h.2 x hx
    have : t.1 ∈ (["q", "w", "z", "y", "c", "d"] : List Str) := List.mem_of_mem_take (i := 4) h1
    exact (bk_tup (bk_cons ((bk_s1 this).up (by decide)) (bk_cons ((bk_nat (by omega)).up (by decide)) (bk_cons (bk_tup (bk_cons (bk_w (by decide +kernel)) (bk_cons (bk_nat (by omega)) (bk_nil (m := 0))))) (bk_nil (m := 0)))))).le (Nat.le_refl _) (by decide)
  refine (bk_tup e).le (Nat.le_refl _) ?_
  have := h.1
  omega
theorem bk_net {ins : List In} (ok : InsOk ins) {gs : List Gt} (h : NetOk ins gs) {tr : List D} (ht : TrOk tr) : Bk 4 900 (netD gs (.tuple tr) (.tuple [.str "y"])) := by
  have e : BkA 1 (12 * gs.length) (gs.map Gt.d) := bk_map fun g hg => by
    obtain ⟨i, hi⟩ := List.mem_iff_getElem?.mp hg
    exact bk_gt ok h hi
  have y : Bk 0 2 (.str "y") := bk_s1 (by decide +kernel)
  refine (bk_tup (bk_cons ((bk_tup e).up (d' := 3) (by decide)) (bk_cons (bk_tr ht) (bk_cons ((bk_tup (bk_cons y (bk_nil (m := 0)))).up (d' := 3) (by decide)) (bk_nil (m := 0)))))).le (Nat.le_refl _) ?_
  have := h.few
  omega
theorem bk_row {n : Nat} {r : Row} (h : RowOk n r) (hn : n ≤ 3) : Bk 2 12 (rowD r) := by
  have a : BkA 0 (2 * r.1.length) (r.1.map PyData.str) := bk_map fun z hz => bk_s1 (by rcases h.names z hz with rfl | rfl <;> decide +kernel)
  have b : BkA 0 (1 * r.2.length) (r.2.map PyData.int) := bk_map fun v hv => bk_intZ (by
    have := h.low v hv
    have : v.natAbs < 8 := by omega
    exact Nat.lt_trans this (by decide))
  refine (bk_tup (bk_cons (bk_tup a) (bk_cons (bk_tup b) (bk_nil (m := 0))))).le (Nat.le_refl _) ?_
  have h1 := h.few
  have h2 := h.wide
  omega
theorem bk_said {n : Nat} {rs : List Row} (h : ∀ r ∈ rs, RowOk n r) (hn : n ≤ 3) (hl : rs.length ≤ 60) : Bk 3 721 (.tuple (rs.map rowD)) := by
  refine (bk_tup (bk_map fun r hr => bk_row (h r hr) hn)).le (Nat.le_refl _) ?_
  omega
theorem bk_own {ins : List In} (ok : InsOk ins) : Bk 2 13 (.tuple ((ins.map fun x => (x.1, ((x.2.1 : Nat) : Int))).map insD)) := by
  rw [List.map_map]
  have e : BkA 1 (4 * ins.length) (ins.map (insD ∘ fun x => (x.1, ((x.2.1 : Nat) : Int)))) := bk_map fun x hx => by
    have h1 := names_in ok (List.mem_map.mpr ⟨x, hx, rfl⟩)
    have : x.1 ∈ (["q", "w", "z", "y", "c", "d"] : List Str) := List.mem_of_mem_take (i := 3) h1
    have h2 := ok.wide x hx
    exact (bk_tup (bk_cons (bk_s1 this) (bk_cons (bk_nat (by omega)) (bk_nil (m := 0))))).le (Nat.le_refl _) (by decide)
  refine (bk_tup e).le (Nat.le_refl _) ?_
  have := ok.few
  omega
/-! ### all are bits -/
def Bits (xs : List Int) : Prop := ∀ v ∈ xs, Bit v
theorem Bits.getD {xs : List Int} (h : Bits xs) (a : Nat) : Bit (xs.getD a 0) := by
  rw [List.getD_eq_getElem?_getD]
  cases e : xs[a]? with
  | none => exact .inl rfl
  | some v => exact h v (List.mem_of_getElem? e)
theorem step_bit {bx : Nat → Int} {kn : Str → Int} {fd : List Int} {g : Gt} (hb : ∀ i, Bit (bx i)) (hk : ∀ p, 0 ≤ kn p ∧ kn p < 8) (hf : Bits fd) (hg : ∀ b, g = .is b → Bit b) : Bit (stepG bx kn fd g) := by
  cases g with
  | is b => exact hg b rfl
  | inn p k =>
    obtain ⟨h0, h1⟩ := hk p
    show Bit (Builtin.bitAnd (kn p / 2 ^ k) 1)
    have q0 : 0 ≤ kn p / 2 ^ k := Int.ediv_nonneg h0 (Int.le_of_lt (Int.pow_pos (by decide)))
    have q1 : kn p / 2 ^ k ≤ kn p := Int.ediv_le_self _ h0
    generalize kn p / 2 ^ k = q at q0 q1
    have : q = 0 ∨ q = 1 ∨ q = 2 ∨ q = 3 ∨ q = 4 ∨ q = 5 ∨ q = 6 ∨ q = 7 := by omega
    rcases this with rfl | rfl | rfl | rfl | rfl | rfl | rfl | rfl <;> (unfold Bit; decide)
  | box c b s => exact hb _
  | nt a =>
    show Bit (1 - fd.getD a 0)
    rcases hf.getD a with e | e <;> rw [e]
    · exact .inr rfl
    · exact .inl rfl
  | two o a b =>
    show Bit (opB o (fd.getD a 0) (fd.getD b 0))
    match o with
    | 0 => exact bit_and (hf.getD a) (hf.getD b)
    | 1 => exact bit_or (hf.getD a) (hf.getD b)
    | n + 2 => exact bit_xor (hf.getD a) (hf.getD b)
theorem run_bits {bx : Nat → Int} {kn : Str → Int} (hb : ∀ i, Bit (bx i)) (hk : ∀ p, 0 ≤ kn p ∧ kn p < 8) : ∀ (gs : List Gt), (∀ g ∈ gs, ∀ b, g = .is b → Bit b) → Bits (runG bx kn gs) := by
  have key : ∀ (gs : List Gt) (fd : List Int), Bits fd → (∀ g ∈ gs, ∀ b, g = .is b → Bit b) → Bits (gs.foldl (fun fd g => fd ++ [stepG bx kn fd g]) fd) := fun gs => by
    induction gs with
    | nil => intro fd h _; exact h
    | cons g gs ih =>
      intro fd h hg
      rw [List.foldl_cons]
      refine ih _ (fun v hv => ?_) fun x hx => hg x (List.mem_cons_of_mem _ hx)
      rcases List.mem_append.mp hv with hv | hv
      · exact h v hv
      · rw [List.mem_singleton.mp hv]
        exact step_bit hb hk h (hg g List.mem_cons_self)
  exact fun gs hg => key gs [] (fun v hv => by cases hv) hg
theorem knW_low {ps : List Str} {vs : List Int} (h : ∀ v ∈ vs, 0 ≤ v ∧ v < 8) (p : Str) : 0 ≤ knW ps vs p ∧ knW ps vs p < 8 := by
  unfold knW
  cases e : (ps.zip vs).lookup p with
  | none => exact ⟨by decide, by decide⟩
  | some v =>
    have : ∀ l : List (Str × Int), l.lookup p = some v → ∃ q, (q, v) ∈ l := fun l => by
      induction l with
      | nil => intro h; cases h
      | cons a l ih =>
        intro h
        rw [List.lookup_cons] at h
        split at h
        · cases h
          exact ⟨a.1, List.mem_cons_self⟩
        · obtain ⟨q, hq⟩ := ih h
          exact ⟨q, List.mem_cons_of_mem _ hq⟩
    obtain ⟨q, hq⟩ := this _ e
    exact h v (List.of_mem_zip hq).2
theorem runB_bits {gs : List Gt} {ps : List Str} {rs : List Row} (hg : WfG gs) (hr : ∀ r ∈ rs, ∀ v ∈ r.2, 0 ≤ v ∧ v < 8) : ∀ now ∈ (runB gs ps rs).2, Bits now := by
  have isB : ∀ g ∈ gs, ∀ b, g = .is b → Bit b := fun g hm b e => by
    obtain ⟨i, hi⟩ := List.mem_iff_getElem?.mp hm
    have := hg.2 i g hi
    rw [e] at this
    exact this
  have key : ∀ (rs : List Row) (st : (Nat → Int) × List (List Int)), (∀ r ∈ rs, ∀ v ∈ r.2, 0 ≤ v ∧ v < 8) → (∀ i, Bit (st.1 i)) → (∀ now ∈ st.2, Bits now) → ∀ now ∈ (rs.foldl (stepB gs ps) st).2, Bits now := fun rs => by
    induction rs with
    | nil => intro st _ _ h; exact h
    | cons r rs ih =>
      intro st h h1 h2
      have nb : Bits (nowB gs ps st.1 r) := run_bits h1 (knW_low (h r List.mem_cons_self)) gs isB
      rw [List.foldl_cons]
      refine ih _ (fun x hx => h x (List.mem_cons_of_mem _ hx)) (fun i => ?_) fun now hn => ?_
      · show Bit (nextB gs st.1 (nowB gs ps st.1 r) r.1 i)
        unfold nextB
        split
        · split
          · exact nb.getD _
          · exact h1 i
        · exact .inl rfl
      · rcases List.mem_append.mp hn with hn | hn
        · exact h2 now hn
        · rw [List.mem_singleton.mp hn]
          exact nb
  refine key rs _ hr (fun i => ?_) fun now hn => by cases hn
  show Bit (bx0 gs i)
  unfold bx0
  split
  · rename_i c b s h
    exact (hg.2 _ _ h).1
  · exact .inl rfl
theorem bk_waves {n : Nat} {rows : List (List Int)} (h : ∀ r ∈ rows, Bits r) (hn : n ≤ 40) (hl : rows.length ≤ 60) : Bk 2 2500 (wavesD n rows) := by
  have a : ∀ k, Bk 1 61 (.tuple (rows.map fun r => PyData.int (r.getD k 0))) := fun k => (bk_tup (bk_map fun r hr => bk_bit ((h r hr).getD k))).le (Nat.le_refl _) (by omega)
  have b : BkA 1 (61 * (List.range n).length) ((List.range n).map fun k => PyData.tuple (rows.map fun r => PyData.int (r.getD k 0))) := bk_map fun k _ => a k
  refine (bk_tup b).le (Nat.le_refl _) ?_
  rw [List.length_range]
  omega
theorem wf_of {ins : List In} (ok : InsOk ins) {gs : List Gt} (h : NetOk ins gs) {rs : List Row} (hl : rs.length ≤ 60) (hr : ∀ r ∈ rs, RowOk ins.length r) : WfB gs (ins.map (·.1)) rs where
  g := h.wf
  inn := h.inn
  nd := by
    rw [ok.names]
    exact List.Nodup.sublist (List.take_sublist _ _) (by decide +kernel)
  few := by rw [List.length_map]; have := ok.few; omega
  rows := by omega
  wide := fun r hm => by rw [List.length_map]; exact (hr r hm).wide
end L34
namespace DL
open PySem PySem.Spec PyProof.Rows L2
/-! ### an own list lent to a test -/
def mLendT (i : Nat) (m : MT) : MT := fun env P => ∃ xs, env[i]? = some (.own xs) ∧ m ((hide env).set i (.d (.list xs))) fun b _ => P b env
theorem gt_lend (i : Nat) {X : Cx} {e : Expr} {n : Nat} {m : MT} (h : GT X e n m) : GT X e n (mLendT i m) := pt_imp h fun σ H Q h => by
  obtain ⟨W, B, G0, H0, G, env, P, R, ⟨xs, hx, hm⟩, q⟩ := h
  obtain ⟨l, vs, e1, hl, hg, h0, hmu, hq⟩ := R.get_own hx
  obtain ⟨R2, d2, s2⟩ := R.publish hx e1 hl hg h0 hmu hq
  have R3 := R2.hide
  have ee : hide (env.set i (.d (.list xs))) = (hide env).set i (.d (.list xs)) := by
    unfold hide
    rw [List.map_set]
    rfl
  rw [ee] at R3
  have no : NoOwn ((hide env).set i (.d (.list xs))) := ee ▸ hide_no _
  have R4 := R3.base0 no
  refine ⟨.of W.dk, B, _, _, _, _, _, R4, hm, fun b e' G' H' p1 s1 R5 => ?_⟩
  exact q b env G H' p1 (Same.refl _) (R.back R5.toRW)
end DL
namespace DL
open PySem PySem.Spec PyProof.Rows L2
/-! ### readings that leave the slots as they are: an expression is this datum, a test this truth -/
def Ev (m : ME) (env : DEnv) (x : D) : Prop := ∀ Q : D → DEnv → Prop, Q x env → m env Q
def Tv (t : MT) (env : DEnv) (b : Bool) : Prop := ∀ Q : Bool → DEnv → Prop, Q b env → t env Q
section
variable {env : DEnv} {a b m : ME} {t u : MT} {x y z : D} {p q : Bool} {i : Nat} {E : DEnds} {sa sb : MS}
theorem ev_var (h : env[i]? = some (.d x)) : Ev (mVar i) env x := fun Q k => by
  unfold mVar
  rw [h]
  exact k
theorem ev_c : Ev (mC x) env x := fun _ k => k
theorem ev_len {w : Option Nat} {xs : List D} (h : env[i]? = some (.mo w (.lst xs))) : Ev (mLenX i) env (.int xs.length) := fun Q k => by
  unfold mLenX
  rw [h]
  exact k
theorem ev_op {f : D → D → (D → Prop) → Prop} (ha : Ev a env x) (hb : Ev b env y) (h : ∀ P : D → Prop, P z → f x y P) : Ev (mOp f a b) env z := fun Q k => ha _ (hb _ (h _ k))
theorem ev_add {j k : Int} (ha : Ev a env (.int j)) (hb : Ev b env (.int k)) : Ev (mOp dAdd a b) env (.int (j + k)) := ev_op ha hb fun _ h => h
theorem ev_sub {j k : Int} (ha : Ev a env (.int j)) (hb : Ev b env (.int k)) : Ev (mOp dSub a b) env (.int (j - k)) := ev_op ha hb fun _ h => h
theorem ev_ixT {xs : List D} {k : Int} (ha : Ev a env (.tuple xs)) (hb : Ev b env (.int k)) (h : atI xs k = some x) : Ev (mOp dIx a b) env x := ev_op ha hb fun _ k => ⟨_, h, k⟩
theorem ev_ixL {xs : List D} {k : Int} (ha : Ev a env (.list xs)) (hb : Ev b env (.int k)) (h : atI xs k = some x) : Ev (mOp dIx a b) env x := ev_op ha hb fun _ k => ⟨_, h, k⟩
theorem ev_ixS {s : Str} {k : Int} {c : Nat} (ha : Ev a env (.str s)) (hb : Ev b env (.int k)) (hl : s.length ≤ sizeLine) (h : atI s.cps.toList k = some c) : Ev (mOp dIx a b) env (.str ⟨#[c]⟩) := ev_op ha hb fun _ k => ⟨hl, _, h, k⟩
theorem tv_cmp {f : D → D → (Bool → Prop) → Prop} (ha : Ev a env x) (hb : Ev b env y) (h : ∀ P : Bool → Prop, P p → f x y P) : Tv (mCmpT f a b) env p := fun Q k => ha _ (hb _ (h _ k))
theorem tv_lt {j k : Int} (ha : Ev a env (.int j)) (hb : Ev b env (.int k)) : Tv (mCmpT cLt a b) env (decide (j < k)) := tv_cmp ha hb fun _ h => h
theorem tv_le {j k : Int} (ha : Ev a env (.int j)) (hb : Ev b env (.int k)) : Tv (mCmpT cLe a b) env (decide (j ≤ k)) := tv_cmp ha hb fun _ h => h
theorem tv_gt {j k : Int} (ha : Ev a env (.int j)) (hb : Ev b env (.int k)) : Tv (mCmpT cGt a b) env (decide (k < j)) := tv_cmp ha hb fun _ h => h
theorem tv_ge {j k : Int} (ha : Ev a env (.int j)) (hb : Ev b env (.int k)) : Tv (mCmpT cGe a b) env (decide (k ≤ j)) := tv_cmp ha hb fun _ h => h
theorem tv_eqI {j k : Int} (ha : Ev a env (.int j)) (hb : Ev b env (.int k)) : Tv (mCmpT cEq a b) env (decide (j = k)) := tv_cmp ha hb fun _ h => h
theorem tv_neI {j k : Int} (ha : Ev a env (.int j)) (hb : Ev b env (.int k)) : Tv (mCmpT cNe a b) env (!decide (j = k)) := tv_cmp ha hb fun _ h => h
theorem tv_eqS {j k : Str} (ha : Ev a env (.str j)) (hb : Ev b env (.str k)) : Tv (mCmpT cEq a b) env (decide (j = k)) := tv_cmp ha hb fun _ h => h
theorem tv_neS {j k : Str} (ha : Ev a env (.str j)) (hb : Ev b env (.str k)) : Tv (mCmpT cNe a b) env (!decide (j = k)) := tv_cmp ha hb fun _ h => h
theorem tv_or (ha : Tv t env p) (hb : p = false → Tv u env q) : Tv (mOrT t u) env (p || q) := fun Q k => ha _ (by
  cases p with
  | true => exact k
  | false => exact hb rfl Q k)
theorem tv_and (ha : Tv t env p) (hb : p = true → Tv u env q) : Tv (mAndT t u) env (p && q) := fun Q k => ha _ (by
  cases p with
  | true => exact hb rfl Q k
  | false => exact k)
theorem tv_not (ha : Tv t env p) : Tv (mNotT t) env (!p) := fun Q k => ha _ k
/-- xs != [], xs lent -/
theorem tv_someL {xs : List D} (h : env[i]? = some (.mo none (.lst xs))) : Tv (mLendT i (mCmpT cNe (mVar i) (mPubF (mLst mNil)))) env (!xs.isEmpty) := fun Q k => by
  have li : i < (hide env).length := by
    unfold hide
    rw [List.length_map]
    exact (List.getElem?_eq_some_iff.mp h).1
  refine ⟨xs, h, ?_⟩
  have e : Ev (mVar i) ((hide env).set i (.d (.list xs))) (.list xs) := ev_var (List.getElem?_set_self li)
  refine e _ ⟨by decide, ?_⟩
  show cNe (.list xs) (.list []) _
  exact k
theorem sif_by (ht : Tv t env p) (h1 : p = true → sa E env) (h2 : p = false → sb E env) : sIf t sa sb E env := ht _ (by
  cases p with
  | true => exact h1 rfl
  | false => exact h2 rfl)
theorem sset_by (h : Ev m env x) (k : E.nx (env.set i (.d x))) : sSet i m E env := h _ k
theorem sret_by (h : Ev m env x) (k : E.rt x env) : sRet m E env := h _ k
end
end DL
namespace DL
open PySem PySem.Spec PyProof.Rows L2
section
variable {env : DEnv} {m m1 m2 m3 : ME} {x y z : D}
theorem ev_repr {d n : Nat} (h : Ev m env x) (b : Bk d n x) (hd : d ≤ 60) (hn : n ≤ 300000) : Ev (mCB dReprX (mCons m mNil)) env (.str x.shown) := fun Q k => h _ (by
  obtain ⟨h1, h2, h3⟩ := b.repr hd hn
  exact ⟨h1, h2, h3, k⟩)
theorem ev_tup1 (h1 : Ev m1 env x) : Ev (mTup (mCons m1 mNil)) env (.tuple [x]) := fun Q k => h1 _ ⟨(show (1 : Nat) ≤ sizeLine by decide), k⟩
theorem ev_tup2 (h1 : Ev m1 env x) (h2 : Ev m2 env y) : Ev (mTup (mCons m1 (mCons m2 mNil))) env (.tuple [x, y]) := fun Q k => h1 _ (h2 _ ⟨(show (2 : Nat) ≤ sizeLine by decide), k⟩)
theorem ev_tup3 (h1 : Ev m1 env x) (h2 : Ev m2 env y) (h3 : Ev m3 env z) : Ev (mTup (mCons m1 (mCons m2 (mCons m3 mNil)))) env (.tuple [x, y, z]) := fun Q k => h1 _ (h2 _ (h3 _ ⟨(show (3 : Nat) ≤ sizeLine by decide), k⟩))
end
end DL
namespace DL
open PySem PySem.Spec PyProof.Rows L2
theorem seq_set {i : Nat} {m : ME} {rest : MS} {E : DEnds} {env : DEnv} (h : m env fun x e1 => rest E (e1.set i (.d x))) : sSeq (sSet i m) rest E env := h
theorem seq_ev {i : Nat} {m : ME} {x : D} {rest : MS} {E : DEnds} {env : DEnv} (h : Ev m env x) (k : rest E (env.set i (.d x))) : sSeq (sSet i m) rest E env := h _ k
end DL
namespace L34
open PySem PySem.Spec PyProof.Rows L2 DL
def leftD (x : Str × Nat) : D := .tuple [.str "in", .str x.1, .int (x.2 : Int)]
def insOf (x : In) : List (Str × Nat) := (List.range x.2.1).map fun k => (x.1, k)
def allIn (ins : List In) : List (Str × Nat) := ins.flatMap insOf
theorem allIn_take {ins : List In} {i : Nat} {x : In} (h : ins[i]? = some x) : allIn (ins.take (i + 1)) = allIn (ins.take i) ++ insOf x := by
  rw [take_snoc h]
  unfold allIn
  rw [List.flatMap_append, List.flatMap_cons, List.flatMap_nil, List.append_nil]
theorem allIn_len : ∀ ins : List In, (∀ x ∈ ins, x.2.1 ≤ 3) → (allIn ins).length ≤ 3 * ins.length
  | [], _ => Nat.le_refl _
  | x :: r, h => by
    have h1 := allIn_len r fun y hy => h y (List.mem_cons_of_mem _ hy)
    have h2 := h x List.mem_cons_self
    have h3 : (insOf x).length = x.2.1 := by unfold insOf; rw [List.length_map, List.length_range]
    unfold allIn at h1 ⊢
    rw [List.flatMap_cons, List.length_append, List.length_cons, h3]
    omega
theorem allIn_mem {ins : List In} {x : Str × Nat} : x ∈ allIn ins ↔ ∃ a ∈ ins, x.1 = a.1 ∧ x.2 < a.2.1 := by
  unfold allIn insOf
  rw [List.mem_flatMap]
  constructor
  · rintro ⟨a, ha, hx⟩
    obtain ⟨k, hk, rfl⟩ := List.mem_map.mp hx
    exact ⟨a, ha, rfl, List.mem_range.mp hk⟩
  · rintro ⟨a, ha, h1, h2⟩
    exact ⟨a, ha, List.mem_map.mpr ⟨x.2, List.mem_range.mpr h2, by rw [← h1]⟩⟩
theorem allIn_some {ins : List In} (ok : InsOk ins) : allIn ins ≠ [] := by
  have h1 := ok.some
  cases ins with
  | nil => simp at h1
  | cons x r =>
    have h2 := (ok.wide x List.mem_cons_self).1
    have : (x.1, 0) ∈ allIn (x :: r) := allIn_mem.mpr ⟨x, List.mem_cons_self, rfl, h2⟩
    intro e
    rw [e] at this
    cases this
structure WI (ins : List In) (size : Nat) (gs : List Gt) (left : List (Str × Nat)) : Prop where
  room : left.length + gs.length ≤ size
  ok : ∀ (i : Nat) g, gs[i]? = some g → g.ok size i
  all : ∀ x ∈ allIn ins, x ∈ left ∨ Gt.inn x.1 x.2 ∈ gs
  lf : ∀ x ∈ left, x ∈ allIn ins
  inn : ∀ (i : Nat) p k, gs[i]? = some (.inn p k) → p ∈ ins.map (·.1)
  first : left = [] → gs ≠ []
  clk : ∀ (i : Nat) c b s, gs[i]? = some (.box c b s) → c = "c" ∨ c = "d"
theorem get_snoc {α : Type} {l : List α} {a x : α} {i : Nat} (h : (l ++ [a])[i]? = some x) : l[i]? = some x ∨ (i = l.length ∧ x = a) := by
  rcases Nat.lt_trichotomy i l.length with h1 | h1 | h1
  · rw [List.getElem?_append_left h1] at h
    exact .inl h
  · subst h1
    rw [List.getElem?_append_right (Nat.le_refl _), Nat.sub_self] at h
    cases h
    exact .inr ⟨rfl, rfl⟩
  · rw [List.getElem?_append_right (by omega), List.getElem?_eq_none (by simp; omega)] at h
    cases h
theorem WI.push {ins : List In} {size : Nat} {gs : List Gt} {left : List (Str × Nat)} (h : WI ins size gs left) (g : Gt) (r : left.length + gs.length < size) (hg : g.ok size gs.length) (hi : ∀ p k, g ≠ .inn p k) (hc : ∀ c b s, g = .box c b s → c = "c" ∨ c = "d") : WI ins size (gs ++ [g]) left where
  room := by rw [List.length_append]; exact r
  ok := fun i x hx => by
    rcases get_snoc hx with hx | ⟨rfl, rfl⟩
    · exact h.ok i x hx
    · exact hg
  all := fun x hx => (h.all x hx).imp id fun z => List.mem_append_left _ z
  lf := h.lf
  inn := fun i p k hx => by
    rcases get_snoc hx with hx | ⟨rfl, e⟩
    · exact h.inn i p k hx
    · exact absurd e.symm (hi p k)
  first := fun _ => by simp
  clk := fun i c b s hx => by
    rcases get_snoc hx with hx | ⟨rfl, e⟩
    · exact h.clk i c b s hx
    · exact hc c b s e.symm
theorem WI.pop {ins : List In} {size : Nat} {gs : List Gt} {left : List (Str × Nat)} (h : WI ins size gs left) (ok : InsOk ins) {n : Nat} {x : Str × Nat} (hn : left[n]? = some x) : WI ins size (gs ++ [.inn x.1 x.2]) (left.eraseIdx n) where
  room := by
    have := h.room
    have hl := (List.getElem?_eq_some_iff.mp hn).1
    rw [List.length_append, List.length_eraseIdx, if_pos hl]
    show _ + (_ + 1) ≤ _
    omega
  ok := fun i y hy => by
    rcases get_snoc hy with hy | ⟨rfl, rfl⟩
    · exact h.ok i y hy
    · obtain ⟨a, ha, _, h2⟩ := allIn_mem.mp (h.lf x (List.mem_of_getElem? hn))
      have := (ok.wide a ha).2
      show x.2 ≤ 3
      omega
  all := fun y hy => by
    rcases h.all y hy with z | z
    · obtain ⟨i, hi⟩ := List.mem_iff_getElem?.mp z
      by_cases e : i = n
      · subst e
        rw [hn] at hi
        cases hi
        exact .inr (List.mem_append_right _ List.mem_cons_self)
      · obtain ⟨hil, hie⟩ := List.getElem?_eq_some_iff.mp hi
        exact .inl (List.mem_eraseIdx_iff_getElem.mpr ⟨i, hil, e, hie⟩)
    · exact .inr (List.mem_append_left _ z)
  lf := fun y hy => h.lf y (List.mem_of_mem_eraseIdx hy)
  inn := fun i p k hx => by
    rcases get_snoc hx with hx | ⟨rfl, e⟩
    · exact h.inn i p k hx
    · injection e with e1 e2
      obtain ⟨a, ha, h1, _⟩ := allIn_mem.mp (h.lf x (List.mem_of_getElem? hn))
      rw [e1, h1]
      exact List.mem_map.mpr ⟨a, ha, rfl⟩
  first := fun _ => by simp
  clk := fun i c b s hx => by
    rcases get_snoc hx with hx | ⟨rfl, e⟩
    · exact h.clk i c b s hx
    · cases e
/-- at the end each way in has its gate -/
theorem WI.done {ins : List In} {size : Nat} {gs : List Gt} {left : List (Str × Nat)} (h : WI ins size gs left) (e : gs.length = size) (hs : size ≤ 40) : NetOk ins gs ∧ ∀ x ∈ allIn ins, Gt.inn x.1 x.2 ∈ gs := by
  have l0 : left = [] := by
    have := h.room
    cases left with
    | nil => rfl
    | cons a r => rw [List.length_cons] at this; omega
  subst l0
  refine ⟨⟨⟨by omega, fun i g hg => by rw [e]; exact h.ok i g hg⟩, by omega, h.inn, h.clk⟩, fun x hx => ?_⟩
  rcases h.all x hx with z | z
  · cases z
  · exact z
theorem flat_cut (ins : List In) (ow : Int) (nm : List D) : DL.cutD (flatIn ins ow nm) none (some (-1)) = ins.map inD' := by
  have h1 : HT.sIx (flatIn ins ow nm).length 0 none = 0 := rfl
  have h2 : (flatIn ins ow nm).length = ins.length + 1 := by unfold flatIn; rw [List.length_append, List.length_map]; rfl
  have h3 : HT.sIx (flatIn ins ow nm).length (flatIn ins ow nm).length (some (-1)) = ins.length := by
    rw [h2]
    unfold HT.sIx
    simp
    omega
  unfold DL.cutD
  rw [h1, h3, List.drop_zero, Nat.sub_zero]
  unfold flatIn
  rw [List.take_append_of_le_length (by rw [List.length_map]; exact Nat.le_refl _), List.take_of_length_le (by rw [List.length_map]; exact Nat.le_refl _)]
def leftDZ (p : Str) (k : Int) : D := .tuple [.str "in", .str p, .int k]
theorem add_by {i j k : Int} {Pd : D → Prop} (e : i + j = k) (p : Pd (.int k)) : dAdd (.int i) (.int j) Pd := by
  subst e
  exact p
def inF (p : Str) : D → Option D
  | .int k => some (.tuple [.str "in", .str p, .int k])
  | _ => none
theorem inF_list (x : In) : (rangeD 0 x.2.1).filterMap (inF x.1) = (insOf x).map leftD := by
  unfold rangeD insOf
  rw [List.filterMap_map, List.map_map]
  have : ∀ l : List Nat, l.filterMap (inF x.1 ∘ fun k : Nat => PyData.int (0 + (k : Int))) = l.map (leftD ∘ fun k => (x.1, k)) := fun l => by
    induction l with
    | nil => rfl
    | cons k l ih =>
      rw [List.filterMap_cons, List.map_cons, ih]
      show leftDZ x.1 (0 + (k : Int)) :: _ = leftD (x.1, k) :: _
      rw [Int.zero_add]
      rfl
  exact this _
theorem map_erase {α β : Type} {f : α → β} : ∀ (l : List α) (n : Nat), (l.map f).eraseIdx n = (l.eraseIdx n).map f
  | [], _ => by rw [List.map_nil, List.eraseIdx_nil, List.eraseIdx_nil, List.map_nil]
  | a :: l, 0 => rfl
  | a :: l, n + 1 => by rw [List.map_cons, List.eraseIdx_cons_succ, List.eraseIdx_cons_succ, List.map_cons, map_erase l n]
theorem find_gate {ins : List In} (ok : InsOk ins) {gs : List Gt} (h : NetOk ins gs) {p : Str} {k : Nat} (hm : Gt.inn p k ∈ gs) : ∃ j, findD (gs.map Gt.d) (leftD (p, k)) = some j ∧ j ≤ 40 := by
  cases e : findD (gs.map Gt.d) (leftD (p, k)) with
  | none =>
    have := List.findIdx?_eq_none_iff.mp e (leftD (p, k)) (List.mem_map.mpr ⟨.inn p k, hm, rfl⟩)
    rw [eqv_self _ rfl] at this
    cases this
  | some j =>
    obtain ⟨hj, _⟩ := List.findIdx?_eq_some_iff_getElem.mp e
    rw [List.length_map] at hj
    exact ⟨j, rfl, by have := h.few; omega⟩
theorem first_if {env : DEnv} {left : List D} {wy M k : Int} {a b : MS} {E : DEnds} (h2 : env[2]? = some (.mo none (.lst left))) (h5 : env[5]? = some (.d (.int M))) (h6 : env[6]? = some (.d (.int k))) (h7 : env[7]? = some (.d (.int wy)))
    (p1 : left ≠ [] → a E env) (p2 : left = [] ∨ ((left.length : Int) < M - k ∧ k ≠ 0) → b E env) :
    sIf (mAndT (mLendT 2 (mCmpT cNe (mVar 2) (mPubF (mLst mNil)))) (mOrT (mCmpT cLt (mVar 7) (mC (.int 3))) (mOrT (mCmpT cLe (mOp dSub (mVar 5) (mVar 6)) (mLenX 2)) (mCmpT cEq (mVar 6) (mC (.int 0)))))) a b E env := by
  refine sif_by (tv_and (tv_someL h2) fun _ => tv_or (tv_lt (ev_var h7) ev_c) fun _ => tv_or (tv_le (ev_sub (ev_var h5) (ev_var h6)) (ev_len h2)) fun _ => tv_eqI (ev_var h6) ev_c) (fun h => p1 fun e => ?_) fun h => p2 ?_
  · rw [e] at h
    cases h
  · cases left with
    | nil => exact .inl rfl
    | cons y r =>
      rw [List.isEmpty_cons, Bool.not_false, Bool.true_and, Bool.or_eq_false_iff, Bool.or_eq_false_iff] at h
      have h1 := of_decide_eq_false h.2.1
      have h2 := of_decide_eq_false h.2.2
      exact .inr ⟨by omega, h2⟩
theorem seq_ix {k n : Nat} (h : k < n) : seqIndex? (k : Int) n = some k := by
  unfold seqIndex?
  simp
  omega
section
variable {P : Program} {w : World} {K : PySem.W.Frag} {mg : Str → Option Value} {base : Heap}
theorem ok_net_drawn {f : Addr} {fd : FuncData} (T : Tb K mg) (c_law_draw : Cal P w K mg base "_law_draw" 1 ["_law_deck_here", "_law_sides"] 1 spDraw) (F : Fun K "_law_net_drawn" "_law_net_drawn" s_law_net_drawn f fd) : FnG P w K mg base CX0 2 f fd ["_law_deck_here", "_law_flat"] (spD K 2100 spNet) := by
  have nd := sc_law_net_drawn.nd
  refine okDG (k := 1) F sc_law_net_drawn (fun as Q h => by obtain ⟨ins, rfl, _⟩ := h; rfl) (fun cdv A fs s H E hr => have hu := hr.rm.units; have hu2 := hu2_of hr.rm; (gss_cons (gs_setF (i := 2) nd rfl (.inl rfl) (gf_lst ga_nil))
      (gss_cons (gs_forC 0 PassesOwn.never rfl (gi_tup (ge_slice sd_sl (ge_var 1) go_none (go_some (ge_un ud_neg ge_int)))) (gg_name (i := 3) (vs := [3]) nd rfl (.inr rfl) (by decide)) (gss_one (gs_setF (i := 2) nd rfl (.inl rfl) (gf_add (ge_var 2) (ge_pub (gf_lc 0 rfl nd (gi_range1 (by rfl) T.n_range (ga_cons (ge_ix od_ix (ge_var 3) ge_int (fun _ _ => rfl)) ga_nil)) (blkOk_by (own := [("_law_k", 10)]) (N := N_law_net_drawn) (sc := defScope s_law_net_drawn) (by decide +kernel)) (fun _ _ _ _ _ => (gg_name (i := 10) (vs := (List.map (·.2) ([("_law_k", 10)] : List (Str × Nat)))) nd rfl (.inl rfl) (by decide))) (fun _ _ _ _ _ => gts_nil) (fun _ _ _ _ _ => (ge_tup (ga_cons ge_str (ga_cons (ge_ix od_ix (ge_var 3) ge_int (fun _ _ => rfl)) (ga_cons (ge_var 10) ga_nil)))))))))))
      (gss_cons (gs_setF (i := 4) nd rfl (.inr rfl) (gf_lst ga_nil))
      (gss_cons (gs_set (i := 5) nd rfl (.inl rfl) (ge_op od_add (ge_op od_add (ge_lenX 2 (by rfl) T.n_len) ge_int) (ge_cal c_law_draw (hr.mono (by first | decide | omega)) (by rfl) (ga_hd 0 (ga_cons ge_int ga_nil)))))
      (gss_cons (gs_while 2000 PassesOwn.never (gt_cmp od_lt (ge_lenX 4 (by rfl) T.n_len) (ge_var 5) (nomark _)) (gss_cons (gs_par rfl nd (i := 6) (j := 7) rfl rfl (by decide) rfl rfl (ga_cons (ge_lenX 4 (by rfl) T.n_len) (ga_cons (ge_cal c_law_draw (hr.mono (by first | decide | omega)) (by rfl) (ga_hd 0 (ga_cons ge_int ga_nil))) ga_nil)) (by rfl))
      (gss_one (gs_if (PW.pt (gt_and (gt_lend 2 (gt_cmp (od_ne hu) (ge_var 2) (ge_lst ga_nil) (nomark _))) (pw_and1 (PW.pt (gt_or (gt_cmp od_lt (ge_var 7) ge_int (nomark _)) (gt_or (gt_cmp od_le (ge_op od_sub (ge_var 5) (ge_var 6)) (ge_lenX 2 (by rfl) T.n_len) (nomark _)) (pw_or1 (gt_cmp (od_eq hu) (ge_var 6) ge_int (nomark _))))))))) (gss_one (gs_append (i := 4) rfl (.inr (.inl rfl)) (ge_popAtM 2 (ge_cal c_law_draw (hr.mono (by first | decide | omega)) (by rfl) (ga_hd 0 (ga_cons (ge_lenX 2 (by rfl) T.n_len) ga_nil)))))) (gss_one (gs_if (PW.pt (gt_or (gt_cmp od_lt (ge_var 7) ge_int (nomark _)) (pw_or1 (gt_cmp (od_eq hu) (ge_var 6) ge_int (nomark _))))) (gss_one (gs_append (i := 4) rfl (.inr (.inl rfl)) (ge_tup (ga_cons ge_str (ga_cons (ge_cal c_law_draw (hr.mono (by first | decide | omega)) (by rfl) (ga_hd 0 (ga_cons ge_int ga_nil))) ga_nil))))) (gss_one (gs_if (gt_cmp od_lt (ge_var 7) ge_int (nomark _)) (gss_one (gs_append (i := 4) rfl (.inr (.inl rfl)) (ge_tup (ga_cons ge_str (ga_cons (ge_ix od_ix ge_str (ge_cal c_law_draw (hr.mono (by first | decide | omega)) (by rfl) (ga_hd 0 (ga_cons ge_int ga_nil))) (fun _ _ => rfl)) (ga_cons (ge_cal c_law_draw (hr.mono (by first | decide | omega)) (by rfl) (ga_hd 0 (ga_cons ge_int ga_nil))) (ga_cons (ge_cal c_law_draw (hr.mono (by first | decide | omega)) (by rfl) (ga_hd 0 (ga_cons (ge_var 5) ga_nil))) ga_nil))))))) (gss_one (gs_if (gt_cmp (od_eq hu) (ge_var 7) ge_int (nomark _)) (gss_one (gs_append (i := 4) rfl (.inr (.inl rfl)) (ge_tup (ga_cons ge_str (ga_cons (ge_cal c_law_draw (hr.mono (by first | decide | omega)) (by rfl) (ga_hd 0 (ga_cons (ge_var 6) ga_nil))) ga_nil))))) (gss_one (gs_append (i := 4) rfl (.inr (.inl rfl)) (ge_tup (ga_cons (ge_ix od_ix (ge_lst (ga_cons ge_str (ga_cons ge_str (ga_cons ge_str ga_nil)))) (ge_cal c_law_draw (hr.mono (by first | decide | omega)) (by rfl) (ga_hd 0 (ga_cons ge_int ga_nil))) (fun _ _ => rfl)) (ga_cons (ge_cal c_law_draw (hr.mono (by first | decide | omega)) (by rfl) (ga_hd 0 (ga_cons (ge_var 6) ga_nil))) (ga_cons (ge_cal c_law_draw (hr.mono (by first | decide | omega)) (by rfl) (ga_hd 0 (ga_cons (ge_var 6) ga_nil))) ga_nil))))))))))))))))
      (gss_cons (gs_pub 4 (gs_set (i := 8) nd rfl (.inl rfl) (ge_lst ga_nil)))
      (gss_cons (gs_forC 0 PassesOwn.never rfl (gi_tup (ge_var 1)) (gg_name (i := 3) (vs := [3]) nd rfl (.inr rfl) (by decide)) (gss_cons (gs_set (i := 9) nd rfl (.inr rfl) (ge_ix od_ix (ge_lst (ga_cons (ge_ix od_ix (ge_var 3) ge_int (fun _ _ => rfl)) (ga_cons (ge_ix od_ix (ge_ix od_ix (ge_var 1) ge_int (fun _ _ => rfl)) ge_int (fun _ _ => rfl)) ga_nil))) (ge_callTy cd_int (by rfl) T.n_int (by decide +kernel) (ga_cons (ge_cmp (od_eq hu) (ge_ix od_ix (ge_var 3) ge_int (fun _ _ => rfl)) ge_str (nomark _)) ga_nil)) (fun _ _ => rfl)))
      (gss_one (gs_set (i := 8) nd rfl (.inl rfl) (ge_op od_add (ge_var 8) (ge_pub (gf_lc 0 rfl nd (gi_range1 (by rfl) T.n_range (ga_cons (ge_ix od_ix (ge_var 3) ge_int (fun _ _ => rfl)) ga_nil)) (blkOk_by (own := [("_law_k", 10)]) (N := N_law_net_drawn) (sc := defScope s_law_net_drawn) (by decide +kernel)) (fun _ _ _ _ _ => (gg_name (i := 10) (vs := (List.map (·.2) ([("_law_k", 10)] : List (Str × Nat)))) nd rfl (.inl rfl) (by decide))) (fun _ _ _ _ _ => gts_nil) (fun _ _ _ _ _ => (ge_tup (ga_cons (ge_ix od_ix (ge_var 3) ge_int (fun _ _ => rfl)) (ga_cons (ge_var 10) (ga_cons (ge_tup (ga_cons ge_str (ga_cons (ge_bm PySem.F.plainAttrs_list PySem.F.slot_list_index PySem.F.type_list_index (md_index hu2) (ge_var 4) (ga_cons (ge_tup (ga_cons ge_str (ga_cons (ge_var 9) (ga_cons (ge_var 10) ga_nil)))) ga_nil)) ga_nil))) ga_nil))))))))))))
      (gss_one (gs_ret (ge_tup (ga_cons (ge_callTy cd_tuple (by rfl) T.n_tuple (by decide +kernel) (ga_cons (ge_var 4) ga_nil)) (ga_cons (ge_callTy cd_tuple (by rfl) T.n_tuple (by decide +kernel) (ga_cons (ge_callB (cd_sorted hu) (by rfl) T.n_sorted (by decide +kernel) (ga_cons (ge_var 8) ga_nil)) ga_nil)) (ga_cons (ge_tup (ga_cons ge_str ga_nil)) ga_nil)))))))))))))) (by decide) (fun as Q h => ?_)
  obtain ⟨ins, rfl, ok, hQ⟩ := h
  have big : (1000 : Nat) ≤ sizeLine := by decide
  have il : ins.length ≤ 3 := ok.few
  have w3 : ∀ x ∈ ins, x.2.1 ≤ 3 := fun x hx => (ok.wide x hx).2
  refine ⟨by decide, ?_⟩
  refine ⟨cost0 rfl, ?_⟩
  rw [flat_cut]
  refine sfor_by (fun i env => ∃ e3, env = [.hd, .d (flatOf ins), .mo none (.lst ((allIn (ins.take i)).map leftD)), e3, .un, .un, .un, .un, .un, .un, .un]) ⟨.un, rfl⟩ (fun i it env N hit hI hN => ?_) fun env hI => ?_
  · obtain ⟨e3, rfl⟩ := hI
    rw [List.getElem?_map, Option.map_eq_some_iff] at hit
    obtain ⟨x, hx, rfl⟩ := hit
    have xw := w3 x (List.mem_of_getElem? hx)
    refine ⟨_, rfl, by omega, by omega, cost0 rfl, no_one rfl, ?_⟩
    rw [Int.toNat_natCast]
    refine lcl_fun (inF x.1) _ _ (fun y hy k hk => ?_) (by rw [rangeD_len', List.length_nil]; omega) ?_
    · obtain ⟨j, _, rfl⟩ := rangeD_mem hy
      unfold lcStep gNm
      exact ⟨rfl, _, rfl, (show (3 : Nat) ≤ sizeLine by decide), rfl, hk⟩
    rw [inF_list, List.nil_append]
    have l1 := allIn_len ins w3
    have l2 : (allIn (ins.take i)).length + (insOf x).length = (allIn (ins.take (i + 1))).length := by rw [allIn_take hx, List.length_append]
    have l3 := allIn_len (ins.take (i + 1)) fun y hy => w3 y (List.mem_of_mem_take hy)
    have l4 : (ins.take (i + 1)).length ≤ 3 := by rw [List.length_take]; omega
    refine ⟨by rw [List.length_map, List.length_map, l2]; omega, hN _ ⟨.d (inD' x), ?_⟩⟩
    rw [allIn_take hx, List.map_append]
    rfl
  · obtain ⟨e3, rfl⟩ := hI
    rw [List.length_map, List.take_length]
    have l1 := allIn_len ins w3
    generalize hLl : allIn ins = L at l1
    refine ⟨by decide, 29, rfl, by decide, by decide, fun d d0 d1 => ?_⟩
    obtain ⟨n, rfl⟩ : ∃ n : Nat, d = (n : Int) := ⟨d.toNat, by omega⟩
    have eN : (((L.map leftD).length : Int) + 2) + (n : Int) = ((L.length + 2 + n : Nat) : Int) := by rw [List.length_map]; omega
    refine add_by eN ?_
    generalize hN : L.length + 2 + n = M
    have hM : M ≤ 40 := by omega
    refine ⟨fun m env => ∃ gs left e3 e6 e7, env = [.hd, .d (flatOf ins), .mo none (.lst (left.map leftD)), e3, .mo none (.lst (gs.map Gt.d)), .d (.int (M : Int)), e6, e7, .un, .un, .un] ∧ WI ins M gs left ∧ gs.length + m = M, M, ⟨[], L, _, _, _, rfl, ?_, Nat.zero_add _⟩, Nat.le_trans (Nat.mul_le_mul_right _ hM) (by decide), fun m env hI => ?_⟩
    · exact ⟨by rw [List.length_nil]; omega, (fun i g h => by cases h), (fun x hx => .inl (hLl ▸ hx)), (fun x hx => hLl ▸ hx), (fun i p k h => by cases h), (fun e => absurd (hLl.trans e) (allIn_some ok)), fun i c b s h => by cases h⟩
    obtain ⟨gs, left, e3, e6, e7, rfl, wi, hm⟩ := hI
    refine ⟨m - 1, Nat.sub_le _ _, ?_⟩
    refine dec_ite (fun h => ⟨?_, ?_⟩) (fun h => ?_)
    · rw [List.length_map] at h
      omega
    · rw [List.length_map] at h
      have h : gs.length < M := by omega
      refine ⟨8, rfl, by decide, by decide, fun wy w0 w1 => ?_⟩
      have lz : (gs.map Gt.d).length < sizeLine := by rw [List.length_map]; omega
      have fin : ∀ g left' x, WI ins M (gs ++ [g]) left' → x = g.d → ∃ gs2 left2 e3' e6' e7', ([.hd, .d (flatOf ins), .mo none (.lst (left'.map leftD)), e3, .mo none (.lst (gs.map Gt.d ++ [x])), .d (.int (M : Int)), .d (.int ((gs.map Gt.d).length : Int)), .d (.int wy), .un, .un, .un] : DEnv) = [.hd, .d (flatOf ins), .mo none (.lst (left2.map leftD)), e3', .mo none (.lst (gs2.map Gt.d)), .d (.int (M : Int)), e6', e7', .un, .un, .un] ∧ WI ins M gs2 left2 ∧ gs2.length + (m - 1) = M := fun g left' x wi' e => by
        subst e
        exact ⟨gs ++ [g], left', _, _, _, by rw [List.map_append]; rfl, wi', by rw [List.length_append]; show gs.length + 1 + _ = _; omega⟩
      refine first_if rfl rfl rfl rfl (fun hne => ?_) fun hc => ?_
      · have pos : 0 < left.length := by
          cases left with
          | nil => exact absurd rfl hne
          | cons y r => exact Nat.zero_lt_succ _
        have room := wi.room
        refine ⟨⟨_, rfl⟩, ⟨_, _, rfl⟩, ((left.map leftD).length : Int), rfl, by rw [List.length_map]; omega, by rw [List.length_map]; omega, fun r r0 r1 => ?_⟩
        rw [List.length_map] at r1
        obtain ⟨n, rfl⟩ : ∃ n : Nat, r = (n : Int) := ⟨r.toNat, by omega⟩
        have hn : n < left.length := by omega
        have eg : left[n]? = some left[n] := List.getElem?_eq_getElem hn
        refine ⟨⟨by omega, by omega⟩, n, leftD left[n], by rw [List.length_map]; exact seq_ix hn, by rw [List.getElem?_map, eg]; rfl, lz, ?_⟩
        rw [map_erase]
        exact fin _ _ _ (wi.pop ok eg) rfl
      · rw [List.length_map, List.length_map] at hc
        have hz : left.length + gs.length < M ∧ 0 < gs.length := by
          rcases hc with hc | hc
          · have l0 : left = [] := by
              cases left with
              | nil => rfl
              | cons y r => cases hc
            have := wi.first l0
            subst l0
            exact ⟨by rw [List.length_nil]; omega, List.length_pos_iff.mpr this⟩
          · omega
        have push : ∀ g x, Gt.ok M gs.length g → (∀ p k, g ≠ .inn p k) → (∀ c b s, g = .box c b s → c = "c" ∨ c = "d") → x = g.d → _ := fun g x h1 h2 h3 e => fin g left x (wi.push g hz.1 h1 h2 h3) e
        refine sif_by (tv_or (tv_lt (ev_var rfl) ev_c) fun _ => tv_eqI (ev_var rfl) ev_c) (fun _ => ?_) fun _ => ?_
        · refine ⟨⟨_, rfl⟩, 2, rfl, by decide, by decide, fun b b0 b1 => ⟨(show (2 : Nat) ≤ sizeLine by decide), lz, push (.is b) _ (show b = 0 ∨ b = 1 by omega) (fun _ _ z => by cases z) (fun _ _ _ z => by cases z) rfl⟩⟩
        refine sif_by (tv_lt (ev_var rfl) ev_c) (fun _ => ?_) fun _ => ?_
        · refine ⟨⟨_, rfl⟩, 2, rfl, by decide, by decide, fun b b0 b1 => ⟨(show ("cd" : Str).length ≤ sizeLine by decide), ?_⟩⟩
          have cs : ∃ c, atI ("cd" : Str).cps.toList b = some c ∧ ((⟨#[c]⟩ : Str) = "c" ∨ (⟨#[c]⟩ : Str) = "d") := by
            have : b = 0 ∨ b = 1 := by omega
            rcases this with rfl | rfl
            · exact ⟨_, rfl, .inl rfl⟩
            · exact ⟨_, rfl, .inr rfl⟩
          obtain ⟨cc, ec, eo⟩ := cs
          refine ⟨cc, ec, 2, rfl, by decide, by decide, fun v v0 v1 => ⟨(M : Int), rfl, by omega, by omega, fun t t0 t1 => ?_⟩⟩
          obtain ⟨n, rfl⟩ : ∃ n : Nat, t = (n : Int) := ⟨t.toNat, by omega⟩
          exact ⟨(show (4 : Nat) ≤ sizeLine by decide), lz, push (.box ⟨#[cc]⟩ v n) _ ⟨(show v = 0 ∨ v = 1 by omega), by omega⟩ (fun _ _ z => by cases z) (fun _ _ _ z => by cases z; exact eo) rfl⟩
        have gl : ((gs.map Gt.d).length : Int) = (gs.length : Int) := by rw [List.length_map]
        refine sif_by (tv_eqI (ev_var rfl) ev_c) (fun _ => ?_) fun _ => ?_
        · refine ⟨⟨_, rfl⟩, _, rfl, by omega, by omega, fun t t0 t1 => ?_⟩
          obtain ⟨n, rfl⟩ : ∃ n : Nat, t = (n : Int) := ⟨t.toNat, by omega⟩
          exact ⟨(show (2 : Nat) ≤ sizeLine by decide), lz, push (.nt n) _ (show n < gs.length by omega) (fun _ _ z => by cases z) (fun _ _ _ z => by cases z) rfl⟩
        · refine ⟨⟨_, rfl⟩, (show (3 : Nat) ≤ sizeLine by decide), 3, rfl, by decide, by decide, fun o o0 o1 => ?_⟩
          obtain ⟨on, rfl⟩ : ∃ n : Nat, o = (n : Int) := ⟨o.toNat, by omega⟩
          have eo : atI ([.str "and", .str "or", .str "xor"] : List D) (on : Int) = some (.str (opN on)) := by
            have : on = 0 ∨ on = 1 ∨ on = 2 := by omega
            rcases this with rfl | rfl | rfl <;> rfl
          refine ⟨_, eo, _, rfl, by omega, by omega, fun t t0 t1 => ⟨_, rfl, by omega, by omega, fun u u0 u1 => ?_⟩⟩
          obtain ⟨n, rfl⟩ : ∃ n : Nat, t = (n : Int) := ⟨t.toNat, by omega⟩
          obtain ⟨k, rfl⟩ : ∃ n : Nat, u = (n : Int) := ⟨u.toNat, by omega⟩
          exact ⟨(show (3 : Nat) ≤ sizeLine by decide), lz, push (.two on n k) _ (show on < 3 ∧ n < gs.length ∧ k < gs.length by omega) (fun _ _ z => by cases z) (fun _ _ _ z => by cases z) rfl⟩
    · rw [List.length_map] at h
      obtain ⟨nok, hall⟩ := wi.done (by have := wi.room; omega) hM
      have bg : BkA 1 (12 * gs.length) (gs.map Gt.d) := bk_map fun g hg => by
        obtain ⟨i, hi⟩ := List.mem_iff_getElem?.mp hg
        exact bk_gt ok nok hi
      have ok1 : okEq (.list (gs.map Gt.d)) = true := (bk_lst bg).ok (by decide)
      dsimp only
      refine seq_pub rfl ?_
      refine ⟨(show (0 : Nat) ≤ sizeLine by decide), ?_⟩
      refine ⟨cost0 rfl, ?_⟩
      refine sfor_by (fun i env => ∃ (ts : List (Str × Nat × Nat)) (e2 e3 e6 e7 e9 : EV), env = [.hd, .d (flatOf ins), e2, e3, .d (.list (gs.map Gt.d)), .d (.int (M : Int)), e6, e7, .d (.list (ts.map trD)), e9, .un] ∧ ts.length ≤ 3 * i ∧ ∀ t ∈ ts, t.1 ∈ (["q", "w", "z", "y"] : List Str) ∧ t.2.1 ≤ 3 ∧ t.2.2 ≤ 40) ⟨[], _, _, _, _, _, rfl, Nat.zero_le _, fun t ht => by cases ht⟩ (fun i it env N hit hI hN => ?_) fun env hI => ?_
      · obtain ⟨ts, e2, e3, e6, e7, e9, rfl, hl, ht⟩ := hI
        obtain ⟨x0, r0, hx0⟩ : ∃ x0 r0, ins = x0 :: r0 := by
          cases hi : ins with
          | nil => have := ok.some; rw [hi] at this; cases this
          | cons x0 r0 => exact ⟨x0, r0, rfl⟩
        have e0 : ∀ ow nm, atI (flatIn ins ow nm) 0 = some (inD' x0) := fun ow nm => by
          rw [hx0]
          exact atI_nat (j := 0) rfl
        have cas : ∃ (w z p : Str) (n : Nat) (rest : List D), it = .tuple (.str w :: .str z :: .int (n : Int) :: rest) ∧ z ∈ (["q", "w", "z", "y"] : List Str) ∧ n ≤ 3 ∧ (∀ k, k < n → (p, k) ∈ allIn ins) ∧ atI [PyData.str z, .str x0.1] (if decide (w = "out") = true then 1 else 0) = some (.str p) := by
          rcases List.mem_append.mp (List.mem_of_getElem? hit) with hm | hm
          · obtain ⟨a, ha, rfl⟩ := List.mem_map.mp hm
            refine ⟨"in", a.1, a.1, a.2.1, [.str a.2.2], rfl, ?_, w3 a ha, fun k hk => allIn_mem.mpr ⟨a, ha, rfl, hk⟩, ?_⟩
            · exact List.mem_of_mem_take (i := 3) (names_in ok (List.mem_map.mpr ⟨a, ha, rfl⟩))
            · rw [decide_eq_false (by decide +kernel)]
              rfl
          · rw [List.mem_singleton.mp hm]
            have hm0 : x0 ∈ ins := by rw [hx0]; exact List.mem_cons_self
            have ew : (ins.map (·.2.1)).getD 0 0 = x0.2.1 := by rw [hx0]; rfl
            refine ⟨"out", "y", x0.1, x0.2.1, [_], by rw [ew], by decide +kernel, w3 x0 hm0, fun k hk => allIn_mem.mpr ⟨x0, hm0, rfl, hk⟩, ?_⟩
            rw [decide_eq_true rfl]
            rfl
        have hi : i ≤ 3 := by
          have := (List.getElem?_eq_some_iff.mp hit).1
          unfold flatIn at this
          rw [List.length_append, List.length_map, List.length_cons, List.length_nil] at this
          omega
        obtain ⟨w, z, p, n, rest, rfl, hz, hn, hp, hix⟩ := cas
        refine ⟨.str z, atI_nat (j := 1) rfl, inD' x0, e0 _ _, .str x0.1, rfl, (show (2 : Nat) ≤ sizeLine by decide), .str w, atI_nat (j := 0) rfl, .str p, hix, ?_⟩
        refine ⟨.int (n : Int), atI_nat (j := 2) rfl, by omega, by omega, cost0 rfl, no_one rfl, ?_⟩
        rw [Int.toNat_natCast]
        refine lcl_opt (fun y => ∃ t, y = trD t ∧ t.1 = z ∧ t.2.1 ≤ 3 ∧ t.2.2 ≤ 40) _ _ (fun y hy k k0 k1 => ?_) (by rw [rangeD_len', List.length_nil]; omega) fun ys y1 y2 => ?_
        · obtain ⟨j, hj, rfl⟩ := rangeD_mem hy
          obtain ⟨g, hg, hg2⟩ := find_gate ok nok (hall _ (hp j hj))
          have okx : okEq (leftD (p, j)) = true := by
            obtain ⟨q, hq⟩ := List.mem_iff_getElem?.mp (hall _ (hp j hj))
            exact (bk_gt ok nok hq).ok (by decide)
          unfold lcStep gNm
          exact ⟨rfl, .str z, atI_nat (j := 1) rfl, rfl, (show (3 : Nat) ≤ sizeLine by decide), ok1, okx, g, hg, (show (2 : Nat) ≤ sizeLine by decide), (show (3 : Nat) ≤ sizeLine by decide), rfl, k1 _ ⟨(z, j, g), rfl, rfl, by show j ≤ 3; omega, hg2⟩⟩
        · rw [rangeD_len'] at y1
          obtain ⟨us, rfl, hus⟩ := list_of (g := trD) (A := fun t => t.1 = z ∧ t.2.1 ≤ 3 ∧ t.2.2 ≤ 40) ys fun y hy => by
            obtain ⟨t, h1, h2⟩ := y2 y hy
            exact ⟨t, h2, h1⟩
          rw [List.length_map] at y1
          refine ⟨by rw [List.nil_append, List.length_map, List.length_map]; omega, hN _ ⟨ts ++ us, e2, .d (.tuple (.str w :: .str z :: .int (n : Int) :: rest)), e6, e7, .d (.str p), ?_, ?_, ?_⟩⟩
          rotate_left
          · rw [List.length_append]
            omega
          · intro t hm
            rcases List.mem_append.mp hm with hm | hm
            · exact ht t hm
            · obtain ⟨u1, u2⟩ := hus t hm
              exact ⟨u1 ▸ hz, u2⟩
          · rw [List.map_append]
            rfl
      · obtain ⟨ts, e2, e3, e6, e7, e9, rfl, hl, ht⟩ := hI
        have fl : ∀ ow nm, (flatIn ins ow nm).length ≤ 4 := fun ow nm => by
          unfold flatIn
          rw [List.length_append, List.length_map, List.length_cons, List.length_nil]
          omega
        have hl : ts.length ≤ 12 := Nat.le_trans hl (Nat.mul_le_mul_left 3 (fl _ _))
        dsimp only
        refine ⟨fun x hx y hy => ?_, .inl fun x hx => ?_, by rw [List.length_map]; omega, fun x hx => ?_, (show (1 : Nat) ≤ sizeLine by decide), (show (3 : Nat) ≤ sizeLine by decide), hQ gs _ nok ⟨?_, fun x hx => ?_⟩⟩
        · obtain ⟨a, _, rfl⟩ := List.mem_map.mp hx
          obtain ⟨b, _, rfl⟩ := List.mem_map.mp hy
          rfl
        · obtain ⟨a, _, rfl⟩ := List.mem_map.mp hx
          exact ⟨_, _, rfl⟩
        · obtain ⟨a, ha, rfl⟩ := List.mem_map.mp hx
          have b := bk_tr1 (ht a ha)
          exact ⟨b.nod, Nat.le_trans b.2.1 (by decide)⟩
        · unfold srtD
          rw [List.length_mergeSort, List.length_map]
          omega
        · unfold srtD at hx
          obtain ⟨a, ha, rfl⟩ := List.mem_map.mp (List.mem_mergeSort.mp hx)
          exact ⟨a, rfl, ht a ha⟩
end
end L34
namespace L34
open PySem PySem.Spec PyProof.Rows L2 DL
def ownI (ins : List In) : List (Str × Int) := ins.map fun x => (x.1, ((x.2.1 : Nat) : Int))
def ownF : D → Option D
  | .tuple [_, a, b, _] => some (.tuple [a, b])
  | _ => none
theorem own_list : ∀ ins : List In, (ins.map inD').filterMap ownF = (ownI ins).map insD
  | [] => rfl
  | x :: r => by
    rw [List.map_cons, List.filterMap_cons]
    show insD (x.1, ((x.2.1 : Nat) : Int)) :: (r.map inD').filterMap ownF = _
    rw [own_list r]
    rfl
theorem own_names (ins : List In) : (ownI ins).map (·.1) = ins.map (·.1) := by
  unfold ownI
  rw [List.map_map]
  rfl
section
variable {P : Program} {w : World} {K : PySem.W.Frag} {mg : Str → Option Value} {base : Heap}
theorem ok_law {f : Addr} {fd : FuncData} (T : Tb K mg) {fD : Addr} {fdD : FuncData} (FD : FnG P w K mg base CX0 1 fD fdD ["_law_script"] (spDeck K)) (gD : mg "_law_deck" = some (.ref fD)) (kD : PySem.W.keepIn K (.ref fD) = true) (bD : Binds K fdD ["_law_script"] [])
    (c_law_draw : Cal P w K mg base "_law_draw" 1 ["_law_deck_here", "_law_sides"] 1 spDraw) (c_law_flat_drawn : Cal P w K mg base "_law_flat_drawn" 2 ["_law_deck_here"] 7 spFlat) (c_law_net_drawn : Cal P w K mg base "_law_net_drawn" 2 ["_law_deck_here", "_law_flat"] 2100 spNet)
    (c_law_drawn_beats : Cal P w K mg base "_law_drawn_beats" 2 ["_law_deck_here", "_law_flat", "_law_ticks", "_law_many"] 360 spSaid) (c_law_gate_beats : Cal P w K mg base "_law_gate_beats" 2 ["_law_gates", "_law_flat", "_law_rows"] 0 spBeats)
    (c_gate_waves : Cal P w K mg base "gate_waves" 2 ["net", "beats", "ins"] 0 spWaves) (c_gate_wavesN0_ins_beats_net : CalN P w K mg base "gate_waves" 2 0 ["ins", "beats", "net"] 0 (gP [2, 1, 0]) spWaves)
    (F : Fun K "law" "law" s_law f fd) : FnG P w K mg base CX0 4 f fd ["_law_script"] (spLaw K) := by
  have nd := sc_law.nd
  refine Fun.okG (k := 3) F sc_law (fun vs H Q E h => by obtain ⟨a, ns, rfl, _⟩ := h; rfl) (fun cdv A fs s H vs Q E hr h => ?_)
  obtain ⟨a, ns, rfl, hS, hl, hb, hQ⟩ := h
  have hu := hr.rm.units
  have hgd := hr.gd
  refine ⟨_, PSs.nox (pss_cons (ps_set (i := 1) nd rfl (.inl rfl) (pe_callG FD (hr.mono (by decide)) (by rfl) gD kD bD .nil pass0 (pa_cons (pv 0) pa_nil))) ((gss_cons (gs_forC 8000 PassesOwn.never rfl (gi_range1 (by rfl) T.n_range (ga_cons ge_int ga_nil)) (gg_name (i := 2) (vs := [2]) nd rfl (.inl rfl) (by decide)) (gss_cons (gs_set (i := 3) nd rfl (.inl rfl) (ge_ix od_ix (ge_lst (ga_cons (ge_cal c_law_draw (hr.mono (by first | decide | omega)) (by rfl) (ga_hd 1 (ga_cons ge_int ga_nil))) (ga_cons ge_int ga_nil))) (ge_callTy cd_int (by rfl) T.n_int (by decide +kernel) (ga_cons (ge_cmp (od_eq hu) (ge_cal c_law_draw (hr.mono (by first | decide | omega)) (by rfl) (ga_hd 1 (ga_cons ge_int ga_nil))) ge_int (nomark _)) ga_nil)) (fun _ _ => rfl)))
      (gss_cons (gs_set (i := 4) nd rfl (.inl rfl) (ge_cal c_law_flat_drawn (hr.mono (by first | decide | omega)) (by rfl) (ga_hd 1 ga_nil)))
      (gss_cons (gs_set (i := 5) nd rfl (.inl rfl) (ge_cal c_law_net_drawn (hr.mono (by first | decide | omega)) (by rfl) (ga_hd 1 (ga_cons (ge_var 4) ga_nil))))
      (gss_cons (gs_set (i := 6) nd rfl (.inl rfl) (ge_cal c_law_drawn_beats (hr.mono (by first | decide | omega)) (by rfl) (ga_hd 1 (ga_cons (ge_var 4) (ga_cons (ge_lst (ga_cons ge_str (ga_cons ge_str ga_nil))) (ga_cons (ge_var 3) ga_nil))))))
      (gss_cons (gs_set (i := 7) nd rfl (.inl rfl) (ge_callTy cd_tuple (by rfl) T.n_tuple (by decide +kernel) (ga_cons (ge_pub (gf_lc 0 rfl nd (gi_tup (ge_slice sd_sl (ge_var 4) go_none (go_some (ge_un ud_neg ge_int)))) (blkOk_by (own := [("_law_row", 12)]) (N := N_law) (sc := defScope s_law) (by decide +kernel)) (fun _ _ _ _ _ => (gg_name (i := 12) (vs := (List.map (·.2) ([("_law_row", 12)] : List (Str × Nat)))) nd rfl (.inl rfl) (by decide))) (fun _ _ _ _ _ => gts_nil) (fun _ _ _ _ _ => (ge_tup (ga_cons (ge_ix od_ix (ge_var 12) ge_int (fun _ _ => rfl)) (ga_cons (ge_ix od_ix (ge_var 12) ge_int (fun _ _ => rfl)) ga_nil)))))) ga_nil)))
      (gss_cons (gs_set (i := 8) nd rfl (.inr rfl) (ge_cal c_law_gate_beats (hr.mono (by first | decide | omega)) (by rfl) (ga_cons (ge_ix od_ix (ge_var 5) ge_int (fun _ _ => rfl)) (ga_cons (ge_var 4) (ga_cons (ge_var 6) ga_nil)))))
      (gss_cons (gs_set (i := 9) nd rfl (.inl rfl) (ge_callTy cd_tuple (by rfl) T.n_tuple (by decide +kernel) (ga_cons (ge_pub (gf_lc 0 rfl nd (gi_range1 (by rfl) T.n_range (ga_cons (ge_callB cd_lenX (by rfl) T.n_len PySem.boot_len (ga_cons (ge_ix od_ix (ge_var 5) ge_int (fun _ _ => rfl)) ga_nil)) ga_nil)) (blkOk_by (own := [("_law_at", 13)]) (N := N_law) (sc := defScope s_law) (by decide +kernel)) (fun _ _ _ _ _ => (gg_name (i := 13) (vs := (List.map (·.2) ([("_law_at", 13)] : List (Str × Nat)))) nd rfl (.inr rfl) (by decide))) (fun _ _ _ _ _ => gts_nil) (fun _ _ _ _ _ => (ge_callTy cd_tuple (by rfl) T.n_tuple (by decide +kernel) (ga_cons (ge_pub (gf_lc 0 rfl nd (gi_list (ge_var 8)) (blkOk_by (own := [("_law_row", 12)]) (N := N_law) (by kernel_rfl)) (fun _ _ _ _ _ => (gg_name (i := 12) (vs := (List.map (·.2) ([("_law_row", 12)] : List (Str × Nat)))) nd rfl (.inl rfl) (by decide))) (fun _ _ _ _ _ => gts_nil) (fun _ _ _ _ _ => (ge_ix od_ix (ge_var 12) (ge_var 13) (fun _ _ => rfl))))) ga_nil))))) ga_nil)))
      (gss_cons (gs_set (i := 10) nd rfl (.inl rfl) (ge_callB (cd_reprX hgd hu) (by rfl) T.n_repr boot_repr (ga_cons (ge_tup (ga_cons (ge_var 5) (ga_cons (ge_var 6) (ga_cons (ge_var 7) ga_nil)))) ga_nil)))
      (gss_one (gs_forC 0 PassesOwn.never rfl (gi_tup (ge_tup (ga_cons (ge_cal c_gate_waves (hr.mono (by first | decide | omega)) (by rfl) (ga_cons (ge_var 5) (ga_cons (ge_var 6) (ga_cons (ge_var 7) ga_nil)))) (ga_cons (ge_calN0 c_gate_wavesN0_ins_beats_net (hr.mono (by first | decide | omega)) (by rfl) (gk_cons (ge_var 7) (gk_cons (ge_var 6) (gk_cons (ge_var 5) gk_nil)))) ga_nil)))) (gg_name (i := 11) (vs := [11]) nd rfl (.inl rfl) (by decide)) (gss_one (gs_if (PW.pt (gt_or (gt_cmp (od_ne hu) (ge_callB (cd_reprX hgd hu) (by rfl) T.n_repr boot_repr (ga_cons (ge_var 11) ga_nil)) (ge_callB (cd_reprX hgd hu) (by rfl) T.n_repr boot_repr (ga_cons (ge_var 9) ga_nil)) (nomark _)) (pw_or1 (gt_cmp (od_ne hu) (ge_callB (cd_reprX hgd hu) (by rfl) T.n_repr boot_repr (ga_cons (ge_tup (ga_cons (ge_var 5) (ga_cons (ge_var 6) (ga_cons (ge_var 7) ga_nil)))) ga_nil)) (ge_var 10) (nomark _))))) (gss_one (gs_ret ge_bl)) gss_nil)))))))))))))
      (gss_one (gs_ret ge_bl))))), ?_⟩
  refine ⟨_, rfl, a, ns, rfl, hS, hl, hb, fun H' dk c sm n1 n2 inv => ?_⟩
  refine ⟨.of (some (dk, c)), 0, _, _, _, _, { nx := fun _ => False, rt := fun x _ => x = .bool true }, rel_deck (m := 12) inv (ct_big (by decide +kernel)), ?_, fun _ _ _ _ z => z.elim, fun x _ _ v G' H'' z _ _ d => ?_, fun _ _ _ _ z => z.elim, fun _ _ _ _ z => z.elim⟩
  · have big : (1000 : Nat) ≤ sizeLine := by decide
    refine ⟨by decide, by decide, by decide, ?_⟩
    refine sfor_by (fun i env => ∃ e2 e3 e4 e5 e6 e7 e8 e9 e10 e11, env = [.un, .hd, e2, e3, e4, e5, e6, e7, e8, e9, e10, e11, .un, .un]) ⟨_, _, _, _, _, _, _, _, _, _, rfl⟩ (fun i it env N hit hI hN => ?_) fun env hI => ?_
    · obtain ⟨e2, e3, e4, e5, e6, e7, e8, e9, e10, e11, rfl⟩ := hI
      refine ⟨13, rfl, by decide, by decide, fun d d0 d1 => ⟨(show (2 : Nat) ≤ sizeLine by decide), 8, rfl, by decide, by decide, fun e e0 e1 => ?_⟩⟩
      obtain ⟨many, hmany, em⟩ : ∃ many : Nat, many ≤ 60 ∧ atI [PyData.int d, .int 60] (if decide (e = 5) = true then 1 else 0) = some (.int (many : Int)) := by
        by_cases h : e = 5
        · exact ⟨60, by decide, by rw [decide_eq_true h]; rfl⟩
        · exact ⟨d.toNat, by omega, by rw [decide_eq_false h, Int.toNat_of_nonneg d0]; rfl⟩
      refine ⟨.int (many : Int), em, rfl, fun ins ok => ?_⟩
      refine ⟨ins, rfl, ok, fun gs tr nok trok => ?_⟩
      refine ⟨(show (2 : Nat) ≤ sizeLine by decide), ins, many, rfl, ok, hmany, fun rs hl hr => ?_⟩
      refine ⟨cost0 rfl, no_one rfl, ?_⟩
      rw [flat_cut]
      refine lcl_fun ownF _ _ (fun y hy k hk => ?_) (by rw [List.length_map, List.length_nil]; have := ok.few; omega) ?_
      · obtain ⟨a, _, rfl⟩ := List.mem_map.mp hy
        unfold lcStep gNm
        exact ⟨rfl, .str a.1, atI_nat (j := 1) rfl, .int (a.2.1 : Int), atI_nat (j := 2) rfl, (show (2 : Nat) ≤ sizeLine by decide), rfl, hk⟩
      rw [own_list, List.nil_append]
      have wf := wf_of ok nok (by omega) hr
      have wf2 : WfB gs ((ownI ins).map (·.1)) rs := by rw [own_names]; exact wf
      have bR := runB_bits nok.wf (ps := ins.map (·.1)) (rs := rs) fun r hm => (hr r hm).low
      have lR := runB_len gs (ins.map (·.1)) rs
      have wR := runB_rows gs (ins.map (·.1)) rs
      have hW : wavesD gs.length (runB gs ((ownI ins).map (·.1)) rs).2 = wavesD gs.length (runB gs (ins.map (·.1)) rs).2 := by rw [own_names]
      refine ⟨.tuple (gs.map Gt.d), atI_nat (j := 0) rfl, gs, ins, _, _, rs, rfl, wf, ?_⟩
      generalize (runB gs (ins.map (·.1)) rs).2 = R at bR lR wR hW
      have bN := bk_net ok nok trok
      have bS := bk_said hr ok.few (by omega)
      have bO := bk_own ok
      have bW := bk_waves bR nok.few (by omega)
      dsimp only
      refine seq_set (waves_expr (n := gs.length) (gsD := gs.map Gt.d) rfl rfl (fun Q q => ⟨_, atI_nat (j := 0) rfl, q⟩) (by rw [List.length_map]) rfl rfl rfl (by decide) (by decide) (by decide) wR (by omega) (by have := nok.few; omega) ?_)
      generalize wavesD gs.length R = WV at bW hW
      generalize rowsD R = RD
      have ok3 := (bk_tup (bk_cons (bN.up (d' := 4) (by decide)) (bk_cons (bS.up (d' := 4) (by decide)) (bk_cons (bO.up (d' := 4) (by decide)) (bk_nil (m := 0))))))
      refine seq_ev (ev_repr (ev_tup3 (ev_var rfl) (ev_var rfl) (ev_var rfl)) ok3 (by decide) (by decide)) ?_
      refine ⟨gs, _, _, ownI ins, rs, rfl, wf2, ?_⟩
      rw [hW]
      refine ⟨rfl, rfl, gs, _, _, ownI ins, rs, rfl, wf2, ?_⟩
      rw [hW]
      refine ⟨(show (2 : Nat) ≤ sizeLine by decide), cost0 rfl, ?_⟩
      have two : ∀ x ∈ ([WV, WV] : List D), x = WV := fun x hx => by
        rcases List.mem_cons.mp hx with rfl | hx
        · rfl
        · exact List.mem_singleton.mp hx
      refine sfor_by (fun i env => ∃ v, env = [.un, .hd, .d it, .d (.int (many : Int)), .d (flatOf ins), .d (netD gs (.tuple tr) (.tuple [.str "y"])), .d (.tuple (rs.map rowD)), .d (.tuple ((ownI ins).map insD)), .d (.list RD), .d WV, .d (.str (PyData.tuple [netD gs (.tuple tr) (.tuple [.str "y"]), .tuple (rs.map rowD), .tuple ((ownI ins).map insD)]).shown), v, .un, .un]) ⟨e11, rfl⟩ (fun j y env N2 hy hI hN2 => ?_) fun env hI => ?_
      · obtain ⟨v, rfl⟩ := hI
        have ey := two _ (List.mem_of_getElem? hy)
        subst ey
        refine sif_by (tv_or (tv_neS (ev_repr (ev_var rfl) bW (by decide) (by decide)) (ev_repr (ev_var rfl) bW (by decide) (by decide))) fun _ => tv_neS (ev_repr (ev_tup3 (ev_var rfl) (ev_var rfl) (ev_var rfl)) ok3 (by decide) (by decide)) (ev_var rfl)) (fun h => ?_) fun _ => hN2 _ ⟨_, rfl⟩
        rw [decide_eq_true rfl, decide_eq_true rfl] at h
        cases h
      · obtain ⟨v, rfl⟩ := hI
        exact hN _ ⟨_, _, _, _, _, _, _, _, _, _, rfl⟩
    · obtain ⟨e2, e3, e4, e5, e6, e7, e8, e9, e10, e11, rfl⟩ := hI
      rfl
  · subst z
    cases dp_bl d
    exact hQ _
end
end L34
namespace L34
open PySem PySem.Spec PyProof.Rows L2 DL
section
variable {P : Program} {w : World} {K : PySem.W.Frag} {mg : Str → Option Value} {base : Heap}
theorem ok_draw {f : Addr} {fd : FuncData} {k : Nat} (F : Fun K "_law_draw" "_law_draw" s_law_draw f fd) : FnG P w K mg base CX0 (k + 1) f fd ["_law_deck_here", "_law_sides"] (spD K 1 spDraw) := by
  refine Fun.okG F sc_law_draw (fun vs H Q E h => ?_) (fun cdv A fs s H vs Q E hr h => ?_)
  · obtain ⟨W, B, G, as, Pd, r, a, ⟨n, rfl, _⟩, _⟩ := h
    exact args_len a
  · obtain ⟨W, B, G, as, Pd, r, a, ⟨n, rfl, n0, n1, hP⟩, q⟩ := h
    have nd := sc_law_draw.nd
    have hu := hu_of hr.rm
    refine ⟨_, PSs.nox (pss_cons (ps_dput hu (pv 0) pe_str (pe_op op_add (pe_dget hu (pv 0) pe_str (fun _ _ => rfl)) pe_int) rfl)
      (pss_cons (ps_set (i := 2) nd rfl (.inl rfl) (pe_dget hu (pv 0) pe_str (fun _ _ => rfl)))
      (pss_cons (ps_set (i := 3) nd rfl (.inl rfl) (pe_op op_add (pe_dget hu (pv 0) pe_str (fun _ _ => rfl)) (pe_op op_mulX (pe_op op_mulX pe_int (pv 2)) (pv 2))))
      (pss_cons (ps_if (pt_cmpR (op_neD hr.rm.units) (pe_dget hu (pv 0) pe_str (fun _ _ => rfl)) (pe_lst pa_nil) (nomark _))
        (pss_cons (ps_set (i := 4) nd rfl (.inl rfl) (pe_bm0 PySem.F.plainAttrs_list PySem.F.slot_list_pop PySem.F.type_list_pop mt_pop (pe_dget hu (pv 0) pe_str (fun _ _ => rfl))))
        (pss_cons (ps_if (pt_cmpR op_ge (pv 4) (pe_op op_pow pe_int pe_int) (nomark _))
          (pss_cons (ps_expr (pe_bm PySem.F.plainAttrs_list PySem.F.slot_list_append PySem.F.type_list_append mt_append (pe_dget hu (pv 0) pe_str (fun _ _ => rfl)) (pa_cons (pe_op op_fdivW (pv 4) (pv 1)) pa_nil)))
          (pss_one (ps_ret (pe_op op_mod (pv 4) (pv 1))))) pss_nil)
        (pss_one (ps_set (i := 3) nd rfl (.inl rfl) (pe_op op_add (pv 3) (pe_op op_mulX pe_int (pv 4))))))) pss_nil)
      (pss_cons (ps_set (i := 3) nd rfl (.inl rfl) (pe_op op_mod (pe_op op_mulX (pv 3) (pe_op op_add (pv 3) (pe_op op_mulX pe_int (pv 2)))) pe_int))
      (pss_cons (ps_set (i := 3) nd rfl (.inl rfl) (pe_op op_mod (pe_op op_add (pe_op op_mulX (pv 3) (pv 3)) (pe_op op_mulX pe_int (pv 2))) pe_int))
      (pss_one (ps_ret (pe_op op_mod (pe_op op_fdiv (pv 3) pe_int) (pv 1)))))))))), ?_⟩
    have e : L2.start N_law_draw vs = vs.map some ++ [none, none, none] := by
      unfold L2.start
      rw [args_len a]
      rfl
    rw [e]
    exact draw_reads r a n0 n1 hP q
theorem ok_deck {f : Addr} {fd : FuncData} {k : Nat} (ml : mg "len" = none) (mL : mg "list" = none) (F : Fun K "_law_deck" "_law_deck" s_law_deck f fd) : FnG P w K mg base CX0 (k + 1) f fd ["_law_script"] (spDeck K) := by
  refine Fun.okG F sc_law_deck (fun vs H Q E h => ?_) (fun cdv A fs s H vs Q E hr h => ?_)
  · obtain ⟨a, ns, rfl, _⟩ := h
    rfl
  · have nd := sc_law_deck.nd
    have hu := hu_of hr.rm
    refine ⟨_, PSs.nox (pss_cons (ps_set (i := 1) nd rfl (.inl rfl) (pe_callTy call_list_of (by rfl) mL (by decide +kernel) (pa_cons (pe_slice sl_list (pv 0) po_none (po_some pe_int)) pa_nil)))
      (pss_cons (ps_set (i := 2) nd rfl (.inl rfl) (pe_op op_add pe_int (pe_callB call_len_seq (by rfl) ml PySem.boot_len (pa_cons (pv 1) pa_nil))))
      (pss_cons (ps_for PassesOwn.never rfl (pi_list (pv 1)) (pg_name (i := 3) nd rfl (.inl rfl)) (pss_one (ps_set (i := 2) nd rfl (.inl rfl) (pe_op op_mod (pe_op op_add (pe_op op_mulX (pv 2) pe_int) (pv 3)) pe_int))))
      (pss_one (ps_ret (pe_disp (pps_cons pe_str (pe_revL (pv 1)) (pps_cons pe_str (pv 2) (pps_cons pe_str pe_int pps_nil))) (by rfl) (by rfl) (fun z => by cases z) (by decide))))))), ?_⟩
    have e : L2.start N_law_deck vs = vs.map some ++ [none, none, none] := by
      obtain ⟨a, ns, rfl, _⟩ := h
      rfl
    rw [e]
    exact deck_reads h
end
end L34
namespace L34
open PySem PySem.Spec PyProof.Rows L2 DL
section
variable {P : Program} {w : World} {K : PySem.W.Frag} {h : Heap} {mg : Str → Option Value} {base : Heap}
theorem all_mk {l : PySem.W.OpenLaw}  (X : K.In h) (G : h.Ns mainGlobals mg) {fa : Addr} (hfa : mg "law" = some (.ref fa))
        (z0 : PySem.W.nsIn K mainGlobals "len" = some none)
    (z1 : PySem.W.nsIn K mainGlobals "int" = some none)
    (z2 : PySem.W.nsIn K mainGlobals "range" = some none)
    (z3 : PySem.W.nsIn K mainGlobals "list" = some none)
    (z4 : PySem.W.nsIn K mainGlobals "repr" = some none)
    (z5 : PySem.W.nsIn K mainGlobals "tuple" = some none)
    (z6 : PySem.W.nsIn K mainGlobals "enumerate" = some none)
    (z7 : PySem.W.nsIn K mainGlobals "zip" = some none)
    (z8 : PySem.W.nsIn K mainGlobals "dict" = some none)
    (z9 : PySem.W.nsIn K mainGlobals "sorted" = some none)
    (d1 : Df K "at_once" s_at_once)
    (d2 : Df K "gate_waves" s_gate_waves)
    (d3 : Df K "_law_deck" s_law_deck)
    (d4 : Df K "_law_draw" s_law_draw)
    (d5 : Df K "_law_drawn_beats" s_law_drawn_beats)
    (d6 : Df K "_law_stepped" s_law_stepped)
    (d7 : Df K "_law_gate_beats" s_law_gate_beats)
    (d8 : Df K "_law_flat_drawn" s_law_flat_drawn)
    (d9 : Df K "_law_net_drawn" s_law_net_drawn)
    (d10 : Df K "law" s_law) :
    ∃ fd : FuncData, (∀ (s : Shared) (v : Value), BindsTo s fd ⟨[v], []⟩ [("_law_script", v)]) ∧ ∀ base : Heap, K.In base → base.Ns mainGlobals mg → FnG l.prog w K mg base CX0 4 fa fd ["_law_script"] (spLaw K) := by
  obtain ⟨fl, fdl, al, Fl⟩ := d10.ex
  have e := hfa.symm.trans (PySem.W.mg_of X G al)
  cases e
  have n := fun {x : Str} (z : PySem.W.nsIn K mainGlobals x = some none) => PySem.W.mg_none_of X G z
  have T : Tb K mg := ⟨n z0, n z1, n z2, n z3, n z4, n z5, n z6, n z7, n z8, n z9⟩
  refine ⟨fdl, fun s v => ?_, fun base _ _ => ?_⟩
  · obtain ⟨oc, od, kV, doc, pm, an, cdv, ct, osl, rfl, lk, hcd⟩ := Fl.ex
    exact .of_eq rfl
  · obtain ⟨f2, fd2, a2, F2⟩ := d3.ex
    have c_law_draw : Cal l.prog w K mg base "_law_draw" 1 ["_law_deck_here", "_law_sides"] 1 spDraw := cal_mk X G d4 (fun _ _ _ _ _ _ us hl => match us, hl with | [_, _], _ => rfl) fun f fd F => ok_draw F
    have c_at_once : Cal l.prog w K mg base "at_once" 1 ["gates", "boxes", "worths"] 0 spOnce := cal_mk X G d1 (fun _ _ _ _ _ _ us hl => match us, hl with | [_, _, _], _ => rfl) fun f fd F => ok_at_once T F
    have c_gate_waves : Cal l.prog w K mg base "gate_waves" 2 ["net", "beats", "ins"] 0 spWaves := cal_mk X G d2 (fun _ _ _ _ _ _ us hl => match us, hl with | [_, _, _], _ => rfl) fun f fd F => ok_gate_waves T c_at_once F
    have c_gate_wavesN0_ins_beats_net : CalN l.prog w K mg base "gate_waves" 2 0 ["ins", "beats", "net"] 0 (gP [2, 1, 0]) spWaves := kn_p (ps := ["net", "beats", "ins"]) [2, 1, 0] X G d2 (fun _ _ _ _ _ _ us ws h1 h2 => match us, ws, h1, h2 with | [], [_, _, _], _, _ => rfl) fun f fd F => ok_gate_waves T c_at_once F
    have c_law_drawn_beats : Cal l.prog w K mg base "_law_drawn_beats" 2 ["_law_deck_here", "_law_flat", "_law_ticks", "_law_many"] 360 spSaid := cal_mk X G d5 (fun _ _ _ _ _ _ us hl => match us, hl with | [_, _, _, _], _ => rfl) fun f fd F => ok_drawn_beats T c_law_draw F
    have c_law_stepped : Cal l.prog w K mg base "_law_stepped" 1 ["_law_gates", "_law_boxes", "_law_known"] 0 spOnce := cal_mk X G d6 (fun _ _ _ _ _ _ us hl => match us, hl with | [_, _, _], _ => rfl) fun f fd F => ok_stepped T F
    have c_law_gate_beats : Cal l.prog w K mg base "_law_gate_beats" 2 ["_law_gates", "_law_flat", "_law_rows"] 0 spBeats := cal_mk X G d7 (fun _ _ _ _ _ _ us hl => match us, hl with | [_, _, _], _ => rfl) fun f fd F => ok_gate_beats T c_law_stepped F
    have c_law_flat_drawn : Cal l.prog w K mg base "_law_flat_drawn" 2 ["_law_deck_here"] 7 spFlat := cal_mk X G d8 (fun _ _ _ _ _ _ us hl => match us, hl with | [_], _ => rfl) fun f fd F => ok_flat_drawn T c_law_draw F
    have c_law_net_drawn : Cal l.prog w K mg base "_law_net_drawn" 2 ["_law_deck_here", "_law_flat"] 2100 spNet := cal_mk X G d9 (fun _ _ _ _ _ _ us hl => match us, hl with | [_, _], _ => rfl) fun f fd F => ok_net_drawn T c_law_draw F
    exact ok_law T (ok_deck T.n_len T.n_list F2) (PySem.W.mg_of X G a2) F2.kp (F2.binds fun _ _ _ _ _ _ us hl => match us, hl with | [_], _ => rfl) c_law_draw c_law_flat_drawn c_law_net_drawn c_law_drawn_beats c_law_gate_beats c_gate_waves c_gate_wavesN0_ins_beats_net Fl
end
end L34
open PySem PySem.W PyProof.Rows
set_option maxHeartbeats 0 in
theorem PySem.Challenge.cw_wiretongue_k34_gates_beat_by_beat_holds : PySem.Challenge.rw_wiretongue_k34_gates_beat_by_beat.Holds := by
  w_on; o_law; k_head; (case hw => w_witness2)
  k_fill
  refine DL.walkG (l := PySem.Challenge.rw_wiretongue_k34_gates_beat_by_beat) (n := 63) (k := 4) (x := "_law_script") (sp := DL.spLaw) rfl (by decide) rfl ⟨⟨rfl, by decide, by decide⟩, rfl⟩ (fun w h Y => PySem.W.kIn_of Y) ?F (fun K H a ns hl hb _ hS => ⟨a, ns, rfl, hS, hl, hb, fun _ => rfl⟩)
  case F =>
    intro w mg fa h KX G hmg
    refine' L34.all_mk KX G hmg ?z0 ?z1 ?z2 ?z3 ?z4 ?z5 ?z6 ?z7 ?z8 ?z9 (DL.df_mk ?a1 ?l1 ?c1 ?k1) (DL.df_mk ?a2 ?l2 ?c2 ?k2) (DL.df_mk ?a3 ?l3 ?c3 ?k3) (DL.df_mk ?a4 ?l4 ?c4 ?k4) (DL.df_mk ?a5 ?l5 ?c5 ?k5) (DL.df_mk ?a6 ?l6 ?c6 ?k6) (DL.df_mk ?a7 ?l7 ?c7 ?k7) (DL.df_mk ?a8 ?l8 ?c8 ?k8) (DL.df_mk ?a9 ?l9 ?c9 ?k9) (DL.df_mk ?a10 ?l10 ?c10 ?k10)
    (case z0 => k_is)
    (case z1 => k_is)
    (case z2 => k_is)
    (case z3 => k_is)
    (case z4 => k_is)
    (case z5 => k_is)
    (case z6 => k_is)
    (case z7 => k_is)
    (case z8 => k_is)
    (case z9 => k_is)
    (case a1 => k_is); (case l1 => k_is); (case c1 => k_is); (case k1 => k_is)
    (case a2 => k_is); (case l2 => k_is); (case c2 => k_is); (case k2 => k_is)
    (case a3 => k_is); (case l3 => k_is); (case c3 => k_is); (case k3 => k_is)
    (case a4 => k_is); (case l4 => k_is); (case c4 => k_is); (case k4 => k_is)
    (case a5 => k_is); (case l5 => k_is); (case c5 => k_is); (case k5 => k_is)
    (case a6 => k_is); (case l6 => k_is); (case c6 => k_is); (case k6 => k_is)
    (case a7 => k_is); (case l7 => k_is); (case c7 => k_is); (case k7 => k_is)
    (case a8 => k_is); (case l8 => k_is); (case c8 => k_is); (case k8 => k_is)
    (case a9 => k_is); (case l9 => k_is); (case c9 => k_is); (case k9 => k_is)
    (case a10 => k_is); (case l10 => k_is); (case c10 => k_is); (case k10 => k_is)
