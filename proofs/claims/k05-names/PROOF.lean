import PyProof.Rows.All
import HandS.ForMost
import HandS.Wide
import HandS.TupAny
import HandS.TupMul
import HandS.Deep
import HandS.IsInst
import HandS.Zip
import HandS.SortInts
import HandS.More
import HandS.Conv
import HandS.Text
import HandS.Style
import HandS.Replace
import PySem.Challenge.RW_meantrace_k05_names
set_option Elab.async false
set_option autoImplicit false
set_option linter.all false
set_option maxRecDepth 100000
/-! Fx: a def's body read as a total function of plain data. D: data (PyData). F: the part of the heap that never changes any more (all data lies there); an object that may still change is OWNED by one slot; G: objects of callers, not touched. -/
namespace Fx
open PySem PySem.Spec PyProof.Rows L2
abbrev D := PyData
abbrev Kf := PySem.W.Frag
mutual
/-- v is the data d, all of it in F -/
def Rp (K : Kf) (F : Hp) : D → V → Prop
  | .none, v => v = .non
  | .bool b, v => v = .bl b
  | .int i, v => v = .int i
  | .str s, v => v = .str s
  | .list ds, v => ∃ a vs, v = .ref a ∧ F a = some (.lst vs) ∧ Rps K F ds vs
  | .tuple ds, v => ∃ a vs, v = .ref a ∧ SqT K F a vs ∧ Rps K F ds vs
  | .dict _, _ => False
def Rps (K : Kf) (F : Hp) : List D → List V → Prop
  | [], vs => vs = []
  | d :: ds, vs => ∃ v r, vs = v :: r ∧ Rp K F d v ∧ Rps K F ds r
end
section
variable {K : Kf} {F F' H H' : Hp}
theorem Same.seqT {a : Addr} {xs : List V} (e : Same F F') (h : SqT K F a xs) : SqT K F' a xs := by
  rcases h with (h | ⟨o, h⟩) | h
  · exact .inl (.inl (e _ _ h))
  · exact .inl (.inr ⟨o, e _ _ h⟩)
  · exact .inr h
mutual
theorem Rp.mono (e : Same F F') : ∀ (d : D) (v : V), Rp K F d v → Rp K F' d v
  | .none, _, h => h
  | .bool _, _, h => h
  | .int _, _, h => h
  | .str _, _, h => h
  | .list ds, _, h => by
    obtain ⟨a, vs, rfl, h1, h2⟩ := h
    exact ⟨a, vs, rfl, e _ _ h1, Rps.mono e ds vs h2⟩
  | .tuple ds, _, h => by
    obtain ⟨a, vs, rfl, h1, h2⟩ := h
    exact ⟨a, vs, rfl, Same.seqT e h1, Rps.mono e ds vs h2⟩
  | .dict _, _, h => h.elim
theorem Rps.mono (e : Same F F') : ∀ (ds : List D) (vs : List V), Rps K F ds vs → Rps K F' ds vs
  | [], _, h => h
  | d :: ds, _, h => by
    obtain ⟨v, r, rfl, h1, h2⟩ := h
    exact ⟨v, r, rfl, Rp.mono e d v h1, Rps.mono e ds r h2⟩
end
mutual
theorem Rp.dp : ∀ (d : D) (v : V), Rp K F d v → Dp K F v d
  | .none, _, h => by cases h; exact .non
  | .bool b, _, h => by cases h; exact .bl b
  | .int i, _, h => by cases h; exact .int i
  | .str s, _, h => by cases h; exact .str s
  | .list ds, _, h => by
    obtain ⟨a, vs, rfl, h1, h2⟩ := h
    exact .lst (SqL.of h1) (Rps.dp ds vs h2)
  | .tuple ds, _, h => by
    obtain ⟨a, vs, rfl, h1, h2⟩ := h
    exact .tup h1 (Rps.dp ds vs h2)
  | .dict _, _, h => h.elim
theorem Rps.dp : ∀ (ds : List D) (vs : List V), Rps K F ds vs → DpAll K F vs ds
  | [], _, h => by cases h; exact .nil
  | d :: ds, _, h => by
    obtain ⟨v, r, rfl, h1, h2⟩ := h
    exact .cons (Rp.dp d v h1) (Rps.dp ds r h2)
end
theorem Rps.length : ∀ {ds : List D} {vs : List V}, Rps K F ds vs → vs.length = ds.length
  | [], _, h => by cases h; rfl
  | d :: ds, _, h => by
    obtain ⟨v, r, rfl, h1, h2⟩ := h
    show r.length + 1 = ds.length + 1
    rw [Rps.length h2]
theorem Rps.get : ∀ {ds : List D} {vs : List V} {i : Nat} {d : D}, Rps K F ds vs → ds[i]? = some d → ∃ v, vs[i]? = some v ∧ Rp K F d v
  | [], _, _, _, _, e => by simp at e
  | d :: ds, _, 0, _, h, e => by
    obtain ⟨v, r, rfl, h1, h2⟩ := h
    simp at e
    subst e
    exact ⟨v, rfl, h1⟩
  | d :: ds, _, i + 1, _, h, e => by
    obtain ⟨v, r, rfl, h1, h2⟩ := h
    obtain ⟨w, hw, q⟩ := Rps.get (i := i) h2 (by simpa using e)
    exact ⟨w, by simpa using hw, q⟩
theorem Rps.getV : ∀ {ds : List D} {vs : List V} {i : Nat} {v : V}, Rps K F ds vs → vs[i]? = some v → ∃ d, ds[i]? = some d ∧ Rp K F d v
  | [], _, _, _, h, e => by cases h; simp at e
  | d :: ds, _, 0, _, h, e => by
    obtain ⟨v, r, rfl, h1, h2⟩ := h
    simp at e
    subst e
    exact ⟨d, rfl, h1⟩
  | d :: ds, _, i + 1, _, h, e => by
    obtain ⟨v, r, rfl, h1, h2⟩ := h
    obtain ⟨w, hw, q⟩ := Rps.getV (i := i) h2 (by simpa using e)
    exact ⟨w, by simpa using hw, q⟩
theorem Rps.append : ∀ {ds es : List D} {vs ws : List V}, Rps K F ds vs → Rps K F es ws → Rps K F (ds ++ es) (vs ++ ws)
  | [], _, _, _, h, g => by cases h; exact g
  | d :: ds, _, _, _, h, g => by
    obtain ⟨v, r, rfl, h1, h2⟩ := h
    exact ⟨v, _, rfl, h1, Rps.append h2 g⟩
theorem Rps.one {d : D} {v : V} (r : Rp K F d v) : Rps K F [d] [v] := ⟨v, [], rfl, r, rfl⟩
theorem Rps.take : ∀ {ds : List D} {vs : List V} (n : Nat), Rps K F ds vs → Rps K F (ds.take n) (vs.take n)
  | [], _, n, h => by cases h; simp [Rps]
  | d :: ds, _, 0, h => by
    obtain ⟨v, r, rfl, h1, h2⟩ := h
    simp [Rps]
  | d :: ds, _, n + 1, h => by
    obtain ⟨v, r, rfl, h1, h2⟩ := h
    exact ⟨v, _, rfl, h1, Rps.take n h2⟩
theorem Rps.drop : ∀ {ds : List D} {vs : List V} (n : Nat), Rps K F ds vs → Rps K F (ds.drop n) (vs.drop n)
  | [], _, n, h => by cases h; simp [Rps]
  | d :: ds, _, 0, h => h
  | d :: ds, _, n + 1, h => by
    obtain ⟨v, r, rfl, h1, h2⟩ := h
    exact Rps.drop n h2
theorem Rps.set {d : D} {v : V} (hd : Rp K F d v) : ∀ {ds : List D} {vs : List V} (i : Nat), Rps K F ds vs → Rps K F (ds.set i d) (vs.set i v)
  | [], _, _, h => by cases h; simp [Rps]
  | d :: ds, _, 0, h => by
    obtain ⟨v, r, rfl, h1, h2⟩ := h
    exact ⟨_, r, rfl, hd, h2⟩
  | d :: ds, _, i + 1, h => by
    obtain ⟨v, r, rfl, h1, h2⟩ := h
    exact ⟨v, _, rfl, h1, Rps.set hd i h2⟩
theorem Rps.eraseIdx : ∀ {ds : List D} {vs : List V} (i : Nat), Rps K F ds vs → Rps K F (ds.eraseIdx i) (vs.eraseIdx i)
  | [], _, _, h => by cases h; simp [Rps]
  | d :: ds, _, 0, h => by
    obtain ⟨v, r, rfl, h1, h2⟩ := h
    exact h2
  | d :: ds, _, i + 1, h => by
    obtain ⟨v, r, rfl, h1, h2⟩ := h
    exact ⟨v, _, rfl, h1, Rps.eraseIdx i h2⟩
theorem Rps.reverse : ∀ {ds : List D} {vs : List V}, Rps K F ds vs → Rps K F ds.reverse vs.reverse
  | [], _, h => by cases h; simp [Rps]
  | d :: ds, _, h => by
    obtain ⟨v, r, rfl, h1, h2⟩ := h
    rw [List.reverse_cons, List.reverse_cons]
    exact Rps.append (Rps.reverse h2) ⟨v, [], rfl, h1, rfl⟩
theorem Rps.replicate {d : D} {v : V} (hd : Rp K F d v) : ∀ (n : Nat), Rps K F (List.replicate n d) (List.replicate n v)
  | 0 => rfl
  | n + 1 => ⟨v, _, rfl, hd, Rps.replicate hd n⟩
theorem Rps.flat {ds : List D} {vs : List V} (h : Rps K F ds vs) : ∀ (n : Nat), Rps K F (List.replicate n ds).flatten (List.replicate n vs).flatten
  | 0 => rfl
  | n + 1 => by
    rw [List.replicate_succ, List.replicate_succ, List.flatten_cons, List.flatten_cons]
    exact Rps.append h (Rps.flat h n)
theorem Rps.ints : ∀ {ns : List Int} {vs : List V}, Rps K F (ns.map PyData.int) vs ↔ vs = ns.map V.int
  | [], _ => Iff.rfl
  | n :: ns, vs => by
    constructor
    · rintro ⟨v, r, rfl, h1, h2⟩
      have h1 : v = .int n := h1
      subst h1
      rw [Rps.ints.mp h2]
      rfl
    · rintro rfl
      exact ⟨_, _, rfl, rfl, Rps.ints.mpr rfl⟩
theorem Rps.strs : ∀ {ns : List Str} {vs : List V}, Rps K F (ns.map PyData.str) vs ↔ vs = ns.map V.str
  | [], _ => Iff.rfl
  | n :: ns, vs => by
    constructor
    · rintro ⟨v, r, rfl, h1, h2⟩
      have h1 : v = .str n := h1
      subst h1
      rw [Rps.strs.mp h2]
      rfl
    · rintro rfl
      exact ⟨_, _, rfl, rfl, Rps.strs.mpr rfl⟩
theorem Rps.bools : ∀ {ns : List Bool} {vs : List V}, Rps K F (ns.map PyData.bool) vs ↔ vs = ns.map V.bl
  | [], _ => Iff.rfl
  | n :: ns, vs => by
    constructor
    · rintro ⟨v, r, rfl, h1, h2⟩
      have h1 : v = .bl n := h1
      subst h1
      rw [Rps.bools.mp h2]
      rfl
    · rintro rfl
      exact ⟨_, _, rfl, rfl, Rps.bools.mpr rfl⟩
end
theorem Same.new {H : Hp} {p : Addr} {o : HO} (h : H p = none) : Same H (upd H p o) := fun a u e => by
  rw [upd_ne (ne_of_none e h)]
  exact e
/-! ### objects that may change, slots -/
inductive Own where
  | lst (xs : List D)
  | dk (kvs : List (Key × D))
  | dt (kvs : List (List Key × D))
def OwnAt (K : Kf) (F H : Hp) (p : Addr) : Own → Prop
  | .lst xs => ∃ vs, H p = some (.lst vs) ∧ Rps K F xs vs
  | .dk kvs => ∃ ws : List (Key × V), H p = some (.dK ws) ∧ ws.map (·.1) = kvs.map (·.1) ∧ Rps K F (kvs.map (·.2)) (ws.map (·.2))
  | .dt kvs => ∃ ws : List (List Key × V), H p = some (.dT ws) ∧ ws.map (·.1) = kvs.map (·.1) ∧ Rps K F (kvs.map (·.2)) (ws.map (·.2))
/-- a slot: nothing known; data; an own object; the script (a list of ints, read only) -/
inductive Sl where
  | u
  | v (d : D)
  | o (b : Own)
  | s (ns : List Int)
abbrev Rho := List Sl
section
variable {K : Kf} {F F' G H H' : Hp} {σ σ' : L2.St} {ρ ρ' : Rho}
theorem OwnAt.some {p : Addr} : ∀ {b : Own}, OwnAt K F H p b → ∃ o, H p = some o
  | .lst _, ⟨_, h, _⟩ => ⟨_, h⟩
  | .dk _, ⟨_, h, _⟩ => ⟨_, h⟩
  | .dt _, ⟨_, h, _⟩ => ⟨_, h⟩
theorem OwnAt.mono {p : Addr} (e : Same F F') (h : H' p = H p) : ∀ {b : Own}, OwnAt K F H p b → OwnAt K F' H' p b
  | .lst _, ⟨vs, h1, h2⟩ => ⟨vs, h.trans h1, Rps.mono e _ _ h2⟩
  | .dk _, ⟨vs, h1, h2, h3⟩ => ⟨vs, h.trans h1, h2, Rps.mono e _ _ h3⟩
  | .dt _, ⟨vs, h1, h2, h3⟩ => ⟨vs, h.trans h1, h2, Rps.mono e _ _ h3⟩
theorem OwnAt.keep {p : Addr} (e : Same F F') (s : Same H H') {b : Own} (h : OwnAt K F H p b) : OwnAt K F' H' p b := by
  obtain ⟨o, ho⟩ := h.some
  exact h.mono e ((s _ _ ho).trans ho.symm)
structure Ok (K : Kf) (F G H : Hp) (σ : L2.St) (ρ : Rho) : Prop where
  sub : Same F H
  gsub : Same G H
  disj : ∀ (a : Addr) (o : HO), G a = some o → F a = none
  len : σ.length = ρ.length
  val : ∀ (i : Nat) (d : D), ρ[i]? = some (.v d) → ∃ v, σ[i]? = some (some v) ∧ Rp K F d v
  own : ∀ (i : Nat) (b : Own), ρ[i]? = some (.o b) → ∃ p, σ[i]? = some (some (.ref p)) ∧ F p = none ∧ G p = none ∧ OwnAt K F H p b
  scr : ∀ (i : Nat) (ns : List Int), ρ[i]? = some (.s ns) → ∃ a, σ[i]? = some (some (.ref a)) ∧ SqL K F a (ns.map V.int)
  apart : ∀ (i j : Nat) (b c : Own) (p : Addr), i ≠ j → ρ[i]? = some (.o b) → ρ[j]? = some (.o c) → σ[i]? = some (some (.ref p)) → σ[j]? ≠ some (some (.ref p))
/-- no slot owns p, and it is no data -/
structure New (F G : Hp) (σ : L2.St) (ρ : Rho) (p : Addr) : Prop where
  f : F p = none
  g : G p = none
  s : ∀ (i : Nat) (b : Own), ρ[i]? = some (.o b) → σ[i]? ≠ some (some (.ref p))
theorem Ok.ge (ok : Ok K F G H σ ρ) (e : Same F F') (s : Same F' H') (t : Same H H') (n : ∀ a o, F' a = some o → F a = some o ∨ H a = none) : Ok K F' G H' σ ρ where
  sub := s
  gsub := ok.gsub.trans t
  disj := fun a o h => by
    cases q : F' a with
    | none => rfl
    | some u =>
      rcases n a u q with z | z
      · rw [ok.disj a o h] at z; cases z
      · rw [ok.gsub a o h] at z; cases z
  len := ok.len
  val := fun i d h => let ⟨v, h1, h2⟩ := ok.val i d h; ⟨v, h1, Rp.mono e _ _ h2⟩
  own := fun i b h => by
    obtain ⟨p, h1, h2, h3, h4⟩ := ok.own i b h
    obtain ⟨o, ho⟩ := h4.some
    refine ⟨p, h1, ?_, h3, h4.keep e t⟩
    cases q : F' p with
    | none => rfl
    | some u =>
      rcases n p u q with z | z
      · rw [h2] at z; cases z
      · rw [ho] at z; cases z
  scr := fun i ns h => let ⟨a, h1, h2⟩ := ok.scr i ns h; ⟨a, h1, e.seq h2⟩
  apart := ok.apart
theorem Ok.heap (ok : Ok K F G H σ ρ) (t : Same H H') : Ok K F G H' σ ρ := ok.ge (Same.refl F) (ok.sub.trans t) t fun _ _ h => .inl h
/-- a new object, data at once -/
theorem Ok.alloc {p : Addr} {o : HO} (ok : Ok K F G H σ ρ) (hp : H p = none) : Same F (upd F p o) ∧ Ok K (upd F p o) G (upd H p o) σ ρ := by
  have hf : F p = none := Same.free ok.sub hp
  refine ⟨Same.new hf, ok.ge (Same.new hf) (fun a u h => ?_) (Same.new hp) fun a u h => ?_⟩
  · by_cases e : a = p
    · subst e
      rw [upd_same] at h ⊢
      exact h
    · rw [upd_ne e] at h ⊢
      exact ok.sub _ _ h
  · by_cases e : a = p
    · exact .inr (e ▸ hp)
    · rw [upd_ne e] at h
      exact .inl h
/-- a new object, owned by who made it -/
theorem Ok.fresh {p : Addr} {o : HO} (ok : Ok K F G H σ ρ) (hp : H p = none) : Ok K F G (upd H p o) σ ρ ∧ New F G σ ρ p := by
  refine ⟨ok.heap (Same.new hp), Same.free ok.sub hp, Same.free ok.gsub hp, fun i b h e => ?_⟩
  obtain ⟨q, h1, _, _, h4⟩ := ok.own i b h
  rw [e] at h1
  cases h1
  obtain ⟨u, hu⟩ := h4.some
  rw [hp] at hu
  cases hu
/-- what was owned becomes data -/
theorem Ok.freeze {p : Addr} {o : HO} (ok : Ok K F G H σ ρ) (ho : H p = some o) (n : New F G σ ρ p) : Same F (upd F p o) ∧ Ok K (upd F p o) G H σ ρ := by
  have e : Same F (upd F p o) := Same.new n.f
  refine ⟨e, ⟨fun a u h => ?_, ok.gsub, fun a u h => ?_, ok.len, fun i d h => let ⟨v, h1, h2⟩ := ok.val i d h; ⟨v, h1, Rp.mono e _ _ h2⟩, fun i b h => ?_, fun i ns h => let ⟨a, h1, h2⟩ := ok.scr i ns h; ⟨a, h1, e.seq h2⟩, ok.apart⟩⟩
  · by_cases q : a = p
    · subst q
      rw [upd_same] at h
      rw [ho]
      exact h
    · rw [upd_ne q] at h
      exact ok.sub _ _ h
  · rw [upd_ne (fun q => by rw [q, n.g] at h; cases h)]
    exact ok.disj _ _ h
  · obtain ⟨q, h1, h2, h3, h4⟩ := ok.own i b h
    refine ⟨q, h1, ?_, h3, h4.mono e rfl⟩
    rw [upd_ne (fun z => by rw [z] at h1; exact n.s i b h h1)]
    exact h2
theorem set_get? {α : Type} {l : List α} {i j : Nat} {x y : α} (h : (l.set i x)[j]? = some y) : (j = i ∧ i < l.length ∧ x = y) ∨ (j ≠ i ∧ l[j]? = some y) := by
  by_cases e : i = j
  · subst e
    by_cases hl : i < l.length
    · rw [List.getElem?_set_self hl] at h
      exact .inl ⟨rfl, hl, Option.some.inj h⟩
    · rw [List.getElem?_eq_none (by simpa using hl)] at h
      cases h
  · rw [List.getElem?_set_ne e] at h
    exact .inr ⟨fun z => e z.symm, h⟩
/-- slot i takes a value, of whatever kind -/
theorem Ok.put {i : Nat} {x : V} {r : Sl} (ok : Ok K F G H σ ρ) (hv : ∀ d, r = .v d → Rp K F d x) (ho : ∀ b, r = .o b → ∃ p, x = .ref p ∧ New F G σ ρ p ∧ OwnAt K F H p b) (hs : ∀ ns, r = .s ns → ∃ a, x = .ref a ∧ SqL K F a (ns.map V.int)) :
    Ok K F G H (σ.set i (some x)) (ρ.set i r) := by
  have hl := ok.len
  have gt : ∀ {j : Nat} {y : Option V}, j ≠ i → σ[j]? = some y → (σ.set i (some x))[j]? = some y := fun {j y} hj h => by
    rw [List.getElem?_set_ne (Ne.symm hj)]
    exact h
  have gs : ∀ {j : Nat}, j ≠ i → (σ.set i (some x))[j]? = σ[j]? := fun {j} hj => List.getElem?_set_ne (Ne.symm hj)
  refine ⟨ok.sub, ok.gsub, ok.disj, by rw [List.length_set, List.length_set]; exact hl, fun j d h => ?_, fun j b h => ?_, fun j ns h => ?_, fun j k b c p hjk h1 h2 h3 h4 => ?_⟩
  · rcases set_get? h with ⟨rfl, hi, e⟩ | ⟨hj, h⟩
    · exact ⟨x, List.getElem?_set_self (by rw [hl]; exact hi), hv d e⟩
    · obtain ⟨v, h1, h2⟩ := ok.val j d h
      exact ⟨v, gt hj h1, h2⟩
  · rcases set_get? h with ⟨rfl, hi, e⟩ | ⟨hj, h⟩
    · obtain ⟨p, rfl, n, hb⟩ := ho b e
      exact ⟨p, List.getElem?_set_self (by rw [hl]; exact hi), n.f, n.g, hb⟩
    · obtain ⟨p, h1, h2⟩ := ok.own j b h
      exact ⟨p, gt hj h1, h2⟩
  · rcases set_get? h with ⟨rfl, hi, e⟩ | ⟨hj, h⟩
    · obtain ⟨a, rfl, hb⟩ := hs ns e
      exact ⟨a, List.getElem?_set_self (by rw [hl]; exact hi), hb⟩
    · obtain ⟨p, h1, h2⟩ := ok.scr j ns h
      exact ⟨p, gt hj h1, h2⟩
  · rcases set_get? h1 with ⟨rfl, hi, e1⟩ | ⟨hj, g1⟩
    · rcases set_get? h2 with ⟨rfl, _, _⟩ | ⟨hk, g2⟩
      · exact hjk rfl
      · obtain ⟨q, rfl, n, _⟩ := ho b e1
        rw [List.getElem?_set_self (by rw [hl]; exact hi)] at h3
        cases h3
        rw [gs hk] at h4
        exact n.s k c g2 h4
    · rw [gs hj] at h3
      rcases set_get? h2 with ⟨rfl, hi, e2⟩ | ⟨hk, g2⟩
      · obtain ⟨q, rfl, n, _⟩ := ho c e2
        rw [List.getElem?_set_self (by rw [hl]; exact hi)] at h4
        cases h4
        exact n.s j b g1 h3
      · rw [gs hk] at h4
        exact ok.apart j k b c p hjk g1 g2 h3 h4
/-- a slot is forgotten -/
theorem Ok.drop (ok : Ok K F G H σ ρ) (i : Nat) : Ok K F G H σ (ρ.set i .u) := by
  refine ⟨ok.sub, ok.gsub, ok.disj, by rw [List.length_set]; exact ok.len, fun j d h => ?_, fun j b h => ?_, fun j ns h => ?_, fun j k b c p hjk h1 h2 h3 => ?_⟩
  · rcases set_get? h with ⟨rfl, hi, e⟩ | ⟨hj, h⟩
    · cases e
    · exact ok.val j d h
  · rcases set_get? h with ⟨rfl, hi, e⟩ | ⟨hj, h⟩
    · cases e
    · exact ok.own j b h
  · rcases set_get? h with ⟨rfl, hi, e⟩ | ⟨hj, h⟩
    · cases e
    · exact ok.scr j ns h
  · rcases set_get? h1 with ⟨_, _, e⟩ | ⟨hj, h1⟩
    · cases e
    · rcases set_get? h2 with ⟨_, _, e⟩ | ⟨hk, h2⟩
      · cases e
      · exact ok.apart j k b c p hjk h1 h2 h3
/-- an own slot as nobody's -/
theorem Ok.newOf {i : Nat} {b : Own} {p : Addr} (ok : Ok K F G H σ ρ) (h : ρ[i]? = some (.o b)) (hs : σ[i]? = some (some (.ref p))) : New F G σ (ρ.set i .u) p := by
  obtain ⟨q, h1, h2, h3, _⟩ := ok.own i b h
  rw [hs] at h1
  cases h1
  refine ⟨h2, h3, fun j c hj e => ?_⟩
  rcases set_get? hj with ⟨_, _, e⟩ | ⟨hj, h1⟩
  · cases e
  · exact ok.apart i j b c p (Ne.symm hj) h h1 hs e
/-- the own object of slot i changes -/
theorem Ok.turn {i : Nat} {b b' : Own} {p : Addr} {o : HO} (ok : Ok K F G H σ ρ) (h : ρ[i]? = some (.o b)) (hs : σ[i]? = some (some (.ref p))) (hb : OwnAt K F (upd H p o) p b') : Ok K F G (upd H p o) σ (ρ.set i (.o b')) := by
  obtain ⟨q, h1, h2, h3, h4⟩ := ok.own i b h
  rw [hs] at h1
  cases h1
  have k : ∀ {X : Hp}, X p = none → Same X H → Same X (upd H p o) := fun {X} hx e a u ha => by
    rw [upd_ne (ne_of_none ha hx)]
    exact e a u ha
  refine ⟨k h2 ok.sub, k h3 ok.gsub, ok.disj, by rw [List.length_set]; exact ok.len, fun j d h => ?_, fun j c hj => ?_, fun j ns h => ?_, fun j l c e r hjl h1 h2 h3 => ?_⟩
  · rcases set_get? h with ⟨rfl, hi, e⟩ | ⟨hj, h⟩
    · cases e
    · exact ok.val j d h
  · rcases set_get? hj with ⟨rfl, hi, e⟩ | ⟨hj, h5⟩
    · cases e
      exact ⟨p, hs, h2, h3, hb⟩
    · obtain ⟨r, g1, g2, g3, g4⟩ := ok.own j c h5
      refine ⟨r, g1, g2, g3, g4.mono (Same.refl F) (upd_ne fun z => ?_)⟩
      rw [z] at g1
      exact ok.apart i j b c p (Ne.symm hj) h h5 hs g1
  · rcases set_get? h with ⟨rfl, hi, e⟩ | ⟨hj, h⟩
    · cases e
    · exact ok.scr j ns h
  · have back : ∀ {n : Nat} {c : Own}, (ρ.set i (.o b'))[n]? = some (.o c) → ∃ c', ρ[n]? = some (.o c') := fun {n c} hn => by
      rcases set_get? hn with ⟨rfl, _, _⟩ | ⟨_, hn⟩
      · exact ⟨b, h⟩
      · exact ⟨c, hn⟩
    obtain ⟨c1, k1⟩ := back h1
    obtain ⟨c2, k2⟩ := back h2
    exact ok.apart j l c1 c2 r hjl k1 k2 h3
end
end Fx
/-! Fx: expressions. -/
namespace Fx
open PySem PySem.Spec PyProof.Rows L2
abbrev M (α : Type) := Rho → Option (α × Rho)
def bnd {α β : Type} (a : M α) (f : α → M β) : M β := fun ρ => match a ρ with
  | some (x, ρ1) => f x ρ1
  | none => none
def ret {α : Type} (x : α) : M α := fun ρ => some (x, ρ)
def lft {α : Type} (o : Option α) : M α := fun ρ => match o with
  | some x => some (x, ρ)
  | none => none
theorem bnd_some {α β : Type} {a : M α} {f : α → M β} {ρ : Rho} {r : β × Rho} (h : bnd a f ρ = some r) : ∃ x ρ1, a ρ = some (x, ρ1) ∧ f x ρ1 = some r := by
  unfold bnd at h
  split at h
  · rename_i x ρ1 e
    exact ⟨x, ρ1, e, h⟩
  · cases h
theorem bnd_eq {α β : Type} {a : M α} {f : α → M β} {ρ ρ1 : Rho} {x : α} (h : a ρ = some (x, ρ1)) : bnd a f ρ = f x ρ1 := by
  unfold bnd
  rw [h]
theorem lft_some {α : Type} {o : Option α} {ρ ρ' : Rho} {x : α} (h : lft o ρ = some (x, ρ')) : o = some x ∧ ρ' = ρ := by
  unfold lft at h
  split at h
  · cases h
    exact ⟨rfl, rfl⟩
  · cases h
/-- a value or the place of an own object -/
inductive Rf where
  | val (d : D)
  | slot (i : Nat)
section
variable (K : Kf)
def rdV (m : M D) : TE := fun σ H Q => ∃ F G ρ d ρ', Ok K F G H σ ρ ∧ m ρ = some (d, ρ') ∧ ∀ v F' H', Same F F' → Ok K F' G H' σ ρ' → Rp K F' d v → Q v H'
def rdN (m : M Own) : TE := fun σ H Q => ∃ F G ρ b ρ', Ok K F G H σ ρ ∧ m ρ = some (b, ρ') ∧ ∀ p F' H', Same F F' → Ok K F' G H' σ ρ' → New F' G σ ρ' p → OwnAt K F' H' p b → Q (.ref p) H'
def RfOk (F : Hp) (σ : L2.St) (v : V) : Rf → Prop
  | .val d => Rp K F d v
  | .slot i => σ[i]? = some (some v)
def rdB (m : M Rf) : TE := fun σ H Q => ∃ F G ρ r ρ', Ok K F G H σ ρ ∧ m ρ = some (r, ρ') ∧ ∀ v F' H', Same F F' → Ok K F' G H' σ ρ' → RfOk K F' σ v r → Q v H'
def rdT (m : M Bool) : TT := fun σ H Q => ∃ F G ρ b ρ', Ok K F G H σ ρ ∧ m ρ = some (b, ρ') ∧ ∀ F' H', Same F F' → Ok K F' G H' σ ρ' → Q b H'
def rdA (m : M (List D)) : TA := fun σ H Q => ∃ F G ρ ds ρ', Ok K F G H σ ρ ∧ m ρ = some (ds, ρ') ∧ ∀ vs F' H', Same F F' → Ok K F' G H' σ ρ' → Rps K F' ds vs → Q vs H'
def RfsOk (F : Hp) (σ : L2.St) : List Rf → List V → Prop
  | [], vs => vs = []
  | r :: rs, vs => ∃ v ws, vs = v :: ws ∧ RfOk K F σ v r ∧ RfsOk F σ rs ws
def rdC (m : M (List Rf)) : TA := fun σ H Q => ∃ F G ρ ds ρ', Ok K F G H σ ρ ∧ m ρ = some (ds, ρ') ∧ ∀ vs F' H', Same F F' → Ok K F' G H' σ ρ' → RfsOk K F' σ ds vs → Q vs H'
end
section
variable {X : Cx} {e : Expr} {es : List Expr}
theorem pe_imp {t t' : TE} (h : PE X e t) (i : ∀ σ H Q, t' σ H Q → t σ H Q) : PE X e t' := ⟨fun pins s σ H Q I q => h.run pins s σ H Q I (i σ H Q q)⟩
theorem pt_imp {t t' : TT} (h : PT X e t) (i : ∀ σ H Q, t' σ H Q → t σ H Q) : PT X e t' := ⟨fun pins s σ H Q I q => h.run pins s σ H Q I (i σ H Q q)⟩
theorem pw_imp {t t' : TT} (h : PW X e t) (i : ∀ σ H Q, t' σ H Q → t σ H Q) : PW X e t' := ⟨fun wh pins s σ H Q I q => h.run wh pins s σ H Q I (i σ H Q q)⟩
theorem pa_imp {t t' : TA} (h : PA X es t) (i : ∀ σ H Q, t' σ H Q → t σ H Q) : PA X es t' := ⟨fun p pins s σ H Q I q => h.run p pins s σ H Q I (i σ H Q q)⟩
end
/-! ### names and constants -/
def getM (i : Nat) : M D := fun ρ => match ρ[i]? with
  | some (.v d) => some (d, ρ)
  | some (.o (.lst xs)) => some (.list xs, ρ.set i (.v (.list xs)))
  | _ => none
def refM (i : Nat) : M Rf := fun ρ => match ρ[i]? with
  | some (.v d) => some (.val d, ρ)
  | some (.o _) => some (.slot i, ρ)
  | _ => none
def cM (d : D) : M D := fun ρ => some (d, ρ)
def valM (m : M D) : M Rf := bnd m fun d => ret (.val d)
theorem set_self {α : Type} : ∀ {l : List α} {i : Nat} {x : α}, l[i]? = some x → l.set i x = l
  | [], _, _, h => by simp at h
  | a :: l, 0, x, h => by simp at h; subst h; rfl
  | a :: l, i + 1, x, h => by
    rw [List.set_cons_succ, set_self (i := i) (by simpa using h)]
theorem set_set {α : Type} : ∀ {l : List α} {i : Nat} {x y : α}, (l.set i x).set i y = l.set i y
  | [], _, _, _ => rfl
  | a :: l, 0, x, y => rfl
  | a :: l, i + 1, x, y => by rw [List.set_cons_succ, List.set_cons_succ, List.set_cons_succ, set_set]
section
variable {X : Cx} {e : Expr}
theorem Ok.freezeAt {K : Kf} {F G H : Hp} {σ : L2.St} {ρ : Rho} {i : Nat} {xs : List D} (ok : Ok K F G H σ ρ) (h : ρ[i]? = some (.o (.lst xs))) : ∃ p F', σ[i]? = some (some (.ref p)) ∧ Same F F' ∧ Ok K F' G H σ (ρ.set i (.v (.list xs))) ∧ Rp K F' (.list xs) (.ref p) := by
  obtain ⟨p, h1, h2, h3, vs, h4, h5⟩ := ok.own i _ h
  have n := ok.newOf h h1
  obtain ⟨e1, ok1⟩ := (ok.drop i).freeze h4 n
  have r : Rp K (upd F p (.lst vs)) (.list xs) (.ref p) := ⟨p, vs, rfl, upd_same, Rps.mono e1 _ _ h5⟩
  refine ⟨p, upd F p (.lst vs), h1, e1, ?_, r⟩
  have ok2 := ok1.put (i := i) (x := .ref p) (r := .v (.list xs)) (fun d hd => by cases hd; exact r) (fun b hb => by cases hb) (fun ns hb => by cases hb)
  rw [set_set, set_self h1] at ok2
  exact ok2
theorem v_name (i : Nat) {x : Str} {pos : Pos} (hN : X.N[i]? = some x := by rfl) (hv : Vis X.env.scope x := by first | exact Or.inl rfl | exact Or.inr (Or.inl rfl) | exact Or.inr (Or.inr rfl)) (hd : (x == ("__debug__" : Str)) = false := by decide)
    (hcd : (x == ("__classdict__" : Str)) = false := by decide) : PE X (.Name x pos) (rdV X.K (getM i)) := by
  refine pe_imp (pe_var hN hv hd hcd) fun σ H Q h => ?_
  obtain ⟨F, G, ρ, d, ρ', ok, hm, q⟩ := h
  unfold getM at hm
  split at hm
  · rename_i d' e
    cases hm
    obtain ⟨v, h1, h2⟩ := ok.val i _ e
    exact ⟨v, h1, q v F H (Same.refl F) ok h2⟩
  · rename_i xs e
    cases hm
    obtain ⟨p, F', h1, h2, h3, h4⟩ := ok.freezeAt e
    exact ⟨_, h1, q _ F' H h2 h3 h4⟩
  · cases hm
theorem b_name (i : Nat) {x : Str} {pos : Pos} (hN : X.N[i]? = some x := by rfl) (hv : Vis X.env.scope x := by first | exact Or.inl rfl | exact Or.inr (Or.inl rfl) | exact Or.inr (Or.inr rfl)) (hd : (x == ("__debug__" : Str)) = false := by decide)
    (hcd : (x == ("__classdict__" : Str)) = false := by decide) : PE X (.Name x pos) (rdB X.K (refM i)) := by
  refine pe_imp (pe_var hN hv hd hcd) fun σ H Q h => ?_
  obtain ⟨F, G, ρ, d, ρ', ok, hm, q⟩ := h
  unfold refM at hm
  split at hm
  · rename_i d' e
    cases hm
    obtain ⟨v, h1, h2⟩ := ok.val i _ e
    exact ⟨v, h1, q v F H (Same.refl F) ok h2⟩
  · rename_i b e
    cases hm
    obtain ⟨p, h1, h2, h3, h4⟩ := ok.own i _ e
    exact ⟨_, h1, q _ F H (Same.refl F) ok h1⟩
  · cases hm
theorem v_const {d : D} {v : V} (h : PE X e (tC v)) (r : ∀ F, Rp X.K F d v) : PE X e (rdV X.K (cM d)) := by
  refine pe_imp h fun σ H Q h => ?_
  obtain ⟨F, G, ρ, d, ρ', ok, hm, q⟩ := h
  cases hm
  exact q v F H (Same.refl F) ok (r F)
theorem v_int {i : Int} {j : Nat} {pos : Pos} : PE X (.Constant (.int i) j pos) (rdV X.K (cM (.int i))) := v_const pe_int fun _ => rfl
theorem v_bl {b : Bool} {j : Nat} {pos : Pos} : PE X (.Constant (.bool b) j pos) (rdV X.K (cM (.bool b))) := v_const pe_bl fun _ => rfl
theorem v_non {j : Nat} {pos : Pos} : PE X (.Constant .none j pos) (rdV X.K (cM .none)) := v_const pe_non fun _ => rfl
theorem v_str {x : Str} {j : Nat} {pos : Pos} : PE X (.Constant (.str x) j pos) (rdV X.K (cM (.str x))) := v_const pe_str fun _ => rfl
/-- a constant of the module -/
theorem v_glob {x : Str} {d : D} {v : V} {u : Value} {pos : Pos} (hg : Gl X x) (hm : X.mg x = some u) (r : RelV v u) (hd : ∀ F, Rp X.K F d v) (hdb : (x == ("__debug__" : Str)) = false := by decide) : PE X (.Name x pos) (rdV X.K (cM d)) := v_const (pe_glob hg hm r hdb) hd
theorem b_val {m : M D} (h : PE X e (rdV X.K m)) : PE X e (rdB X.K (valM m)) := by
  refine pe_imp h fun σ H Q h => ?_
  obtain ⟨F, G, ρ, r, ρ', ok, hm, q⟩ := h
  obtain ⟨d, ρ1, h1, h2⟩ := bnd_some hm
  cases h2
  exact ⟨F, G, ρ, d, _, ok, h1, fun v F' H' e ok' r => q v F' H' e ok' r⟩
/-- an own list that is just made becomes data -/
def frzM (m : M Own) : M D := bnd m fun b => match b with
  | .lst xs => ret (.list xs)
  | _ => fun _ => none
theorem v_new {m : M Own} (h : PE X e (rdN X.K m)) : PE X e (rdV X.K (frzM m)) := by
  refine pe_imp h fun σ H Q h => ?_
  obtain ⟨F, G, ρ, r, ρ', ok, hm, q⟩ := h
  obtain ⟨b, ρ1, h1, h2⟩ := bnd_some hm
  refine ⟨F, G, ρ, b, ρ1, ok, h1, fun p F' H' e ok' n o => ?_⟩
  cases b with
  | lst xs =>
    cases h2
    obtain ⟨vs, h4, h5⟩ := o
    obtain ⟨e2, ok2⟩ := ok'.freeze h4 n
    exact q _ _ H' (e.trans e2) ok2 ⟨p, vs, rfl, upd_same, Rps.mono e2 _ _ h5⟩
  | dk _ => cases h2
  | dt _ => cases h2
/-! ### what is read of a value or an own list -/
/-- the content, at once -/
def look (ρ : Rho) : Rf → Option D
  | .val d => some d
  | .slot i => match ρ[i]? with
    | some (.o (.lst xs)) => some (.list xs)
    | _ => none
/-- v is d: data, or an own list of data -/
def Vw (K : Kf) (F H : Hp) (v : V) (d : D) : Prop := Rp K F d v ∨ ∃ p vs xs, v = .ref p ∧ d = .list xs ∧ H p = some (.lst vs) ∧ Rps K F xs vs
theorem look_ok {K : Kf} {F G H : Hp} {σ : L2.St} {ρ : Rho} {r : Rf} {v : V} {d : D} (ok : Ok K F G H σ ρ) (hr : RfOk K F σ v r) (h : look ρ r = some d) : Vw K F H v d := by
  cases r with
  | val e =>
    cases h
    exact .inl hr
  | slot i =>
    have hs : σ[i]? = some (some v) := hr
    have h : (match ρ[i]? with
      | some (.o (.lst xs)) => some (PyData.list xs)
      | _ => none) = some d := h
    split at h
    · rename_i xs e
      cases h
      obtain ⟨p, h1, h2, h3, vs, h4, h5⟩ := ok.own i _ e
      rw [hs] at h1
      cases h1
      exact .inr ⟨p, vs, xs, rfl, rfl, h4, h5⟩
    · cases h
theorem RfOk.mono {K : Kf} {F F' : Hp} {σ : L2.St} {r : Rf} {v : V} (e : Same F F') (h : RfOk K F σ v r) : RfOk K F' σ v r := by
  cases r with
  | val d => exact Rp.mono e _ _ h
  | slot i => exact h
theorem Vw.list {K : Kf} {F H : Hp} {v : V} {xs : List D} (h : Vw K F H v (.list xs)) (s : Same F H) : ∃ p vs, v = .ref p ∧ H p = some (.lst vs) ∧ Rps K F xs vs := by
  rcases h with h | ⟨p, vs, ys, rfl, e, h1, h2⟩
  · obtain ⟨a, vs, rfl, h1, h2⟩ := h
    exact ⟨a, vs, rfl, s _ _ h1, h2⟩
  · cases e
    exact ⟨p, vs, rfl, h1, h2⟩
theorem Vw.tuple {K : Kf} {F H : Hp} {v : V} {xs : List D} (h : Vw K F H v (.tuple xs)) (s : Same F H) : ∃ p vs, v = .ref p ∧ SqT K H p vs ∧ SqT K F p vs ∧ Rps K F xs vs := by
  rcases h with h | ⟨p, vs, ys, rfl, e, h1, h2⟩
  · obtain ⟨a, vs, rfl, h1, h2⟩ := h
    exact ⟨a, vs, rfl, Same.seqT s h1, h1, h2⟩
  · cases e
theorem Vw.flat {K : Kf} {F H : Hp} {v : V} {d : D} (h : Vw K F H v d) (hd : ∀ xs, d ≠ .list xs) : Rp K F d v := by
  rcases h with h | ⟨p, vs, ys, rfl, e, h1, h2⟩
  · exact h
  · exact (hd _ e).elim
theorem Vw.dp {K : Kf} {F H : Hp} {v : V} {d : D} (h : Vw K F H v d) (s : Same F H) : Dp K H v d := by
  rcases h with h | ⟨p, vs, ys, rfl, rfl, h1, h2⟩
  · exact Rp.dp _ _ (Rp.mono s _ _ h)
  · exact .lst (SqL.of h1) (Rps.dp _ _ (Rps.mono s _ _ h2))
/-! ### operators -/
/-- an operator's rule gives f, on what stands (the right operand, and the left) -/
def OpD (K : Kf) (f : D → D → Option D) (r : R2) : Prop :=
  ∀ (F G H : Hp) (σ : L2.St) (ρ : Rho) (x y d : D) (v w : V) (Q : VK), Ok K F G H σ ρ → Vw K F H v x → Vw K F H w y → f x y = some d → (∀ z F' H', Same F F' → Ok K F' G H' σ ρ → Rp K F' d z → Q z H') → r v w H Q
/-- an operator that makes a new list -/
def OpN (K : Kf) (f : D → D → Option Own) (r : R2) : Prop :=
  ∀ (F G H : Hp) (σ : L2.St) (ρ : Rho) (x y : D) (d : Own) (v w : V) (Q : VK), Ok K F G H σ ρ → Vw K F H v x → Vw K F H w y → f x y = some d → (∀ p F' H', Same F F' → Ok K F' G H' σ ρ → New F' G σ ρ p → OwnAt K F' H' p d → Q (.ref p) H') → r v w H Q
def binM {α : Type} (f : D → D → Option α) (a b : M Rf) : M α := bnd a fun r => bnd b fun s => fun ρ => match look ρ r, look ρ s with
  | some x, some y => (f x y).map fun z => (z, ρ)
  | _, _ => none
theorem binM_some {α : Type} {f : D → D → Option α} {a b : M Rf} {ρ ρ' : Rho} {z : α} (h : binM f a b ρ = some (z, ρ')) : ∃ r ρ1 s x y, a ρ = some (r, ρ1) ∧ b ρ1 = some (s, ρ') ∧ look ρ' r = some x ∧ look ρ' s = some y ∧ f x y = some z := by
  obtain ⟨r, ρ1, h1, h⟩ := bnd_some h
  obtain ⟨s, ρ2, h2, h⟩ := bnd_some h
  have h : (match look ρ2 r, look ρ2 s with
    | some x, some y => (f x y).map fun z => (z, ρ2)
    | _, _ => none) = some (z, ρ') := h
  split at h
  · rename_i x y e1 e2
    cases hf : f x y with
    | none => rw [hf] at h; cases h
    | some w =>
      rw [hf] at h
      cases h
      exact ⟨r, ρ1, s, x, y, h1, h2, e1, e2, hf⟩
  · cases h
theorem v_op {f : D → D → Option D} {r : R2} {op : Operator} {a b : Expr} {ma mb : M Rf} {pos : Pos} (ho : OpR X (binaryOp op) r) (hf : OpD X.K f r) (ha : PE X a (rdB X.K ma)) (hb : PE X b (rdB X.K mb)) : PE X (.BinOp a op b pos) (rdV X.K (binM f ma mb)) := by
  refine pe_imp (pe_op ho ha hb) fun σ H Q h => ?_
  obtain ⟨F, G, ρ, d, ρ', ok, hm, q⟩ := h
  obtain ⟨r, ρ1, s, x, y, h1, h2, e1, e2, e3⟩ := binM_some hm
  refine ⟨F, G, ρ, r, ρ1, ok, h1, fun v F1 H1 s1 ok1 r1 => ⟨F1, G, ρ1, s, ρ', ok1, h2, fun w F2 H2 s2 ok2 r2 => ?_⟩⟩
  exact hf F2 G H2 σ ρ' x y d v w Q ok2 (look_ok ok2 (r1.mono s2) e1) (look_ok ok2 r2 e2) e3 fun z F' H' s3 ok3 r3 => q z F' H' ((s1.trans s2).trans s3) ok3 r3
theorem n_op {f : D → D → Option Own} {r : R2} {op : Operator} {a b : Expr} {ma mb : M Rf} {pos : Pos} (ho : OpR X (binaryOp op) r) (hf : OpN X.K f r) (ha : PE X a (rdB X.K ma)) (hb : PE X b (rdB X.K mb)) : PE X (.BinOp a op b pos) (rdN X.K (binM f ma mb)) := by
  refine pe_imp (pe_op ho ha hb) fun σ H Q h => ?_
  obtain ⟨F, G, ρ, d, ρ', ok, hm, q⟩ := h
  obtain ⟨r, ρ1, s, x, y, h1, h2, e1, e2, e3⟩ := binM_some hm
  refine ⟨F, G, ρ, r, ρ1, ok, h1, fun v F1 H1 s1 ok1 r1 => ⟨F1, G, ρ1, s, ρ', ok1, h2, fun w F2 H2 s2 ok2 r2 => ?_⟩⟩
  exact hf F2 G H2 σ ρ' x y d v w Q ok2 (look_ok ok2 (r1.mono s2) e1) (look_ok ok2 r2 e2) e3 fun z F' H' s3 ok3 r3 => q z F' H' ((s1.trans s2).trans s3) ok3 r3
theorem v_cmp {f : D → D → Option D} {r : R2} {op : CmpOp} {a b : Expr} {ma mb : M Rf} {pos : Pos} (ho : OpR X (compareOp op) r) (hf : OpD X.K f r) (ha : PE X a (rdB X.K ma)) (hb : PE X b (rdB X.K mb)) (hm : behindInMarks op b = false) : PE X (.Compare a [op] [b] pos) (rdV X.K (binM f ma mb)) := by
  refine pe_imp (pe_cmpR ho ha hb hm) fun σ H Q h => ?_
  obtain ⟨F, G, ρ, d, ρ', ok, hm, q⟩ := h
  obtain ⟨r, ρ1, s, x, y, h1, h2, e1, e2, e3⟩ := binM_some hm
  refine ⟨F, G, ρ, r, ρ1, ok, h1, fun v F1 H1 s1 ok1 r1 => ⟨F1, G, ρ1, s, ρ', ok1, h2, fun w F2 H2 s2 ok2 r2 => ?_⟩⟩
  exact hf F2 G H2 σ ρ' x y d v w Q ok2 (look_ok ok2 (r1.mono s2) e1) (look_ok ok2 r2 e2) e3 fun z F' H' s3 ok3 r3 => q z F' H' ((s1.trans s2).trans s3) ok3 r3
def unM (f : D → Option D) (a : M D) : M D := bnd a fun x => lft (f x)
theorem v_un {f : D → Option D} {r : V → Hp → VK → Prop} {op : UnaryOp} {a : Expr} {ma : M D} {pos : Pos} (ho : UnR X (unaryOp op) r) (hf : ∀ (F H : Hp) (x d : D) (v : V) (Q : VK), Rp X.K F x v → f x = some d → (∀ z, Rp X.K F d z → Q z H) → r v H Q)
    (ha : PE X a (rdV X.K ma)) : PE X (.UnaryOp op a pos) (rdV X.K (unM f ma)) := by
  refine pe_imp (pe_un ho ha) fun σ H Q h => ?_
  obtain ⟨F, G, ρ, d, ρ', ok, hm, q⟩ := h
  obtain ⟨x, ρ1, h1, h2⟩ := bnd_some hm
  obtain ⟨h3, rfl⟩ := lft_some h2
  exact ⟨F, G, ρ, x, ρ', ok, h1, fun v F1 H1 s1 ok1 r1 => hf F1 H1 x d v Q r1 h3 fun z r => q z F1 H1 s1 ok1 r⟩
end
end Fx
/-! Fx: operators by values. -/
namespace Fx
open PySem PySem.Spec PyProof.Rows L2
theorem OpR.or {X : Cx} {f : Value → Value → Sem Value} {r r' : R2} (h : OpR X f r) (h' : OpR X f r') : OpR X f (fun x y H Q => r x y H Q ∨ r' x y H Q) := fun pins s σ H x y v u Q I rx ry q => by
  rcases q with q | q
  · exact h pins s σ H x y v u Q I rx ry q
  · exact h' pins s σ H x y v u Q I rx ry q
def fitS (n : Nat) : Bool := decide (n ≤ sizeLine)
def addD : D → D → Option D
  | .int i, .int j => some (.int (i + j))
  | .str a, .str b => if fitS (a.length + b.length) then some (.str (a ++ b)) else none
  | .tuple xs, .tuple ys => if fitS (xs.length + ys.length) then some (.tuple (xs ++ ys)) else none
  | .list xs, .list ys => if fitS (xs.length + ys.length) then some (.list (xs ++ ys)) else none
  | _, _ => none
def subD : D → D → Option D
  | .int i, .int j => some (.int (i - j))
  | _, _ => none
def mulFit (i j : Int) : Bool := decide (i.natAbs < 2 ^ 64) || decide (j.natAbs < 2 ^ 64) || decide (i.natAbs.log2 + j.natAbs.log2 < 1000000)
def mulD : D → D → Option D
  | .int i, .int j => if mulFit i j then some (.int (i * j)) else none
  | .list xs, .int k => if decide (-(2 ^ 63) ≤ k) && decide (k < 2 ^ 63) && fitS (xs.length * k.toNat) then some (.list (List.replicate k.toNat xs).flatten) else none
  | _, _ => none
def divFit (j : Int) : Bool := decide (0 < j) && decide (j.natAbs.log2 < 9000)
def fdivD : D → D → Option D
  | .int i, .int j => if divFit j then some (.int (i / j)) else none
  | _, _ => none
def modD : D → D → Option D
  | .int i, .int j => if decide (0 < j) then some (.int (i % j)) else none
  | _, _ => none
def powFit (i j : Int) : Bool := decide (0 ≤ j) && decide (j ≤ 1000000) && decide (i.natAbs < 2 ^ 64)
def powD : D → D → Option D
  | .int i, .int j => if powFit i j then some (.int (i ^ j.toNat)) else none
  | _, _ => none
def shlD : D → D → Option D
  | .int i, .int j => if powFit i j then some (.int (i * 2 ^ j.toNat)) else none
  | _, _ => none
def negD : D → Option D
  | .int i => some (.int (-i))
  | _ => none
def cmpD (p : Int → Int → Bool) : D → D → Option D
  | .int i, .int j => some (.bool (p i j))
  | _, _ => none
abbrev ltD := cmpD fun i j => decide (i < j)
abbrev leD := cmpD fun i j => decide (i ≤ j)
abbrev gtD := cmpD fun i j => decide (j < i)
abbrev geD := cmpD fun i j => decide (j ≤ i)
def eqD (x y : D) : Option D := if SeqAt.shaped x && SeqAt.shaped y then some (.bool (PyData.eqv x y)) else none
def neD (x y : D) : Option D := if SeqAt.shaped x && SeqAt.shaped y then some (.bool (!PyData.eqv x y)) else none
def catO : D → D → Option Own
  | .list xs, .list ys => if fitS (xs.length + ys.length) then some (.lst (xs ++ ys)) else none
  | _, _ => none
def repO : D → D → Option Own
  | .list xs, .int k => if decide (-(2 ^ 63) ≤ k) && decide (k < 2 ^ 63) && fitS (xs.length * k.toNat) then some (.lst (List.replicate k.toNat xs).flatten) else none
  | _, _ => none
section
variable {K : Kf}
theorem Vw.int {F H : Hp} {v : V} {i : Int} (h : Vw K F H v (.int i)) : v = .int i := h.flat (fun _ z => nomatch z)
theorem Vw.str {F H : Hp} {v : V} {i : Str} (h : Vw K F H v (.str i)) : v = .str i := h.flat (fun _ z => nomatch z)
theorem Vw.bl {F H : Hp} {v : V} {i : Bool} (h : Vw K F H v (.bool i)) : v = .bl i := h.flat (fun _ z => nomatch z)
theorem Vw.non {F H : Hp} {v : V} (h : Vw K F H v .none) : v = .non := h.flat (fun _ z => nomatch z)
theorem opd_add : OpD K addD (fun x y H Q => (rI0 fun i j => .int (i + j)) x y H Q ∨ (∃ i j, x = .str i ∧ y = .str j ∧ i.length + j.length ≤ sizeLine ∧ Q (.str (i ++ j)) H) ∨ rCatA K x y H Q ∨ rCat x y H Q) := by
  intro F G H σ ρ x y d v w Q ok hx hy hf q
  unfold addD at hf
  split at hf
  · cases hf
    have e1 := hx.int
    have e2 := hy.int
    subst e1 e2
    exact .inl ⟨_, _, rfl, rfl, q _ F H (Same.refl F) ok rfl⟩
  · split at hf
    · rename_i hz
      cases hf
      have e1 := hx.str
      have e2 := hy.str
      subst e1 e2
      exact .inr (.inl ⟨_, _, rfl, rfl, of_decide_eq_true hz, q _ F H (Same.refl F) ok rfl⟩)
    · cases hf
  · split at hf
    · rename_i xs ys hz
      cases hf
      obtain ⟨p, vs, rfl, h1, h1f, h2⟩ := hx.tuple ok.sub
      obtain ⟨p', vs', rfl, h1', h1f', h2'⟩ := hy.tuple ok.sub
      refine .inr (.inr (.inl ⟨p, p', vs, vs', rfl, rfl, h1, h1', by rw [h2.length, h2'.length]; exact of_decide_eq_true hz, fun e => ?_, fun _ e => ?_, fun _ _ r hr => ?_⟩))
      · subst e
        have e0 : xs = [] := List.length_eq_zero_iff.mp h2.length.symm
        subst e0
        exact q _ F H (Same.refl F) ok ⟨p', vs', rfl, h1f', h2'⟩
      · subst e
        have e0 : ys = [] := List.length_eq_zero_iff.mp h2'.length.symm
        subst e0
        rw [List.append_nil] at q
        exact q _ F H (Same.refl F) ok ⟨p, vs, rfl, h1f, h2⟩
      · obtain ⟨e, ok'⟩ := ok.alloc (o := .tup (vs ++ vs')) hr
        exact q _ _ _ e ok' ⟨r, _, rfl, SqT.of upd_same, Rps.mono e _ _ (h2.append h2')⟩
    · cases hf
  · split at hf
    · rename_i xs ys hz
      cases hf
      obtain ⟨p, vs, rfl, h1, h2⟩ := hx.list ok.sub
      obtain ⟨p', vs', rfl, h1', h2'⟩ := hy.list ok.sub
      refine .inr (.inr (.inr ⟨p, p', vs, vs', rfl, rfl, h1, h1', by rw [h2.length, h2'.length]; exact of_decide_eq_true hz, fun r hr => ?_⟩))
      obtain ⟨e, ok'⟩ := ok.alloc (o := .lst (vs ++ vs')) hr
      exact q _ _ _ e ok' ⟨r, _, rfl, upd_same, Rps.mono e _ _ (h2.append h2')⟩
    · cases hf
  · cases hf
/-- two ints give an int or a bool -/
theorem opd_ii {f : D → D → Option D} {C : Int → Int → Prop} {g : Int → Int → V} (h : ∀ x y d, f x y = some d → ∃ i j, x = .int i ∧ y = .int j ∧ C i j ∧ ∀ F, Rp K F d (g i j)) : OpD K f (rI C g) := by
  intro F G H σ ρ x y d v w Q ok hx hy hf q
  obtain ⟨i, j, rfl, rfl, hc, hr⟩ := h x y d hf
  have e1 := hx.int
  have e2 := hy.int
  subst e1 e2
  exact ⟨i, j, rfl, rfl, hc, q _ F H (Same.refl F) ok (hr F)⟩
theorem opd_ii0 {f : D → D → Option D} {g : Int → Int → V} (h : ∀ x y d, f x y = some d → ∃ i j, x = .int i ∧ y = .int j ∧ ∀ F, Rp K F d (g i j)) : OpD K f (rI0 g) := by
  intro F G H σ ρ x y d v w Q ok hx hy hf q
  obtain ⟨i, j, rfl, rfl, hr⟩ := h x y d hf
  have e1 := hx.int
  have e2 := hy.int
  subst e1 e2
  exact ⟨i, j, rfl, rfl, q _ F H (Same.refl F) ok (hr F)⟩
theorem opd_sub : OpD K subD (rI0 fun i j => .int (i - j)) := opd_ii0 fun x y d h => by
  unfold subD at h
  split at h
  · cases h; exact ⟨_, _, rfl, rfl, fun _ => rfl⟩
  · cases h
theorem opd_mul : OpD K mulD (fun x y H Q => (rI (fun i j => IntMulOk i j) fun i j => .int (i * j)) x y H Q ∨ rRep x y H Q) := by
  intro F G H σ ρ x y d v w Q ok hx hy hf q
  unfold mulD at hf
  split at hf
  · split at hf
    · rename_i hz
      cases hf
      have e1 := hx.int
      have e2 := hy.int
      subst e1 e2
      refine .inl ⟨_, _, rfl, rfl, ?_, q _ F H (Same.refl F) ok rfl⟩
      unfold mulFit at hz
      rw [Bool.or_eq_true, Bool.or_eq_true] at hz
      rcases hz with (hz | hz) | hz
      · exact CMul.ok (.inl (by have := of_decide_eq_true hz; omega))
      · exact CMul.ok (.inr (by have := of_decide_eq_true hz; omega))
      · have hz := of_decide_eq_true hz
        exact CMulW.ok hz
    · cases hf
  · split at hf
    · rename_i xs k hz
      cases hf
      rw [Bool.and_eq_true, Bool.and_eq_true] at hz
      obtain ⟨p, vs, rfl, h1, h2⟩ := hx.list ok.sub
      have e2 := hy.int
      subst e2
      refine .inr ⟨p, k, vs, rfl, rfl, h1, of_decide_eq_true hz.1.1, of_decide_eq_true hz.1.2, by rw [h2.length]; exact of_decide_eq_true hz.2, fun r hr => ?_⟩
      obtain ⟨e, ok'⟩ := ok.alloc (o := .lst (List.replicate k.toNat vs).flatten) hr
      exact q _ _ _ e ok' ⟨r, _, rfl, upd_same, Rps.mono e _ _ (h2.flat k.toNat)⟩
    · cases hf
  · cases hf
theorem opd_fdiv : OpD K fdivD (rI CDivW fun i j => .int (i / j)) := opd_ii fun x y d h => by
  unfold fdivD at h
  split at h
  · split at h
    · rename_i hz
      cases h
      unfold divFit at hz
      rw [Bool.and_eq_true] at hz
      exact ⟨_, _, rfl, rfl, ⟨of_decide_eq_true hz.1, of_decide_eq_true hz.2⟩, fun _ => rfl⟩
    · cases h
  · cases h
theorem opd_mod : OpD K modD (rI (fun _ j => 0 < j) fun i j => .int (i % j)) := opd_ii fun x y d h => by
  unfold modD at h
  split at h
  · split at h
    · rename_i hz
      cases h
      exact ⟨_, _, rfl, rfl, of_decide_eq_true hz, fun _ => rfl⟩
    · cases h
  · cases h
theorem powFit_ok {i j : Int} (h : powFit i j = true) : CPow i j := by
  unfold powFit at h
  rw [Bool.and_eq_true, Bool.and_eq_true] at h
  exact ⟨of_decide_eq_true h.1.1, of_decide_eq_true h.1.2, of_decide_eq_true h.2⟩
theorem opd_pow : OpD K powD (rI CPow fun i j => .int (i ^ j.toNat)) := opd_ii fun x y d h => by
  unfold powD at h
  split at h
  · split at h
    · rename_i hz
      cases h
      exact ⟨_, _, rfl, rfl, powFit_ok hz, fun _ => rfl⟩
    · cases h
  · cases h
theorem opd_shl : OpD K shlD (rI CPow fun i j => .int (i * 2 ^ j.toNat)) := opd_ii fun x y d h => by
  unfold shlD at h
  split at h
  · split at h
    · rename_i hz
      cases h
      exact ⟨_, _, rfl, rfl, powFit_ok hz, fun _ => rfl⟩
    · cases h
  · cases h
theorem opd_cmp {p : Int → Int → Bool} : OpD K (cmpD p) (rI0 fun i j => .bl (p i j)) := opd_ii0 fun x y d h => by
  unfold cmpD at h
  split at h
  · cases h; exact ⟨_, _, rfl, rfl, fun _ => rfl⟩
  · cases h
theorem opd_eq : OpD K eqD (rEqD K) := by
  intro F G H σ ρ x y d v w Q ok hx hy hf q
  unfold eqD at hf
  split at hf
  · rename_i hz
    cases hf
    rw [Bool.and_eq_true] at hz
    exact ⟨x, y, hx.dp ok.sub, hy.dp ok.sub, hz.1, hz.2, q _ F H (Same.refl F) ok rfl⟩
  · cases hf
theorem opd_ne : OpD K neD (rNeD K) := by
  intro F G H σ ρ x y d v w Q ok hx hy hf q
  unfold neD at hf
  split at hf
  · rename_i hz
    cases hf
    rw [Bool.and_eq_true] at hz
    exact ⟨x, y, hx.dp ok.sub, hy.dp ok.sub, hz.1, hz.2, q _ F H (Same.refl F) ok rfl⟩
  · cases hf
theorem opn_cat : OpN K catO rCat := by
  intro F G H σ ρ x y d v w Q ok hx hy hf q
  unfold catO at hf
  split at hf
  · split at hf
    · rename_i xs ys hz
      cases hf
      obtain ⟨p, vs, rfl, h1, h2⟩ := hx.list ok.sub
      obtain ⟨p', vs', rfl, h1', h2'⟩ := hy.list ok.sub
      refine ⟨p, p', vs, vs', rfl, rfl, h1, h1', by rw [h2.length, h2'.length]; exact of_decide_eq_true hz, fun r hr => ?_⟩
      obtain ⟨ok', n⟩ := ok.fresh (o := .lst (vs ++ vs')) hr
      exact q r F _ (Same.refl F) ok' n ⟨_, upd_same, h2.append h2'⟩
    · cases hf
  · cases hf
theorem opn_rep : OpN K repO rRep := by
  intro F G H σ ρ x y d v w Q ok hx hy hf q
  unfold repO at hf
  split at hf
  · split at hf
    · rename_i xs k hz
      cases hf
      rw [Bool.and_eq_true, Bool.and_eq_true] at hz
      obtain ⟨p, vs, rfl, h1, h2⟩ := hx.list ok.sub
      have e2 := hy.int
      subst e2
      refine ⟨p, k, vs, rfl, rfl, h1, of_decide_eq_true hz.1.1, of_decide_eq_true hz.1.2, by rw [h2.length]; exact of_decide_eq_true hz.2, fun r hr => ?_⟩
      obtain ⟨ok', n⟩ := ok.fresh (o := .lst (List.replicate k.toNat vs).flatten) hr
      exact q r F _ (Same.refl F) ok' n ⟨_, upd_same, h2.flat k.toNat⟩
    · cases hf
  · cases hf
end
def tstM (m : M D) : M Bool := bnd m fun d => match d with
  | .bool b => ret b
  | _ => fun _ => none
section
variable {X : Cx} {a b : Expr} {ma mb : M Rf} {pos : Pos}
theorem v_add (ha : PE X a (rdB X.K ma)) (hb : PE X b (rdB X.K mb)) : PE X (.BinOp a .Add b pos) (rdV X.K (binM addD ma mb)) := v_op (op_add.or (op_add_str.or (op_catA.or op_cat))) opd_add ha hb
theorem v_sub (ha : PE X a (rdB X.K ma)) (hb : PE X b (rdB X.K mb)) : PE X (.BinOp a .Sub b pos) (rdV X.K (binM subD ma mb)) := v_op op_sub opd_sub ha hb
theorem op_mulOk : OpR X (binaryOp .Mult) (rI (fun i j => IntMulOk i j) fun i j => .int (i * j)) := opI fun _ _ _ _ _ _ _ hc q => mul_int q hc
theorem v_mul (ha : PE X a (rdB X.K ma)) (hb : PE X b (rdB X.K mb)) : PE X (.BinOp a .Mult b pos) (rdV X.K (binM mulD ma mb)) := v_op (op_mulOk.or op_rep) opd_mul ha hb
theorem v_fdiv (ha : PE X a (rdB X.K ma)) (hb : PE X b (rdB X.K mb)) : PE X (.BinOp a .FloorDiv b pos) (rdV X.K (binM fdivD ma mb)) := v_op op_fdivW opd_fdiv ha hb
theorem v_mod (ha : PE X a (rdB X.K ma)) (hb : PE X b (rdB X.K mb)) : PE X (.BinOp a .Mod b pos) (rdV X.K (binM modD ma mb)) := v_op op_mod opd_mod ha hb
theorem v_pow (ha : PE X a (rdB X.K ma)) (hb : PE X b (rdB X.K mb)) : PE X (.BinOp a .Pow b pos) (rdV X.K (binM powD ma mb)) := v_op op_pow opd_pow ha hb
theorem v_shl (ha : PE X a (rdB X.K ma)) (hb : PE X b (rdB X.K mb)) : PE X (.BinOp a .LShift b pos) (rdV X.K (binM shlD ma mb)) := v_op op_shl opd_shl ha hb
theorem n_cat (ha : PE X a (rdB X.K ma)) (hb : PE X b (rdB X.K mb)) : PE X (.BinOp a .Add b pos) (rdN X.K (binM catO ma mb)) := n_op op_cat opn_cat ha hb
theorem n_rep (ha : PE X a (rdB X.K ma)) (hb : PE X b (rdB X.K mb)) : PE X (.BinOp a .Mult b pos) (rdN X.K (binM repO ma mb)) := n_op op_rep opn_rep ha hb
theorem v_neg {ma : M D} (ha : PE X a (rdV X.K ma)) : PE X (.UnaryOp .USub a pos) (rdV X.K (unM negD ma)) := v_un un_neg (fun F H x d v Q hx hf q => by
  unfold negD at hf
  split at hf
  · cases hf
    cases (show v = _ from hx)
    exact ⟨_, rfl, q _ rfl⟩
  · cases hf) ha
theorem v_lt (ha : PE X a (rdB X.K ma)) (hb : PE X b (rdB X.K mb)) : PE X (.Compare a [.Lt] [b] pos) (rdV X.K (binM ltD ma mb)) := v_cmp op_lt opd_cmp ha hb (nomark _)
theorem v_le (ha : PE X a (rdB X.K ma)) (hb : PE X b (rdB X.K mb)) : PE X (.Compare a [.LtE] [b] pos) (rdV X.K (binM leD ma mb)) := v_cmp op_le opd_cmp ha hb (nomark _)
theorem v_gt (ha : PE X a (rdB X.K ma)) (hb : PE X b (rdB X.K mb)) : PE X (.Compare a [.Gt] [b] pos) (rdV X.K (binM gtD ma mb)) := v_cmp op_gt opd_cmp ha hb (nomark _)
theorem v_ge (ha : PE X a (rdB X.K ma)) (hb : PE X b (rdB X.K mb)) : PE X (.Compare a [.GtE] [b] pos) (rdV X.K (binM geD ma mb)) := v_cmp op_ge opd_cmp ha hb (nomark _)
theorem v_eq (hu : X.A.units + 64 < cLine) (ha : PE X a (rdB X.K ma)) (hb : PE X b (rdB X.K mb)) : PE X (.Compare a [.Eq] [b] pos) (rdV X.K (binM eqD ma mb)) := v_cmp (op_eqD hu) opd_eq ha hb (nomark _)
theorem v_ne (hu : X.A.units + 64 < cLine) (ha : PE X a (rdB X.K ma)) (hb : PE X b (rdB X.K mb)) : PE X (.Compare a [.NotEq] [b] pos) (rdV X.K (binM neD ma mb)) := v_cmp (op_neD hu) opd_ne ha hb (nomark _)
/-! comparisons as tests -/
theorem t_cmp {f : D → D → Option D} {r : R2} {op : CmpOp} (ho : OpR X (compareOp op) r) (hf : OpD X.K f r) (ha : PE X a (rdB X.K ma)) (hb : PE X b (rdB X.K mb)) (hm : behindInMarks op b = false) : PT X (.Compare a [op] [b] pos) (rdT X.K (tstM (binM f ma mb))) := by
  refine pt_imp (pt_cmpR ho ha hb hm) fun σ H Q h => ?_
  obtain ⟨F, G, ρ, d, ρ', ok, hm, q⟩ := h
  obtain ⟨c, ρ2, hm1, hm2⟩ := bnd_some hm
  cases c with
  | bool c =>
    cases hm2
    obtain ⟨r, ρ1, s, x, y, h1, h2, e1, e2, e3⟩ := binM_some hm1
    refine ⟨F, G, ρ, r, ρ1, ok, h1, fun v F1 H1 s1 ok1 r1 => ⟨F1, G, ρ1, s, _, ok1, h2, fun w F2 H2 s2 ok2 r2 => ?_⟩⟩
    exact hf F2 G H2 σ _ x y _ v w _ ok2 (look_ok ok2 (r1.mono s2) e1) (look_ok ok2 r2 e2) e3 fun z F' H' s3 ok3 r3 => ⟨_, r3, q F' H' ((s1.trans s2).trans s3) ok3⟩
  | _ => cases hm2
theorem t_lt (ha : PE X a (rdB X.K ma)) (hb : PE X b (rdB X.K mb)) : PT X (.Compare a [.Lt] [b] pos) (rdT X.K (tstM (binM ltD ma mb))) := t_cmp op_lt opd_cmp ha hb (nomark _)
theorem t_le (ha : PE X a (rdB X.K ma)) (hb : PE X b (rdB X.K mb)) : PT X (.Compare a [.LtE] [b] pos) (rdT X.K (tstM (binM leD ma mb))) := t_cmp op_le opd_cmp ha hb (nomark _)
theorem t_gt (ha : PE X a (rdB X.K ma)) (hb : PE X b (rdB X.K mb)) : PT X (.Compare a [.Gt] [b] pos) (rdT X.K (tstM (binM gtD ma mb))) := t_cmp op_gt opd_cmp ha hb (nomark _)
theorem t_ge (ha : PE X a (rdB X.K ma)) (hb : PE X b (rdB X.K mb)) : PT X (.Compare a [.GtE] [b] pos) (rdT X.K (tstM (binM geD ma mb))) := t_cmp op_ge opd_cmp ha hb (nomark _)
theorem t_eq (hu : X.A.units + 64 < cLine) (ha : PE X a (rdB X.K ma)) (hb : PE X b (rdB X.K mb)) : PT X (.Compare a [.Eq] [b] pos) (rdT X.K (tstM (binM eqD ma mb))) := t_cmp (op_eqD hu) opd_eq ha hb (nomark _)
theorem t_ne (hu : X.A.units + 64 < cLine) (ha : PE X a (rdB X.K ma)) (hb : PE X b (rdB X.K mb)) : PT X (.Compare a [.NotEq] [b] pos) (rdT X.K (tstM (binM neD ma mb))) := t_cmp (op_neD hu) opd_ne ha hb (nomark _)
end
end Fx
/-! Fx: tests, and or not, subscripts, slices, displays, built-in functions. -/
namespace Fx
open PySem PySem.Spec PyProof.Rows L2
/-! ### tests -/
def andM (a b : M Bool) : M Bool := bnd a fun c => if c then b else ret false
def orM (a b : M Bool) : M Bool := bnd a fun c => if c then ret true else b
def notM (a : M Bool) : M Bool := bnd a fun c => ret (!c)
def iteM {α : Type} (c : M Bool) (a b : M α) : M α := bnd c fun x => if x then a else b
def blM (a : M Bool) : M D := bnd a fun c => ret (.bool c)
/-- truth of a value -/
def truD : D → Option Bool
  | .none => some false
  | .bool b => some b
  | .int i => some (i != 0)
  | .str s => if fitS s.length then some ((s.length : Int) != 0) else none
  | .list xs => some (!xs.isEmpty)
  | .tuple xs => some (!xs.isEmpty)
  | _ => none
def truM (m : M Rf) : M Bool := bnd m fun r => fun ρ => match look ρ r with
  | some d => (truD d).map fun b => (b, ρ)
  | none => none
section
variable {X : Cx} {a b c e : Expr} {rest : List Expr} {pos : Pos}
theorem tst_some {m : M D} {ρ ρ' : Rho} {b : Bool} (h : tstM m ρ = some (b, ρ')) : m ρ = some (.bool b, ρ') := by
  obtain ⟨d, ρ1, h1, h2⟩ := bnd_some h
  cases d with
  | bool b => cases h2; exact h1
  | _ => cases h2
theorem t_val {m : M D} (h : PE X e (rdV X.K m)) (he : ∀ whole, isTrue e X.env whole = (do let v ← whole; standAt e.pos; holding [v] (truthy v)) := by intro _; rfl) : PT X e (rdT X.K (tstM m)) := by
  refine pt_imp (pt_val h he) fun σ H Q h => ?_
  obtain ⟨F, G, ρ, b, ρ', ok, hm, q⟩ := h
  refine ⟨F, G, ρ, .bool b, ρ', ok, tst_some hm, fun v F' H' s ok' r => ⟨b, r, q F' H' s ok'⟩⟩
/-- a comparison, as a test -/
theorem isEmpty_rps {K : Kf} {F : Hp} {xs : List D} {vs : List V} (h : Rps K F xs vs) : vs.isEmpty = xs.isEmpty := by
  cases xs with
  | nil => cases h; rfl
  | cons d ds => obtain ⟨v, r, rfl, _⟩ := h; rfl
theorem t_tru {m : M Rf} (h : PE X e (rdB X.K m)) (he : ∀ whole, isTrue e X.env whole = (do let v ← whole; standAt e.pos; holding [v] (truthy v)) := by intro _; rfl) : PT X e (rdT X.K (truM m)) := by
  refine pt_imp (pt_truth h he) fun σ H Q h => ?_
  obtain ⟨F, G, ρ, b, ρ', ok, hm, q⟩ := h
  obtain ⟨r, ρ1, h1, h2⟩ := bnd_some hm
  have h2 : (match look ρ1 r with
    | some d => (truD d).map fun b => (b, ρ1)
    | none => none) = some (b, ρ') := h2
  split at h2
  · rename_i d hd
    cases ht : truD d with
    | none => rw [ht] at h2; cases h2
    | some k =>
      rw [ht] at h2
      cases h2
      refine ⟨F, G, ρ, r, _, ok, h1, fun v F' H' s ok' hr => ⟨b, ?_, q F' H' s ok'⟩⟩
      have w := look_ok ok' hr hd
      unfold truD at ht
      split at ht
      · cases ht; have e := w.non; subst e; rfl
      · cases ht; have e := w.bl; subst e; rfl
      · cases ht; have e := w.int; subst e; rfl
      · split at ht
        · rename_i hz
          cases ht
          have e := w.str
          subst e
          exact ⟨of_decide_eq_true hz, rfl⟩
        · cases ht
      · cases ht
        obtain ⟨p, vs, rfl, h4, h5⟩ := w.list ok'.sub
        exact .inl ⟨vs, SqL.of h4, by rw [isEmpty_rps h5]⟩
      · cases ht
        obtain ⟨p, vs, rfl, h4, _, h5⟩ := w.tuple ok'.sub
        exact .inr (.inl ⟨vs, h4, by rw [isEmpty_rps h5]⟩)
      · cases ht
  · cases h2
theorem w_and1 {m : M Bool} (h : PT X a (rdT X.K m)) : PW X (.BoolOp .And [a] pos) (rdT X.K m) := pw_and1 h
theorem w_or1 {m : M Bool} (h : PT X a (rdT X.K m)) : PW X (.BoolOp .Or [a] pos) (rdT X.K m) := pw_or1 h
theorem w_and {m n : M Bool} (ha : PT X a (rdT X.K m)) (hb : PW X (.BoolOp .And (b :: rest) pos) (rdT X.K n)) : PW X (.BoolOp .And (a :: b :: rest) pos) (rdT X.K (andM m n)) := by
  refine pw_imp (pw_and ha hb) fun σ H Q h => ?_
  obtain ⟨F, G, ρ, d, ρ', ok, hm, q⟩ := h
  obtain ⟨k, ρ1, h1, h2⟩ := bnd_some hm
  refine ⟨F, G, ρ, k, ρ1, ok, h1, fun F1 H1 s1 ok1 => ?_⟩
  cases k with
  | true => exact iteT ⟨F1, G, ρ1, d, ρ', ok1, h2, fun F2 H2 s2 ok2 => q F2 H2 (s1.trans s2) ok2⟩
  | false =>
    cases h2
    exact iteF (q F1 H1 s1 ok1)
theorem w_or {m n : M Bool} (ha : PT X a (rdT X.K m)) (hb : PW X (.BoolOp .Or (b :: rest) pos) (rdT X.K n)) : PW X (.BoolOp .Or (a :: b :: rest) pos) (rdT X.K (orM m n)) := by
  refine pw_imp (pw_or ha hb) fun σ H Q h => ?_
  obtain ⟨F, G, ρ, d, ρ', ok, hm, q⟩ := h
  obtain ⟨k, ρ1, h1, h2⟩ := bnd_some hm
  refine ⟨F, G, ρ, k, ρ1, ok, h1, fun F1 H1 s1 ok1 => ?_⟩
  cases k with
  | true =>
    cases h2
    exact iteT (q F1 H1 s1 ok1)
  | false => exact iteF ⟨F1, G, ρ1, d, ρ', ok1, h2, fun F2 H2 s2 ok2 => q F2 H2 (s1.trans s2) ok2⟩
theorem t_w {m : M Bool} (h : PW X e (rdT X.K m)) : PT X e (rdT X.K m) := PW.pt h
theorem t_not {m : M Bool} (h : PT X a (rdT X.K m)) : PT X (.UnaryOp .Not a pos) (rdT X.K (notM m)) := by
  refine pt_imp (pt_not h) fun σ H Q h => ?_
  obtain ⟨F, G, ρ, d, ρ', ok, hm, q⟩ := h
  obtain ⟨k, ρ1, h1, h2⟩ := bnd_some hm
  cases h2
  exact ⟨F, G, ρ, k, _, ok, h1, fun F1 H1 s1 ok1 => q F1 H1 s1 ok1⟩
/-- as values: bools -/
theorem v_one {op : BoolOp} {m : M Bool} (h : PE X a (rdV X.K (blM m))) : PE X (.BoolOp op [a] pos) (rdV X.K (blM m)) := pe_one h
theorem bl_some {m : M Bool} {ρ ρ' : Rho} {d : D} (h : blM m ρ = some (d, ρ')) : ∃ b, m ρ = some (b, ρ') ∧ d = .bool b := by
  obtain ⟨k, ρ1, h1, h2⟩ := bnd_some h
  cases h2
  exact ⟨_, h1, rfl⟩
theorem v_bool {m : M D} (h : PE X e (rdV X.K m)) : PE X e (rdV X.K (blM (tstM m))) := by
  refine pe_imp h fun σ H Q h => ?_
  obtain ⟨F, G, ρ, d, ρ', ok, hm, q⟩ := h
  obtain ⟨b, h1, rfl⟩ := bl_some hm
  exact ⟨F, G, ρ, _, ρ', ok, tst_some h1, q⟩
theorem v_and {m n : M Bool} (ha : PE X a (rdV X.K (blM m))) (hb : PE X (.BoolOp .And (b :: rest) pos) (rdV X.K (blM n))) : PE X (.BoolOp .And (a :: b :: rest) pos) (rdV X.K (blM (andM m n))) := by
  refine pe_imp (pe_and ha hb) fun σ H Q h => ?_
  obtain ⟨F, G, ρ, d, ρ', ok, hm, q⟩ := h
  obtain ⟨b, h1, rfl⟩ := bl_some hm
  obtain ⟨k, ρ1, h1, h2⟩ := bnd_some h1
  refine ⟨F, G, ρ, .bool k, ρ1, ok, by unfold blM bnd; rw [h1]; rfl, fun v F1 H1 s1 ok1 r1 => ⟨k, r1, ?_⟩⟩
  cases k with
  | true => exact iteT ⟨F1, G, ρ1, .bool b, ρ', ok1, by unfold blM bnd; rw [show n ρ1 = some (b, ρ') from h2]; rfl, fun w F2 H2 s2 ok2 r2 => q w F2 H2 (s1.trans s2) ok2 r2⟩
  | false =>
    cases h2
    exact iteF (q _ F1 H1 s1 ok1 rfl)
theorem v_or {m n : M Bool} (ha : PE X a (rdV X.K (blM m))) (hb : PE X (.BoolOp .Or (b :: rest) pos) (rdV X.K (blM n))) : PE X (.BoolOp .Or (a :: b :: rest) pos) (rdV X.K (blM (orM m n))) := by
  refine pe_imp (pe_or ha hb) fun σ H Q h => ?_
  obtain ⟨F, G, ρ, d, ρ', ok, hm, q⟩ := h
  obtain ⟨b, h1, rfl⟩ := bl_some hm
  obtain ⟨k, ρ1, h1, h2⟩ := bnd_some h1
  refine ⟨F, G, ρ, .bool k, ρ1, ok, by unfold blM bnd; rw [h1]; rfl, fun v F1 H1 s1 ok1 r1 => ⟨k, r1, ?_⟩⟩
  cases k with
  | true =>
    cases h2
    exact iteT (q _ F1 H1 s1 ok1 rfl)
  | false => exact iteF ⟨F1, G, ρ1, .bool b, ρ', ok1, by unfold blM bnd; rw [show n ρ1 = some (b, ρ') from h2]; rfl, fun w F2 H2 s2 ok2 r2 => q w F2 H2 (s1.trans s2) ok2 r2⟩
theorem v_not {m : M Bool} (ha : PE X a (rdV X.K (blM m))) : PE X (.UnaryOp .Not a pos) (rdV X.K (blM (notM m))) := by
  refine pe_imp (pe_not ha) fun σ H Q h => ?_
  obtain ⟨F, G, ρ, d, ρ', ok, hm, q⟩ := h
  obtain ⟨b, h1, rfl⟩ := bl_some hm
  obtain ⟨k, ρ1, h1, h2⟩ := bnd_some h1
  cases h2
  exact ⟨F, G, ρ, .bool k, _, ok, by unfold blM bnd; rw [h1]; rfl, fun v F1 H1 s1 ok1 r1 => ⟨k, r1, q _ F1 H1 s1 ok1 rfl⟩⟩
theorem v_ife {t : M Bool} {m n : M D} (hc : PT X c (rdT X.K t)) (ha : PE X a (rdV X.K m)) (hb : PE X b (rdV X.K n)) : PE X (.IfExp c a b pos) (rdV X.K (iteM t m n)) := by
  refine pe_imp (pe_ifExp hc ha hb) fun σ H Q h => ?_
  obtain ⟨F, G, ρ, d, ρ', ok, hm, q⟩ := h
  obtain ⟨k, ρ1, h1, h2⟩ := bnd_some hm
  refine ⟨F, G, ρ, k, ρ1, ok, h1, fun F1 H1 s1 ok1 => ?_⟩
  cases k with
  | true => exact iteT ⟨F1, G, ρ1, d, ρ', ok1, h2, fun v F2 H2 s2 ok2 r2 => q v F2 H2 (s1.trans s2) ok2 r2⟩
  | false => exact iteF ⟨F1, G, ρ1, d, ρ', ok1, h2, fun v F2 H2 s2 ok2 r2 => q v F2 H2 (s1.trans s2) ok2 r2⟩
/-- a chain of two comparisons of ints -/
def chainM (p p' : Int → Int → Bool) (a b c : M D) : M Bool := bnd a fun x => bnd b fun y => match x, y with
  | .int i, .int j => if p i j then bnd c fun z => (match z with
    | .int k => ret (p' j k)
    | _ => fun _ => none) else ret false
  | _, _ => fun _ => none
theorem chain_reads {K : Kf} {p p' : Int → Int → Bool} {ma mb mc : M D} {σ : L2.St} {H : Hp} {R : VK} (h : rdT K (chainM p p' ma mb mc) σ H fun k H' => R (.bl k) H') :
    tChain (rI0 fun i j => .bl (p i j)) (rI0 fun i j => .bl (p' i j)) (rdV K ma) (rdV K mb) (rdV K mc) σ H R := by
  obtain ⟨F, G, ρ, d, ρ', ok, hm, q⟩ := h
  obtain ⟨x, ρ1, h1, h2⟩ := bnd_some hm
  obtain ⟨y, ρ2, h3, h4⟩ := bnd_some h2
  refine ⟨F, G, ρ, x, ρ1, ok, h1, fun v F1 H1 s1 ok1 r1 => ⟨F1, G, ρ1, y, ρ2, ok1, h3, fun w F2 H2 s2 ok2 r2 => ?_⟩⟩
  cases x with
  | int i =>
    cases y with
    | int j =>
      cases (show v = _ from r1)
      cases (show w = _ from r2)
      refine ⟨i, j, rfl, rfl, p i j, rfl, ?_⟩
      have h4 : (if p i j = true then bnd mc fun z => (match z with
        | .int k => ret (p' j k)
        | _ => fun _ => none) else ret false) ρ2 = some (d, ρ') := h4
      cases hp : p i j with
      | true =>
        rw [hp, if_pos rfl] at h4
        refine iteT ?_
        obtain ⟨z, ρ3, h5, h6⟩ := bnd_some h4
        refine ⟨F2, G, ρ2, z, ρ3, ok2, h5, fun u F3 H3 s3 ok3 r3 => ?_⟩
        cases z with
        | int k =>
          cases h6
          cases (show u = _ from r3)
          exact ⟨j, k, rfl, rfl, q F3 H3 ((s1.trans s2).trans s3) ok3⟩
        | _ => cases h6
      | false =>
        rw [hp, if_neg Bool.false_ne_true] at h4
        cases h4
        exact iteF (q F2 H2 (s1.trans s2) ok2)
    | _ => cases h4
  | _ => cases h4
theorem t_chain {p p' : Int → Int → Bool} {op op' : CmpOp} {ma mb mc : M D} (ho : OpR X (compareOp op) (rI0 fun i j => .bl (p i j))) (ho' : OpR X (compareOp op') (rI0 fun i j => .bl (p' i j))) (ha : PE X a (rdV X.K ma)) (hb : PE X b (rdV X.K mb)) (hc : PE X c (rdV X.K mc))
    (hm : lastMarks [op, op'] [b, c] = false := by with_unfolding_all rfl) : PT X (.Compare a [op, op'] [b, c] pos) (rdT X.K (chainM p p' ma mb mc)) :=
  pt_imp (pt_chain ho ho' ha hb hc hm) fun σ H Q h => chain_reads (by
    obtain ⟨F, G, ρ, d, ρ', ok, hm, q⟩ := h
    exact ⟨F, G, ρ, d, ρ', ok, hm, fun F' H' s ok' => ⟨d, rfl, q F' H' s ok'⟩⟩)
theorem v_chain {p p' : Int → Int → Bool} {op op' : CmpOp} {ma mb mc : M D} (ho : OpR X (compareOp op) (rI0 fun i j => .bl (p i j))) (ho' : OpR X (compareOp op') (rI0 fun i j => .bl (p' i j))) (ha : PE X a (rdV X.K ma)) (hb : PE X b (rdV X.K mb)) (hc : PE X c (rdV X.K mc))
    (hm : lastMarks [op, op'] [b, c] = false := by with_unfolding_all rfl) : PE X (.Compare a [op, op'] [b, c] pos) (rdV X.K (blM (chainM p p' ma mb mc))) := by
  refine pe_imp (pe_chain ho ho' ha hb hc hm) fun σ H Q h => chain_reads ?_
  obtain ⟨F, G, ρ, d, ρ', ok, hm, q⟩ := h
  obtain ⟨b, h1, rfl⟩ := bl_some hm
  exact ⟨F, G, ρ, b, ρ', ok, h1, fun F' H' s ok' => q _ F' H' s ok' rfl⟩
/-- is None -/
def isNoneD : D → D → Option D := fun x y => match y with
  | .none => (match x with
    | .none => some (.bool true)
    | _ => some (.bool false))
  | _ => none
def notNoneD : D → D → Option D := fun x y => match y with
  | .none => (match x with
    | .none => some (.bool false)
    | _ => some (.bool true))
  | _ => none
theorem Vw.none_iff {K : Kf} {F H : Hp} {v : V} {d : D} (h : Vw K F H v d) : v = .non ↔ d = .none := by
  rcases h with h | ⟨p, vs, ys, rfl, rfl, h1, h2⟩
  · cases d with
    | none => cases (show v = _ from h); simp
    | bool b => cases (show v = _ from h); simp
    | int b => cases (show v = _ from h); simp
    | str b => cases (show v = _ from h); simp
    | list ds => obtain ⟨a, vs, rfl, _⟩ := h; simp
    | tuple ds => obtain ⟨a, vs, rfl, _⟩ := h; simp
    | dict _ => exact h.elim
  · simp
theorem opd_isN {K : Kf} : OpD K isNoneD (fun x y H Q => y = .non ∧ Q (.bl (decide (x = .non))) H) := by
  intro F G H σ ρ x y d v w Q ok hx hy hf q
  unfold isNoneD at hf
  split at hf
  · have e := hy.non
    subst e
    have nx := hx.none_iff
    split at hf
    · cases hf
      have e := nx.mpr rfl
      subst e
      exact ⟨rfl, q _ F H (Same.refl F) ok rfl⟩
    · rename_i hne
      cases hf
      refine ⟨rfl, ?_⟩
      rw [decide_eq_false (fun z => hne (nx.mp z))]
      exact q _ F H (Same.refl F) ok rfl
  · cases hf
theorem opd_notN {K : Kf} : OpD K notNoneD (fun x y H Q => y = .non ∧ Q (.bl (!decide (x = .non))) H) := by
  intro F G H σ ρ x y d v w Q ok hx hy hf q
  unfold notNoneD at hf
  split at hf
  · have e := hy.non
    subst e
    have nx := hx.none_iff
    split at hf
    · cases hf
      have e := nx.mpr rfl
      subst e
      exact ⟨rfl, q _ F H (Same.refl F) ok rfl⟩
    · rename_i hne
      cases hf
      refine ⟨rfl, ?_⟩
      rw [decide_eq_false (fun z => hne (nx.mp z))]
      exact q _ F H (Same.refl F) ok rfl
  · cases hf
theorem t_isN {ma mb : M Rf} (ha : PE X a (rdB X.K ma)) (hb : PE X b (rdB X.K mb)) : PT X (.Compare a [.Is] [b] pos) (rdT X.K (tstM (binM isNoneD ma mb))) := t_cmp op_isN opd_isN ha hb (nomark _)
theorem t_notN {ma mb : M Rf} (ha : PE X a (rdB X.K ma)) (hb : PE X b (rdB X.K mb)) : PT X (.Compare a [.IsNot] [b] pos) (rdT X.K (tstM (binM notNoneD ma mb))) := t_cmp op_notN opd_notN ha hb (nomark _)
theorem v_isN {ma mb : M Rf} (ha : PE X a (rdB X.K ma)) (hb : PE X b (rdB X.K mb)) : PE X (.Compare a [.Is] [b] pos) (rdV X.K (binM isNoneD ma mb)) := v_cmp op_isN opd_isN ha hb (nomark _)
theorem v_notN {ma mb : M Rf} (ha : PE X a (rdB X.K ma)) (hb : PE X b (rdB X.K mb)) : PE X (.Compare a [.IsNot] [b] pos) (rdV X.K (binM notNoneD ma mb)) := v_cmp op_notN opd_notN ha hb (nomark _)
/-! ### subscripts -/
def ixD : D → D → Option D
  | .list xs, .int i => atI xs i
  | .tuple xs, .int i => atI xs i
  | .str s, .int i => if fitS s.length then (atI s.cps.toList i).map fun c => .str ⟨#[c]⟩ else none
  | _, _ => none
theorem Rps.at {K : Kf} {F : Hp} {xs : List D} {vs : List V} {i : Int} {d : D} (h : Rps K F xs vs) (e : atI xs i = some d) : ∃ v, atI vs i = some v ∧ Rp K F d v := by
  unfold atI at e ⊢
  rw [h.length]
  cases hj : ixN xs.length i with
  | none => rw [hj] at e; cases e
  | some j =>
    rw [hj] at e
    exact h.get e
theorem opd_ix {K : Kf} : OpD K ixD (rIx K) := by
  intro F G H σ ρ x y d v w Q ok hx hy hf q
  unfold ixD at hf
  split at hf
  · have e := hy.int
    subst e
    obtain ⟨p, vs, rfl, h4, h5⟩ := hx.list ok.sub
    obtain ⟨z, hz, rz⟩ := h5.at hf
    exact .inl ⟨p, vs, _, z, rfl, rfl, SqL.of h4, hz, q z F H (Same.refl F) ok rz⟩
  · have e := hy.int
    subst e
    obtain ⟨p, vs, rfl, h4, _, h5⟩ := hx.tuple ok.sub
    obtain ⟨z, hz, rz⟩ := h5.at hf
    exact .inr (.inl ⟨p, vs, _, z, rfl, rfl, h4, hz, q z F H (Same.refl F) ok rz⟩)
  · rename_i s i
    have e := hy.int
    subst e
    have e := hx.str
    subst e
    split at hf
    · rename_i hz
      cases hc : atI s.cps.toList i with
      | none => rw [hc] at hf; cases hf
      | some c =>
        rw [hc] at hf
        cases hf
        exact .inr (.inr ⟨s, i, c, rfl, rfl, of_decide_eq_true hz, hc, q _ F H (Same.refl F) ok rfl⟩)
    · cases hf
  · cases hf
theorem v_ix {ma mb : M Rf} (ha : PE X a (rdB X.K ma)) (hb : PE X b (rdB X.K mb)) (hs : PlainIx b := by exact fun _ _ => rfl) : PE X (.Subscript a b pos) (rdV X.K (binM ixD ma mb)) := by
  refine pe_imp (pe_ix ix_seq ha hb hs) fun σ H Q h => ?_
  obtain ⟨F, G, ρ, d, ρ', ok, hm, q⟩ := h
  obtain ⟨r, ρ1, s, x, y, h1, h2, e1, e2, e3⟩ := binM_some hm
  refine ⟨F, G, ρ, r, ρ1, ok, h1, fun v F1 H1 s1 ok1 r1 => ⟨F1, G, ρ1, s, ρ', ok1, h2, fun w F2 H2 s2 ok2 r2 => ?_⟩⟩
  exact opd_ix F2 G H2 σ ρ' x y d v w Q ok2 (look_ok ok2 (r1.mono s2) e1) (look_ok ok2 r2 e2) e3 fun z F' H' s3 ok3 r3 => q z F' H' ((s1.trans s2).trans s3) ok3 r3
/-! ### slices -/
def cutG {α : Type} (xs : List α) (lo hi : Option Int) : List α := (xs.drop (HT.sIx xs.length 0 lo)).take (HT.sIx xs.length xs.length hi - HT.sIx xs.length 0 lo)
section
variable (K : Kf)
def rdO (m : M (Option Int)) : TO := fun σ H Q => ∃ F G ρ d ρ', Ok K F G H σ ρ ∧ m ρ = some (d, ρ') ∧ ∀ F' H', Same F F' → Ok K F' G H' σ ρ' → Q d H'
end
def noM : M (Option Int) := ret none
def partM (m : M D) : M (Option Int) := bnd m fun d => match d with
  | .int i => ret (some i)
  | _ => fun _ => none
theorem po_imp {x : Option Expr} {t t' : TO} (h : PO X x t) (i : ∀ σ H Q, t' σ H Q → t σ H Q) : PO X x t' := ⟨fun pins s σ H Q I q => h.run pins s σ H Q I (i σ H Q q)⟩
theorem o_none : PO X none (rdO X.K noM) := po_imp po_none fun σ H Q h => by
  obtain ⟨F, G, ρ, d, ρ', ok, hm, q⟩ := h
  cases hm
  exact q F H (Same.refl F) ok
theorem o_some {m : M D} (h : PE X e (rdV X.K m)) : PO X (some e) (rdO X.K (partM m)) := po_imp (po_some h) fun σ H Q h => by
  obtain ⟨F, G, ρ, d, ρ', ok, hm, q⟩ := h
  obtain ⟨x, ρ1, h1, h2⟩ := bnd_some hm
  cases x with
  | int i =>
    cases h2
    refine ⟨F, G, ρ, .int i, _, ok, h1, fun v F' H' s ok' r => ⟨i, r, q F' H' s ok'⟩⟩
  | _ => cases h2
def slM {α : Type} (f : D → Option Int → Option Int → Option α) (m : M Rf) (lo hi : M (Option Int)) : M α := bnd m fun r => bnd lo fun l => bnd hi fun h => fun ρ => match look ρ r with
  | some x => (f x l h).map fun z => (z, ρ)
  | none => none
theorem slM_some {α : Type} {f : D → Option Int → Option Int → Option α} {m : M Rf} {lo hi : M (Option Int)} {ρ ρ' : Rho} {z : α} (h : slM f m lo hi ρ = some (z, ρ')) :
    ∃ r ρ1 l ρ2 u x, m ρ = some (r, ρ1) ∧ lo ρ1 = some (l, ρ2) ∧ hi ρ2 = some (u, ρ') ∧ look ρ' r = some x ∧ f x l u = some z := by
  obtain ⟨r, ρ1, h1, h⟩ := bnd_some h
  obtain ⟨l, ρ2, h2, h⟩ := bnd_some h
  obtain ⟨u, ρ3, h3, h⟩ := bnd_some h
  have h : (match look ρ3 r with
    | some x => (f x l u).map fun z => (z, ρ3)
    | none => none) = some (z, ρ') := h
  split at h
  · rename_i x hx
    cases hf : f x l u with
    | none => rw [hf] at h; cases h
    | some w =>
      rw [hf] at h
      cases h
      exact ⟨r, ρ1, l, ρ2, u, x, h1, h2, h3, hx, hf⟩
  · cases h
def slD : D → Option Int → Option Int → Option D
  | .tuple xs, lo, hi => some (.tuple (cutG xs lo hi))
  | .str s, lo, hi => if fitS s.length then some (.str (cutS s lo hi)) else none
  | .list xs, lo, hi => some (.list (cutG xs lo hi))
  | _, _, _ => none
def slO : D → Option Int → Option Int → Option Own
  | .list xs, lo, hi => some (.lst (cutG xs lo hi))
  | _, _, _ => none
theorem Rps.cut {K : Kf} {F : Hp} {xs : List D} {vs : List V} (h : Rps K F xs vs) (lo hi : Option Int) : Rps K F (cutG xs lo hi) (cutV vs lo hi) := by
  unfold cutG cutV
  rw [h.length]
  exact (h.drop _).take _
theorem v_sl {m : M Rf} {lo hi : Option Expr} {ml mh : M (Option Int)} {p2 : Pos} (h : PE X e (rdB X.K m)) (hl : PO X lo (rdO X.K ml)) (hh : PO X hi (rdO X.K mh)) : PE X (.Subscript e (.Slice lo hi none p2) pos) (rdV X.K (slM slD m ml mh)) := by
  refine pe_imp (pe_slice (sl_tupA.or (sl_str.or sl_list)) h hl hh) fun σ H Q h => ?_
  obtain ⟨F, G, ρ, d, ρ', ok, hm, q⟩ := h
  obtain ⟨r, ρ1, l, ρ2, u, x, h1, h2, h3, hx, hf⟩ := slM_some hm
  refine ⟨F, G, ρ, r, ρ1, ok, h1, fun v F1 H1 s1 ok1 r1 => ⟨F1, G, ρ1, l, ρ2, ok1, h2, fun F2 H2 s2 ok2 => ⟨F2, G, ρ2, u, ρ', ok2, h3, fun F3 H3 s3 ok3 => ?_⟩⟩⟩
  have w := look_ok ok3 (r1.mono (s2.trans s3)) hx
  have sA := (s1.trans s2).trans s3
  unfold slD at hf
  split at hf
  · cases hf
    obtain ⟨p, vs, rfl, h4, h4f, h5⟩ := w.tuple ok3.sub
    refine .inl ⟨p, vs, rfl, h4, fun e => ?_, fun e t ht => ?_⟩
    · rename_i xs
      have ec : cutG xs l u = xs := by
        unfold cutG
        rw [← h5.length, e.1, e.2, Nat.sub_zero, List.drop_zero, List.take_of_length_le (by rw [h5.length]; exact Nat.le_refl _)]
      rw [ec] at q
      exact q _ F3 H3 sA ok3 ⟨p, vs, rfl, h4f, h5⟩
    · obtain ⟨s4, ok4⟩ := ok3.alloc (o := .tup (cutV vs l u)) ht
      exact q _ _ _ (sA.trans s4) ok4 ⟨t, _, rfl, SqT.of upd_same, Rps.mono s4 _ _ (h5.cut l u)⟩
  · split at hf
    · rename_i hz
      cases hf
      have e := w.str
      subst e
      exact .inr (.inl ⟨_, rfl, of_decide_eq_true hz, q _ F3 H3 sA ok3 rfl⟩)
    · cases hf
  · cases hf
    obtain ⟨p, vs, rfl, h4, h5⟩ := w.list ok3.sub
    refine .inr (.inr ⟨p, vs, rfl, SqL.of h4, fun t ht => ?_⟩)
    obtain ⟨s4, ok4⟩ := ok3.alloc (o := .lst (cutV vs l u)) ht
    exact q _ _ _ (sA.trans s4) ok4 ⟨t, _, rfl, upd_same, Rps.mono s4 _ _ (h5.cut l u)⟩
  · cases hf
theorem n_sl {m : M Rf} {lo hi : Option Expr} {ml mh : M (Option Int)} {p2 : Pos} (h : PE X e (rdB X.K m)) (hl : PO X lo (rdO X.K ml)) (hh : PO X hi (rdO X.K mh)) : PE X (.Subscript e (.Slice lo hi none p2) pos) (rdN X.K (slM slO m ml mh)) := by
  refine pe_imp (pe_slice sl_list h hl hh) fun σ H Q h => ?_
  obtain ⟨F, G, ρ, d, ρ', ok, hm, q⟩ := h
  obtain ⟨r, ρ1, l, ρ2, u, x, h1, h2, h3, hx, hf⟩ := slM_some hm
  refine ⟨F, G, ρ, r, ρ1, ok, h1, fun v F1 H1 s1 ok1 r1 => ⟨F1, G, ρ1, l, ρ2, ok1, h2, fun F2 H2 s2 ok2 => ⟨F2, G, ρ2, u, ρ', ok2, h3, fun F3 H3 s3 ok3 => ?_⟩⟩⟩
  have w := look_ok ok3 (r1.mono (s2.trans s3)) hx
  have sA := (s1.trans s2).trans s3
  unfold slO at hf
  split at hf
  · cases hf
    obtain ⟨p, vs, rfl, h4, h5⟩ := w.list ok3.sub
    refine ⟨p, vs, rfl, SqL.of h4, fun t ht => ?_⟩
    obtain ⟨ok4, n⟩ := ok3.fresh (o := .lst (cutV vs l u)) ht
    exact q t F3 _ sA ok4 n ⟨_, upd_same, h5.cut l u⟩
  · cases hf
/-! ### displays -/
def nilM : M (List D) := ret []
def consM (m : M D) (n : M (List D)) : M (List D) := bnd m fun d => bnd n fun ds => ret (d :: ds)
def tupM (m : M (List D)) : M D := bnd m fun ds => if fitS ds.length then ret (.tuple ds) else fun _ => none
def lstM (m : M (List D)) : M Own := bnd m fun ds => if fitS ds.length then ret (.lst ds) else fun _ => none
variable {es : List Expr}
theorem a_nil : PA X [] (rdA X.K nilM) := pa_imp pa_nil fun σ H Q h => by
  obtain ⟨F, G, ρ, d, ρ', ok, hm, q⟩ := h
  cases hm
  exact q _ F H (Same.refl F) ok rfl
theorem a_cons {m : M D} {n : M (List D)} (he : PE X e (rdV X.K m)) (hr : PA X es (rdA X.K n)) (hs : starEach (e :: es) X.env = (false, eval e X.env) :: starEach es X.env := by rfl) : PA X (e :: es) (rdA X.K (consM m n)) := by
  refine pa_imp (pa_cons he hr hs) fun σ H Q h => ?_
  obtain ⟨F, G, ρ, d, ρ', ok, hm, q⟩ := h
  obtain ⟨x, ρ1, h1, h2⟩ := bnd_some hm
  obtain ⟨xs, ρ2, h3, h4⟩ := bnd_some h2
  cases h4
  refine ⟨F, G, ρ, x, ρ1, ok, h1, fun v F1 H1 s1 ok1 r1 => ⟨F1, G, ρ1, xs, _, ok1, h3, fun vs F2 H2 s2 ok2 r2 => ?_⟩⟩
  exact q _ F2 H2 (s1.trans s2) ok2 ⟨v, vs, rfl, Rp.mono s2 _ _ r1, r2⟩
theorem v_tup {m : M (List D)} {x1 : Nat} (h : PA X es (rdA X.K m)) : PE X (.Tuple es x1 pos) (rdV X.K (tupM m)) := by
  refine pe_imp (pe_tup h) fun σ H Q h => ?_
  obtain ⟨F, G, ρ, d, ρ', ok, hm, q⟩ := h
  obtain ⟨xs, ρ1, h1, h2⟩ := bnd_some hm
  by_cases hz : fitS xs.length = true
  · rw [if_pos hz] at h2
    cases h2
    refine ⟨F, G, ρ, xs, _, ok, h1, fun vs F1 H1 s1 ok1 r1 => ⟨by rw [r1.length]; exact of_decide_eq_true hz, fun p hp => ?_⟩⟩
    obtain ⟨s2, ok2⟩ := ok1.alloc (o := .tup vs) hp
    exact q _ _ _ (s1.trans s2) ok2 ⟨p, vs, rfl, SqT.of upd_same, Rps.mono s2 _ _ r1⟩
  · rw [if_neg hz] at h2
    cases h2
theorem n_lst {m : M (List D)} (h : PA X es (rdA X.K m)) : PE X (.List es pos) (rdN X.K (lstM m)) := by
  refine pe_imp (pe_lst h) fun σ H Q h => ?_
  obtain ⟨F, G, ρ, d, ρ', ok, hm, q⟩ := h
  obtain ⟨xs, ρ1, h1, h2⟩ := bnd_some hm
  by_cases hz : fitS xs.length = true
  · rw [if_pos hz] at h2
    cases h2
    refine ⟨F, G, ρ, xs, _, ok, h1, fun vs F1 H1 s1 ok1 r1 => ⟨by rw [r1.length]; exact of_decide_eq_true hz, fun p hp => ?_⟩⟩
    obtain ⟨ok2, n⟩ := ok1.fresh (o := .lst vs) hp
    exact q p F1 _ s1 ok2 n ⟨vs, upd_same, r1⟩
  · rw [if_neg hz] at h2
    cases h2
end
end Fx
/-! Fx: statements, targets. -/
namespace Fx
open PySem PySem.Spec PyProof.Rows L2
/-- how a statement ends -/
inductive Fl where
  | nx
  | bk
  | ct
  | rt (r : Sl)
abbrev MS := M Fl
def Pr (pr : List Nat) (σ σ' : L2.St) : Prop := σ'.length = σ.length ∧ ∀ i ∈ pr, σ'[i]? = σ[i]?
theorem Pr.refl {pr : List Nat} {σ : L2.St} : Pr pr σ σ := ⟨rfl, fun _ _ => rfl⟩
theorem Pr.trans {pr : List Nat} {σ σ1 σ2 : L2.St} (a : Pr pr σ σ1) (b : Pr pr σ1 σ2) : Pr pr σ σ2 := ⟨b.1.trans a.1, fun i h => (b.2 i h).trans (a.2 i h)⟩
theorem Pr.set {pr : List Nat} {σ : L2.St} {i : Nat} {x : Option V} (h : i ∉ pr) : Pr pr σ (σ.set i x) := ⟨List.length_set, fun j hj => List.getElem?_set_ne fun (e : i = j) => h (e ▸ hj)⟩
section
variable (K : Kf) (pr : List Nat)
def Wish (F G : Hp) (σ : L2.St) (E : Ends) : Fl → Rho → Prop
  | .nx, ρ' => ∀ σ' F' H', Same F F' → Ok K F' G H' σ' ρ' → Pr pr σ σ' → E.nx σ' H'
  | .bk, ρ' => ∀ σ' F' H', Same F F' → Ok K F' G H' σ' ρ' → Pr pr σ σ' → E.bk σ' H'
  | .ct, ρ' => ∀ σ' F' H', Same F F' → Ok K F' G H' σ' ρ' → Pr pr σ σ' → E.ct σ' H'
  | .rt (.v d), ρ' => ∀ v σ' F' H', Same F F' → Ok K F' G H' σ' ρ' → Pr pr σ σ' → Rp K F' d v → E.rt v H'
  | .rt (.o b), ρ' => ∀ p σ' F' H', Same F F' → Ok K F' G H' σ' ρ' → Pr pr σ σ' → New F' G σ' ρ' p → OwnAt K F' H' p b → E.rt (.ref p) H'
  | .rt _, _ => False
def rdS (m : MS) : TS := fun E σ H => ∃ F G ρ fl ρ', Ok K F G H σ ρ ∧ m ρ = some (fl, ρ') ∧ Wish K pr F G σ E fl ρ'
def rdG (m : D → Rho → Option Rho) : TG := fun v σ H Q => ∃ F G ρ d ρ', Ok K F G H σ ρ ∧ Rp K F d v ∧ m d ρ = some ρ' ∧ ∀ σ', Ok K F G H σ' ρ' → Pr pr σ σ' → Q σ' H
def rdGs (m : List D → Rho → Option Rho) : TGs := fun vs σ H Q => ∃ F G ρ ds ρ', Ok K F G H σ ρ ∧ Rps K F ds vs ∧ m ds ρ = some ρ' ∧ ∀ σ', Ok K F G H σ' ρ' → Pr pr σ σ' → Q σ' H
end
section
variable {X : Cx} {K : Kf} {pr : List Nat} {F F' G H H' : Hp} {σ σ' : L2.St} {ρ ρ' : Rho} {E : Ends}
theorem Wish.step (s : Same F F') (p : Pr pr σ σ') : ∀ {fl : Fl} {ρ' : Rho}, Wish K pr F G σ E fl ρ' → Wish K pr F' G σ' E fl ρ'
  | .nx, _, w => fun σ2 F2 H2 s2 ok2 p2 => w σ2 F2 H2 (s.trans s2) ok2 (p.trans p2)
  | .bk, _, w => fun σ2 F2 H2 s2 ok2 p2 => w σ2 F2 H2 (s.trans s2) ok2 (p.trans p2)
  | .ct, _, w => fun σ2 F2 H2 s2 ok2 p2 => w σ2 F2 H2 (s.trans s2) ok2 (p.trans p2)
  | .rt (.v _), _, w => fun v σ2 F2 H2 s2 ok2 p2 => w v σ2 F2 H2 (s.trans s2) ok2 (p.trans p2)
  | .rt (.o _), _, w => fun v σ2 F2 H2 s2 ok2 p2 => w v σ2 F2 H2 (s.trans s2) ok2 (p.trans p2)
  | .rt .u, _, w => w
  | .rt (.s _), _, w => w
/-- another end for nx, bk, ct -/
theorem Wish.ends {E E' : Ends} (hr : E'.rt = E.rt) (hn : ∀ (f : Fl) (ρ' : Rho), (f = .nx ∨ f = .bk ∨ f = .ct) → Wish K pr F G σ E f ρ' → Wish K pr F G σ E' f ρ') : ∀ {fl : Fl} {ρ' : Rho}, Wish K pr F G σ E fl ρ' → Wish K pr F G σ E' fl ρ'
  | .nx, _, w => hn _ _ (.inl rfl) w
  | .bk, _, w => hn _ _ (.inr (.inl rfl)) w
  | .ct, _, w => hn _ _ (.inr (.inr rfl)) w
  | .rt (.v _), _, w => fun v σ2 F2 H2 s2 ok2 p2 r => by rw [hr]; exact w v σ2 F2 H2 s2 ok2 p2 r
  | .rt (.o _), _, w => fun v σ2 F2 H2 s2 ok2 p2 n o => by rw [hr]; exact w v σ2 F2 H2 s2 ok2 p2 n o
  | .rt .u, _, w => w
  | .rt (.s _), _, w => w
theorem ps_imp {st : Stmt} {t t' : TS} (h : PS X st t) (i : ∀ E σ H, t' E σ H → t E σ H) : PS X st t' := ⟨fun pins s σ H E I q => h.run pins s σ H E I (i E σ H q)⟩
theorem pss_imp {st : List Stmt} {t t' : TS} (h : PSs X st t) (i : ∀ E σ H, t' E σ H → t E σ H) : PSs X st t' := ⟨fun pins s σ H E I q => h.run pins s σ H E I (i E σ H q)⟩
theorem pg_imp {e : Expr} {t t' : TG} (h : PG X e t) (i : ∀ v σ H Q, t' v σ H Q → t v σ H Q) : PG X e t' := ⟨fun pins s σ H v u Q I r q => h.run pins s σ H v u Q I r (i v σ H Q q)⟩
theorem pgs_imp {es : List Expr} {t t' : TGs} (h : PGs X es t) (i : ∀ v σ H Q, t' v σ H Q → t v σ H Q) : PGs X es t' := ⟨fun pins s σ H v u Q I r q => h.run pins s σ H v u Q I r (i v σ H Q q)⟩
/-! ### blocks -/
def skipM : MS := ret .nx
def seqM (a b : MS) : MS := bnd a fun f => match f with
  | .nx => b
  | f => ret f
variable {st : Stmt} {rest : List Stmt} {e c : Expr} {pos : Pos}
theorem ss_nil : PSs X [] (rdS X.K pr skipM) := pss_imp pss_nil fun E σ H h => by
  obtain ⟨F, G, ρ, fl, ρ', ok, hm, w⟩ := h
  cases hm
  exact w σ F H (Same.refl F) ok Pr.refl
theorem ss_cons {m n : MS} (h : PS X st (rdS X.K pr m)) (hr : PSs X rest (rdS X.K pr n)) : PSs X (st :: rest) (rdS X.K pr (seqM m n)) := by
  refine pss_imp (pss_cons h hr) fun E σ H h => ?_
  obtain ⟨F, G, ρ, fl, ρ', ok, hm, w⟩ := h
  obtain ⟨f, ρ1, h1, h2⟩ := bnd_some hm
  refine ⟨F, G, ρ, f, ρ1, ok, h1, ?_⟩
  cases f with
  | nx => exact fun σ1 F1 H1 s1 ok1 p1 => ⟨F1, G, ρ1, fl, ρ', ok1, h2, w.step s1 p1⟩
  | bk => cases h2; exact w
  | ct => cases h2; exact w
  | rt r =>
    cases h2
    cases r with
    | v d => exact w
    | o b => exact w
    | u => exact w
    | s _ => exact w
theorem ss_one {m : MS} (h : PS X st (rdS X.K pr m)) : PSs X [st] (rdS X.K pr m) := pss_one h
theorem s_pass : PS X (.Pass pos) (rdS X.K pr skipM) := ps_imp ps_pass fun E σ H h => by
  obtain ⟨F, G, ρ, fl, ρ', ok, hm, w⟩ := h
  cases hm
  exact w σ F H (Same.refl F) ok Pr.refl
theorem s_break : PS X (.Break pos) (rdS X.K pr (ret .bk)) := ps_imp ps_break fun E σ H h => by
  obtain ⟨F, G, ρ, fl, ρ', ok, hm, w⟩ := h
  cases hm
  exact w σ F H (Same.refl F) ok Pr.refl
theorem s_cont : PS X (.Continue pos) (rdS X.K pr (ret .ct)) := ps_imp ps_continue fun E σ H h => by
  obtain ⟨F, G, ρ, fl, ρ', ok, hm, w⟩ := h
  cases hm
  exact w σ F H (Same.refl F) ok Pr.refl
def retM (m : M D) : MS := bnd m fun d => ret (.rt (.v d))
def retNM (m : M Own) : MS := bnd m fun b => ret (.rt (.o b))
/-- return x, x an own object of the def's own -/
def retOM (i : Nat) : MS := fun ρ => match ρ[i]? with
  | some (.o b) => some (.rt (.o b), ρ.set i .u)
  | _ => none
theorem s_ret {m : M D} (he : PE X e (rdV X.K m)) : PS X (.Return (some e) pos) (rdS X.K pr (retM m)) := ps_imp (ps_ret he) fun E σ H h => by
  obtain ⟨F, G, ρ, fl, ρ', ok, hm, w⟩ := h
  obtain ⟨d, ρ1, h1, h2⟩ := bnd_some hm
  cases h2
  exact ⟨F, G, ρ, d, _, ok, h1, fun v F' H' s ok' r => w v σ F' H' s ok' Pr.refl r⟩
theorem s_retN {m : M Own} (he : PE X e (rdN X.K m)) : PS X (.Return (some e) pos) (rdS X.K pr (retNM m)) := ps_imp (ps_ret he) fun E σ H h => by
  obtain ⟨F, G, ρ, fl, ρ', ok, hm, w⟩ := h
  obtain ⟨d, ρ1, h1, h2⟩ := bnd_some hm
  cases h2
  exact ⟨F, G, ρ, d, _, ok, h1, fun p F' H' s ok' n o => w p σ F' H' s ok' Pr.refl n o⟩
theorem s_ret0 : PS X (.Return none pos) (rdS X.K pr (ret (.rt (.v .none)))) := ps_imp ps_retN fun E σ H h => by
  obtain ⟨F, G, ρ, fl, ρ', ok, hm, w⟩ := h
  cases hm
  exact w .non σ F H (Same.refl F) ok Pr.refl rfl
theorem s_retO (i : Nat) {x : Str} {pos1 : Pos} (hN : X.N[i]? = some x := by rfl) (hv : Vis X.env.scope x := by first | exact Or.inl rfl | exact Or.inr (Or.inl rfl) | exact Or.inr (Or.inr rfl)) (hd : (x == ("__debug__" : Str)) = false := by decide)
    (hcd : (x == ("__classdict__" : Str)) = false := by decide) : PS X (.Return (some (.Name x pos1)) pos) (rdS X.K pr (retOM i)) := ps_imp (ps_ret (pe_var (i := i) hN hv hd hcd)) fun E σ H h => by
  obtain ⟨F, G, ρ, fl, ρ', ok, hm, w⟩ := h
  unfold retOM at hm
  split at hm
  · rename_i b hb
    cases hm
    obtain ⟨p, h1, h2, h3, h4⟩ := ok.own i _ hb
    exact ⟨_, h1, w p σ F H (Same.refl F) (ok.drop i) Pr.refl (ok.newOf hb h1) h4⟩
  · cases hm
def dropM (m : M D) : MS := bnd m fun _ => ret .nx
theorem s_expr {m : M D} (he : PE X e (rdV X.K m)) (hs : swapsWith e none pos.line X.env = pure false := by rfl) : PS X (.Expr e pos) (rdS X.K pr (dropM m)) := ps_imp (ps_expr he hs) fun E σ H h => by
  obtain ⟨F, G, ρ, fl, ρ', ok, hm, w⟩ := h
  obtain ⟨d, ρ1, h1, h2⟩ := bnd_some hm
  cases h2
  exact ⟨F, G, ρ, d, _, ok, h1, fun v F' H' s ok' r => w σ F' H' s ok' Pr.refl⟩
theorem s_if {c : Expr} {a b : List Stmt} {mc : M Bool} {m n : MS} (hc : PT X c (rdT X.K mc)) (ha : PSs X a (rdS X.K pr m)) (hb : PSs X b (rdS X.K pr n)) : PS X (.If c a b pos) (rdS X.K pr (iteM mc m n)) := ps_imp (ps_if hc ha hb) fun E σ H h => by
  obtain ⟨F, G, ρ, fl, ρ', ok, hm, w⟩ := h
  obtain ⟨k, ρ1, h1, h2⟩ := bnd_some hm
  refine ⟨F, G, ρ, k, ρ1, ok, h1, fun F1 H1 s1 ok1 => ?_⟩
  cases k with
  | true => exact iteT ⟨F1, G, ρ1, fl, ρ', ok1, h2, w.step s1 Pr.refl⟩
  | false => exact iteF ⟨F1, G, ρ1, fl, ρ', ok1, h2, w.step s1 Pr.refl⟩
/-! ### targets and assignments -/
def nameT (i : Nat) : D → Rho → Option Rho := fun d ρ => some (ρ.set i (.v d))
def nilT : List D → Rho → Option Rho := fun ds ρ => match ds with
  | [] => some ρ
  | _ => none
def consT (t : D → Rho → Option Rho) (u : List D → Rho → Option Rho) : List D → Rho → Option Rho := fun ds ρ => match ds with
  | d :: ds => (t d ρ).bind (u ds)
  | [] => none
def tupT (t : List D → Rho → Option Rho) : D → Rho → Option Rho := fun d ρ => match d with
  | .tuple ds => t ds ρ
  | _ => none
theorem Ok.putV {i : Nat} {d : D} {v : V} (ok : Ok K F G H σ ρ) (r : Rp K F d v) : Ok K F G H (σ.set i (some v)) (ρ.set i (.v d)) :=
  ok.put (fun d' e => by cases e; exact r) (fun b e => nomatch e) (fun ns e => nomatch e)
theorem Ok.putO {i : Nat} {b : Own} {p : Addr} (ok : Ok K F G H σ ρ) (n : New F G σ ρ p) (o : OwnAt K F H p b) : Ok K F G H (σ.set i (some (.ref p))) (ρ.set i (.o b)) :=
  ok.put (fun d' e => nomatch e) (fun b' e => by cases e; exact ⟨p, rfl, n, o⟩) (fun ns e => nomatch e)
theorem g_name (i : Nat) {x : Str} (hp : i ∉ pr) (hN : X.N.Nodup) (hi : X.N[i]? = some x) (hx : Loc X.env.scope x) (hf : X.fn x = true ∨ X.env.scope.names.lookup x = some .local := by first | exact .inl rfl | exact .inr rfl | assumption) : PG X (.Name x pos) (rdG X.K pr (nameT i)) :=
  pg_imp (pg_name hN hi hx hf) fun v σ H Q h => by
    obtain ⟨F, G, ρ, d, ρ', ok, r, hm, q⟩ := h
    cases hm
    exact q _ (ok.putV r) (Pr.set hp)
theorem gs_nil : PGs X [] (rdGs X.K pr nilT) := pgs_imp pgs_nil fun v σ H Q h => by
  obtain ⟨F, G, ρ, d, ρ', ok, r, hm, q⟩ := h
  unfold nilT at hm
  split at hm
  · cases hm
    exact ⟨r, q σ ok Pr.refl⟩
  · cases hm
theorem gs_cons {es : List Expr} {t : D → Rho → Option Rho} {u : List D → Rho → Option Rho} (h1 : PG X e (rdG X.K pr t)) (h2 : PGs X es (rdGs X.K pr u))
    (hs : (assignEach (e :: es) X.env).map (·.2) = assign e X.env :: (assignEach es X.env).map (·.2) := by rfl) : PGs X (e :: es) (rdGs X.K pr (consT t u)) := pgs_imp (pgs_cons h1 h2 hs) fun v σ H Q h => by
  obtain ⟨F, G, ρ, d, ρ', ok, r, hm, q⟩ := h
  unfold consT at hm
  split at hm
  · rename_i d ds
    obtain ⟨v, vs, rfl, r1, r2⟩ := r
    cases ht : t d ρ with
    | none => rw [ht] at hm; cases hm
    | some ρ1 =>
      rw [ht] at hm
      have hm : u ds ρ1 = some ρ' := hm
      exact ⟨v, vs, rfl, F, G, ρ, d, ρ1, ok, r1, ht, fun σ1 ok1 p1 => ⟨F, G, ρ1, ds, ρ', ok1, r2, hm, fun σ2 ok2 p2 => q σ2 ok2 (p1.trans p2)⟩⟩
  · cases hm
theorem Rps.lenE {n : Nat} {ds : List D} {vs : List V} (r : Rps K F ds vs) (h : ds.length = n) : vs.length = n := by rw [r.length, h]
/-- the length is asked as the machine asks it: of the tuple -/
def tupNT (n : Nat) (t : List D → Rho → Option Rho) : D → Rho → Option Rho := fun d ρ => match d with
  | .tuple ds => if ds.length = n then t ds ρ else none
  | _ => none
theorem g_tup {es : List Expr} {k n : Nat} {t : List D → Rho → Option Rho} (hc : X.calm = true) (h : PGs X es (rdGs X.K pr t))
    (hn : (assignEach es X.env).length = n := by rfl) (hst : (assignEach es X.env).findIdx? (·.1) = none := by rfl) : PG X (.Tuple es k pos) (rdG X.K pr (tupNT n t)) := pg_imp (pg_tup hc h hn hst) fun v σ H Q h => by
  obtain ⟨F, G, ρ, d, ρ', ok, r, hm, q⟩ := h
  unfold tupNT at hm
  split at hm
  · split at hm
    · rename_i ds hl
      obtain ⟨a, vs, rfl, h1, h2⟩ := r
      exact ⟨a, vs, rfl, Same.seqT ok.sub h1, h2.lenE hl, F, G, ρ, ds, ρ', ok, h2, hm, q⟩
    · cases hm
  · cases hm
def asgM (m : M D) (t : D → Rho → Option Rho) : MS := bnd m fun d => fun ρ => (t d ρ).map fun ρ' => (.nx, ρ')
theorem asg_some {m : M D} {t : D → Rho → Option Rho} {ρ ρ' : Rho} {fl : Fl} (h : asgM m t ρ = some (fl, ρ')) : ∃ d ρ1, m ρ = some (d, ρ1) ∧ t d ρ1 = some ρ' ∧ fl = .nx := by
  obtain ⟨d, ρ1, h1, h2⟩ := bnd_some h
  have h2 : (t d ρ1).map (fun ρ' => (Fl.nx, ρ')) = some (fl, ρ') := h2
  cases ht : t d ρ1 with
  | none => rw [ht] at h2; cases h2
  | some ρ2 => rw [ht] at h2; cases h2; exact ⟨d, ρ1, h1, ht, rfl⟩
theorem s_asg {tg : Expr} {m : M D} {t : D → Rho → Option Rho} (he : PE X e (rdV X.K m)) (hg : PG X tg (rdG X.K pr t)) (hs : swapsWithSole [tg] e pos.line X.env = pure false := by rfl) (hw : swappedStores [tg] e X.env = pure none := by rfl)
    (h1 : (assignEach [tg] X.env).map (·.2) = [assign tg X.env] := by rfl) : PS X (.Assign [tg] e pos) (rdS X.K pr (asgM m t)) := ps_imp (ps_asg he hg hs hw h1) fun E σ H h => by
  obtain ⟨F, G, ρ, fl, ρ', ok, hm, w⟩ := h
  obtain ⟨d, ρ1, h1, h2, rfl⟩ := asg_some hm
  exact ⟨F, G, ρ, d, ρ1, ok, h1, fun v F1 H1 s1 ok1 r1 => ⟨F1, G, ρ1, d, ρ', ok1, r1, h2, fun σ2 ok2 p2 => w σ2 F1 H1 s1 ok2 p2⟩⟩
def setNM (i : Nat) (m : M Own) : MS := bnd m fun b => fun ρ => some (.nx, ρ.set i (.o b))
theorem s_set (i : Nat) {x : Str} {m : M D} {pos' : Pos} (hp : i ∉ pr) (hN : X.N.Nodup) (hi : X.N[i]? = some x) (hx : Loc X.env.scope x) (he : PE X e (rdV X.K m)) (hs : swapsWith e (some (.Name x pos')) pos.line X.env = pure false := by rfl) (hf : X.fn x = true ∨ X.env.scope.names.lookup x = some .local := by first | exact .inl rfl | exact .inr rfl | assumption) :
    PS X (.Assign [.Name x pos'] e pos) (rdS X.K pr (asgM m (nameT i))) := ps_imp (ps_set hN hi hx he hs hf) fun E σ H h => by
  obtain ⟨F, G, ρ, fl, ρ', ok, hm, w⟩ := h
  obtain ⟨d, ρ1, h1, h2, rfl⟩ := asg_some hm
  cases h2
  exact ⟨F, G, ρ, d, ρ1, ok, h1, fun v F1 H1 s1 ok1 r1 => w _ F1 H1 s1 (ok1.putV r1) (Pr.set hp)⟩
theorem s_setN (i : Nat) {x : Str} {m : M Own} {pos' : Pos} (hp : i ∉ pr) (hN : X.N.Nodup) (hi : X.N[i]? = some x) (hx : Loc X.env.scope x) (he : PE X e (rdN X.K m)) (hs : swapsWith e (some (.Name x pos')) pos.line X.env = pure false := by rfl) (hf : X.fn x = true ∨ X.env.scope.names.lookup x = some .local := by first | exact .inl rfl | exact .inr rfl | assumption) :
    PS X (.Assign [.Name x pos'] e pos) (rdS X.K pr (setNM i m)) := ps_imp (ps_set hN hi hx he hs hf) fun E σ H h => by
  obtain ⟨F, G, ρ, fl, ρ', ok, hm, w⟩ := h
  obtain ⟨d, ρ1, h1, h2⟩ := bnd_some hm
  cases h2
  exact ⟨F, G, ρ, d, ρ1, ok, h1, fun p F1 H1 s1 ok1 n1 o1 => w _ F1 H1 s1 (ok1.putO n1 o1) (Pr.set hp)⟩
/-- a, b = x, y -/
def parM (i j : Nat) (m n : M D) : MS := bnd m fun d => bnd n fun e => fun ρ => some (.nx, (ρ.set i (.v d)).set j (.v e))
theorem s_par (i j : Nat) {x y : Str} {a b : Expr} {m n : M D} {px py pt : Pos} {kt k2 : Nat} {pt2 : Pos} (hpi : i ∉ pr) (hpj : j ∉ pr) (hc : X.calm = true) (hN : X.N.Nodup) (hi : X.N[i]? = some x) (hj : X.N[j]? = some y) (hij : i ≠ j)
    (hx : X.env.scope.names.lookup x = some .local) (hy : X.env.scope.names.lookup y = some .local) (ha : PE X a (rdV X.K m)) (hb : PE X b (rdV X.K n))
    (hw : swappedStores [.Tuple [.Name x px, .Name y py] kt pt] (.Tuple [a, b] k2 pt2) X.env = pure (some [x, y]) := by rfl)
    (hs : swapsWithSole [.Tuple [.Name x px, .Name y py] kt pt] (.Tuple [a, b] k2 pt2) pos.line X.env = pure false := by rfl) (hsa : starEach [a, b] X.env = (false, eval a X.env) :: starEach [b] X.env := by rfl) (hsb : starEach [b] X.env = (false, eval b X.env) :: starEach [] X.env := by rfl) :
    PS X (.Assign [.Tuple [.Name x px, .Name y py] kt pt] (.Tuple [a, b] k2 pt2) pos) (rdS X.K pr (parM i j m n)) := ps_imp (ps_par hc hN hi hj hij hx hy (pa_cons ha (pa_cons hb pa_nil hsb) hsa) hw hs) fun E σ H h => by
  obtain ⟨F, G, ρ, fl, ρ', ok, hm, w⟩ := h
  obtain ⟨d, ρ1, h1, h2⟩ := bnd_some hm
  obtain ⟨d2, ρ2, h3, h4⟩ := bnd_some h2
  cases h4
  refine ⟨F, G, ρ, d, ρ1, ok, h1, fun v F1 H1 s1 ok1 r1 => ⟨F1, G, ρ1, d2, ρ2, ok1, h3, fun v2 F2 H2 s2 ok2 r2 => ⟨v, v2, rfl, ?_⟩⟩⟩
  exact w _ F2 H2 (s1.trans s2) ((ok2.putV (Rp.mono s2 _ _ r1)).putV r2) ((Pr.set hpi).trans (Pr.set hpj))
/-- x op= e, ints -/
def augM (i : Nat) (f : Int → Int → Int) (m : M D) : MS := fun ρ => match ρ[i]? with
  | some (.v (.int a)) => bnd m (fun d => match d with
    | .int b => fun ρ => some (.nx, ρ.set i (.v (.int (f a b))))
    | _ => fun _ => none) ρ
  | _ => none
theorem s_aug (i : Nat) {x : Str} {m : M D} {op : Operator} {f : Int → Int → Int} {pos' : Pos} (hp : i ∉ pr) (hN : X.N.Nodup) (hi : X.N[i]? = some x) (hx : Loc X.env.scope x) (he : PE X e (rdV X.K m)) (ho : PIp X op (ipI f)) (hf : X.fn x = true ∨ X.env.scope.names.lookup x = some .local := by first | exact .inl rfl | exact .inr rfl | assumption) :
    PS X (.AugAssign (.Name x pos') op e pos) (rdS X.K pr (augM i f m)) := ps_imp (ps_aug hN hi hx he ho hf) fun E σ H h => by
  obtain ⟨F, G, ρ, fl, ρ', ok, hm, w⟩ := h
  unfold augM at hm
  split at hm
  · rename_i a ha
    obtain ⟨d, ρ1, h1, h2⟩ := bnd_some hm
    cases d with
    | int b =>
      cases h2
      obtain ⟨v, hv, rv⟩ := ok.val i _ ha
      cases (show v = _ from rv)
      refine ⟨_, hv, F, G, ρ, .int b, ρ1, ok, h1, fun v F1 H1 s1 ok1 r1 => ⟨a, b, rfl, r1, ?_⟩⟩
      exact w _ F1 H1 s1 (ok1.putV rfl) (Pr.set hp)
    | _ => cases h2
  · cases hm
/-- slot i is own -/
def ownM (i : Nat) : M Unit := fun ρ => match ρ[i]? with
  | some (.o _) => some ((), ρ)
  | _ => none
theorem own_some {i : Nat} {ρ ρ' : Rho} {u : Unit} (h : ownM i ρ = some (u, ρ')) : ρ' = ρ ∧ ∃ b, ρ[i]? = some (.o b) := by
  unfold ownM at h
  split at h
  · rename_i b hb
    cases h
    exact ⟨rfl, b, hb⟩
  · cases h
/-- own[i] = e, own a list -/
def putL (i : Nat) (d k : D) : MS := fun ρ => match ρ[i]?, k with
  | some (.o (.lst xs)), .int k => (match ixN xs.length k with
    | some j => some (.nx, ρ.set i (.o (.lst (xs.set j d))))
    | none => none)
  | _, _ => none
def setItM (i : Nat) (m n : M D) : MS := bnd m fun d => bnd (ownM i) fun _ => bnd n fun k => putL i d k
theorem s_setIt (i : Nat) {x : Str} {ix : Expr} {m n : M D} {px p2 : Pos} (he : PE X e (rdV X.K m)) (hn : PE X ix (rdV X.K n)) (hN : X.N[i]? = some x := by rfl) (hv : Vis X.env.scope x := by first | exact Or.inl rfl | exact Or.inr (Or.inl rfl) | exact Or.inr (Or.inr rfl)) (hd : (x == ("__debug__" : Str)) = false := by decide)
    (hcd : (x == ("__classdict__" : Str)) = false := by decide)
    (ha : ∀ v, assign (.Subscript (.Name x px) ix p2) X.env v = (do
      let ov ← holding [v] (eval (.Name x px) X.env)
      let iv ← holding [v, ov] (eval ix X.env)
      standAt p2
      holding [v, ov, iv] (setItem ov iv v)
      release [v, ov, iv] []) := by intro _; rfl)
    (hs : swapsWithSole [.Subscript (.Name x px) ix p2] e pos.line X.env = pure false := by rfl) (hw : swappedStores [.Subscript (.Name x px) ix p2] e X.env = pure none := by rfl)
    (h1 : (assignEach [.Subscript (.Name x px) ix p2] X.env).map (·.2) = [assign (.Subscript (.Name x px) ix p2) X.env] := by rfl) :
    PS X (.Assign [.Subscript (.Name x px) ix p2] e pos) (rdS X.K pr (setItM i m n)) := ps_imp (ps_asg he (pg_sub (pe_var (i := i) hN hv hd hcd) hn set_list ha) hs hw h1) fun E σ H h => by
  obtain ⟨F, G, ρ, fl, ρ', ok, hm, w⟩ := h
  obtain ⟨d, ρ1, h1, h2⟩ := bnd_some hm
  obtain ⟨u, ρ2, h3, h4⟩ := bnd_some h2
  obtain ⟨rfl, b, hb⟩ := own_some h3
  obtain ⟨k, ρ3, h5, h6⟩ := bnd_some h4
  refine ⟨F, G, ρ, d, ρ2, ok, h1, fun v F1 H1 s1 ok1 r1 => ?_⟩
  obtain ⟨p, hp, _, _, _⟩ := ok1.own i b hb
  refine ⟨.ref p, hp, F1, G, ρ2, k, ρ3, ok1, h5, fun kv F2 H2 s2 ok2 r2 => ?_⟩
  unfold putL at h6
  split at h6
  · rename_i xs k hx
    split at h6
    · rename_i j hj
      cases h6
      obtain ⟨q, hq, f2, g2, vs, h7, h8⟩ := ok2.own i _ hx
      rw [hp] at hq
      cases hq
      cases (show kv = _ from r2)
      have hl : vs.length = xs.length := h8.length
      refine ⟨p, vs, k, j, rfl, rfl, h7, by rw [hl]; exact hj, ?_⟩
      exact w σ F2 _ (s1.trans s2) (ok2.turn hx hp ⟨_, upd_same, Rps.set (Rp.mono s2 _ _ r1) j h8⟩) Pr.refl
    · cases h6
  · cases h6
/-- own[i] op= e -/
theorem pget_list : PGet X (rIxL X.K) := by
  intro pins s σ H x y v u Q I rx ry h
  obtain ⟨p, xs, i, z, rfl, rfl, hq, he, q⟩ := h
  cases rx
  obtain ⟨t, rfl⟩ := ry
  obtain ⟨its, r, pl, hz⟩ := I.list hq
  obtain ⟨j, h1, h2, h3, h4, h5⟩ := atI_get he
  obtain ⟨w, ew, rw'⟩ := r.get h2
  have hl := r.length
  have hn := line63
  have fin : EP X pins σ Q w s := ⟨z, H, I, rw', q⟩
  by_cases h0 : 0 ≤ i
  · have hj : i.toNat = j := by
      rw [seqIndex_of h0 h5] at h1
      exact Option.some.inj h1
    exact wpAny_getItem_list pl.isList h0 (by omega) (by rw [hj]; simpa using ew) fin
  · have hj : (i + (its.toArray.size : Int)).toNat = j := by
      rw [seqIndex_neg (by omega) h4] at h1
      rw [List.size_toArray, ← hl]
      exact Option.some.inj h1
    exact wpAny_getItem_list_neg pl.isList (by omega) (by rw [List.size_toArray] <;> omega) (by omega) (by rw [hj]; simpa using ew) fin
def augIt (i : Nat) (f : Int → Int → Int) (k : D) (m : M D) : MS := fun ρ => match ρ[i]?, k with
  | some (.o (.lst xs)), .int k => (match atI xs k with
    | some (.int a) => bnd m (fun d => match d with
      | .int b => putL i (.int (f a b)) (.int k)
      | _ => fun _ => none) ρ
    | _ => none)
  | _, _ => none
def augItM (i : Nat) (f : Int → Int → Int) (n m : M D) : MS := bnd (ownM i) fun _ => bnd n fun k => augIt i f k m
theorem s_augIt (i : Nat) {x : Str} {ix : Expr} {m n : M D} {px p2 : Pos} {op : Operator} {f : Int → Int → Int} (hn : PE X ix (rdV X.K n)) (he : PE X e (rdV X.K m)) (ho : PIp X op (ipI f)) (hN : X.N[i]? = some x := by rfl) (hv : Vis X.env.scope x := by first | exact Or.inl rfl | exact Or.inr (Or.inl rfl) | exact Or.inr (Or.inr rfl)) (hd : (x == ("__debug__" : Str)) = false := by decide)
    (hcd : (x == ("__classdict__" : Str)) = false := by decide)
    (ha : ∀ ov iv new, augStore ix ov iv new = (do holding [new, ov, iv] (setItem ov iv new); release [new, ov, iv] []; pure .next) := by intros; rfl) :
    PS X (.AugAssign (.Subscript (.Name x px) ix p2) op e pos) (rdS X.K pr (augItM i f n m)) := ps_imp (ps_augS (pe_var (i := i) hN hv hd hcd) hn pget_list he ho set_list ha) fun E σ H h => by
  obtain ⟨F, G, ρ, fl, ρ', ok, hm, w⟩ := h
  obtain ⟨u, ρ2, h3, h4⟩ := bnd_some hm
  obtain ⟨rfl, b, hb⟩ := own_some h3
  obtain ⟨k, ρ3, h5, h6⟩ := bnd_some h4
  obtain ⟨p, hp, _, _, _⟩ := ok.own i b hb
  refine ⟨.ref p, hp, F, G, ρ2, k, ρ3, ok, h5, fun kv F2 H2 s2 ok2 r2 => ?_⟩
  unfold augIt at h6
  split at h6
  · rename_i xs k hx
    split at h6
    · rename_i a hj
      obtain ⟨d, ρ4, h7, h8⟩ := bnd_some h6
      obtain ⟨q, hq, f2, g2, vs, h9, h10⟩ := ok2.own i _ hx
      rw [hp] at hq
      cases hq
      cases (show kv = _ from r2)
      obtain ⟨z, hz, rz⟩ := h10.at hj
      cases (show z = _ from rz)
      refine ⟨p, vs, k, _, rfl, rfl, SqL.of h9, hz, F2, G, ρ3, d, ρ4, ok2, h7, fun v F3 H3 s3 ok3 r3 => ?_⟩
      cases d with
      | int b =>
        cases (show v = _ from r3)
        refine ⟨a, b, rfl, rfl, ?_⟩
        have h8 : putL i (.int (f a b)) (.int k) ρ4 = some (fl, ρ') := h8
        unfold putL at h8
        split at h8
        · rename_i xs2 k2 hx2 hk2
          cases hk2
          split at h8
          · rename_i j hj2
            cases h8
            obtain ⟨q, hq, f3, g3, vs3, h11, h12⟩ := ok3.own i _ hx2
            rw [hp] at hq
            cases hq
            refine ⟨p, vs3, k, j, rfl, rfl, h11, by rw [h12.length]; exact hj2, ?_⟩
            exact w σ F3 _ (s2.trans s3) (ok3.turn hx2 hp ⟨_, upd_same, Rps.set (d := .int (f a b)) (v := .int (f a b)) rfl j h12⟩) Pr.refl
          · cases h8
        · cases h8
      | _ => cases h8
    · cases h6
  · cases h6
end
end Fx
/-! Fx: loops, comprehensions. -/
namespace Fx
open PySem PySem.Spec PyProof.Rows L2
/-- the iterator J gives xs, one by one -/
def Feed (K : Kf) (J : It) (F : Hp) (xs : List D) : Prop := ∀ (i : Nat) (F0 H : Hp), Same F F0 → Same F0 H →
  (∀ d, xs[i]? = some d → J.go i H ∧ ∀ x H', J.yld i H x H' → ∃ F', Same F0 F' ∧ Same F' H' ∧ Same H H' ∧ (∀ a o, F' a = some o → F0 a = some o ∨ H a = none) ∧ Rp K F' d x) ∧ (i = xs.length → J.stop i H)
def rdI (K : Kf) (m : M (List D)) : TI := fun σ H R => ∃ F G ρ xs ρ', Ok K F G H σ ρ ∧ m ρ = some (xs, ρ') ∧ ∀ J F' H', Same F F' → Ok K F' G H' σ ρ' → Feed K J F' xs → R J H'
section
variable {X : Cx} {K : Kf} {pr : List Nat} {F F' G H H' : Hp} {σ σ' : L2.St} {ρ ρ' : Rho} {E : Ends} {tg e : Expr}
theorem pi_imp {t t' : TI} (h : PI X tg e t) (i : ∀ σ H R, t' σ H R → t σ H R) : PI X tg e t' := ⟨fun pins s σ H R I q => h.run pins s σ H R I (i σ H R q)⟩
theorem pi_or {t t' : TI} (h : PI X tg e t) (h' : PI X tg e t') : PI X tg e (fun σ H R => t σ H R ∨ t' σ H R) := ⟨fun pins s σ H R I q => q.elim (fun z => h.run pins s σ H R I z) fun z => h'.run pins s σ H R I z⟩
/-! ### what is walked -/
theorem feed_list {a : Addr} {xs : List D} {vs : List V} (h : SqL K F a vs) (r : Rps K F xs vs) (hinj : ∀ (F0 H : Hp) (ys : List V), Same F F0 → Same F0 H → SqL K H a ys → ys = vs) : Feed K (Itl K a) F xs := fun i F0 H s t => by
  have q : SqL K H a vs := (s.trans t).seq h
  refine ⟨fun d hd => ?_, fun e => ⟨vs, q, by rw [r.length]; omega⟩⟩
  obtain ⟨v, hv, rv⟩ := r.get hd
  refine ⟨⟨vs, v, q, hv⟩, fun x H' y => ?_⟩
  obtain ⟨rfl, y⟩ := y
  have e : v = x := Option.some.inj (hv.symm.trans (y vs q))
  subst e
  exact ⟨F0, Same.refl _, t, Same.refl _, fun a o h => .inl h, Rp.mono s _ _ rv⟩
theorem feed_list' {a : Addr} {xs : List D} {vs : List V} (h : SqL K F a vs) (r : Rps K F xs vs) : Feed K (Itl K a) F xs := fun i F0 H s t => by
  have q : SqL K H a vs := (s.trans t).seq h
  refine ⟨fun d hd => ?_, fun e => ⟨vs, q, by rw [r.length]; omega⟩⟩
  obtain ⟨v, hv, rv⟩ := r.get hd
  refine ⟨⟨vs, v, q, hv⟩, fun x H' y => ?_⟩
  obtain ⟨rfl, y⟩ := y
  have e : v = x := Option.some.inj (hv.symm.trans (y vs q))
  subst e
  exact ⟨F0, Same.refl _, t, Same.refl _, fun a o h => .inl h, Rp.mono s _ _ rv⟩
theorem feed_tup {a : Addr} {xs : List D} {vs : List V} (h : SqT K F a vs) (r : Rps K F xs vs) : Feed K (Itt K a) F xs := fun i F0 H s t => by
  have q : SqT K H a vs := Same.seqT (s.trans t) h
  refine ⟨fun d hd => ?_, fun e => ⟨vs, q, by rw [r.length]; omega⟩⟩
  obtain ⟨v, hv, rv⟩ := r.get hd
  refine ⟨⟨vs, v, q, hv⟩, fun x H' y => ?_⟩
  obtain ⟨rfl, y⟩ := y
  have e : v = x := Option.some.inj (hv.symm.trans (y vs q))
  subst e
  exact ⟨F0, Same.refl _, t, Same.refl _, fun a o h => .inl h, Rp.mono s _ _ rv⟩
def rngL (lo : Int) (n : Nat) : List D := (List.range n).map fun (i : Nat) => PyData.int (lo + i)
theorem feed_rng {lo : Int} {n : Nat} : Feed K (Itr lo n) F (rngL lo n) := fun i F0 H s t => by
  refine ⟨fun d hd => ?_, fun e => ?_⟩
  · unfold rngL at hd
    rw [List.getElem?_map] at hd
    cases hr : (List.range n)[i]? with
    | none => rw [hr] at hd; cases hd
    | some j =>
      rw [hr] at hd
      cases hd
      obtain ⟨hi, hj⟩ := List.getElem?_eq_some_iff.mp hr
      rw [List.length_range] at hi
      rw [List.getElem_range] at hj
      subst hj
      refine ⟨hi, fun x H' y => ?_⟩
      obtain ⟨rfl, rfl⟩ := y
      exact ⟨F0, Same.refl _, t, Same.refl _, fun a o h => .inl h, rfl⟩
  · have : (rngL lo n).length = n := by unfold rngL; rw [List.length_map, List.length_range]
    show n ≤ i
    omega
def signs (s : Str) : List D := s.cps.toList.map fun c => PyData.str ⟨#[c]⟩
theorem feed_str {s : Str} : Feed K (Its s) F (signs s) := fun i F0 H e t => by
  refine ⟨fun d hd => ?_, fun e => ?_⟩
  · unfold signs at hd
    rw [List.getElem?_map, Array.getElem?_toList] at hd
    cases hr : s.cps[i]? with
    | none => rw [hr] at hd; cases hd
    | some c =>
      rw [hr] at hd
      cases hd
      obtain ⟨hi, hj⟩ := Array.getElem?_eq_some_iff.mp hr
      refine ⟨hi, fun x H' y => ?_⟩
      obtain ⟨rfl, c', hc, rfl⟩ := y
      rw [hr] at hc
      cases hc
      exact ⟨F0, Same.refl _, t, Same.refl _, fun a o h => .inl h, rfl⟩
  · have : (signs s).length = s.cps.size := by unfold signs; rw [List.length_map, Array.length_toList]
    show s.cps.size ≤ i
    omega
/-- the items of a list, a tuple, the signs of a text -/
def itemsD : D → Option (List D)
  | .list xs => some xs
  | .tuple xs => some xs
  | .str s => some (signs s)
  | _ => none
def itM (m : M D) : M (List D) := bnd m fun d => lft (itemsD d)
theorem i_seq {m : M D} (h : PE X e (rdV X.K m)) : PI X tg e (rdI X.K (itM m)) := by
  refine pi_imp (pi_or (pi_list h) (pi_or (pi_tup h) (pi_str h))) fun σ H R h => ?_
  obtain ⟨F, G, ρ, xs, ρ', ok, hm, q⟩ := h
  obtain ⟨d, ρ1, h1, h2⟩ := bnd_some hm
  obtain ⟨h3, rfl⟩ := lft_some h2
  unfold itemsD at h3
  split at h3
  · cases h3
    refine .inl ⟨F, G, ρ, _, _, ok, h1, fun v F1 H1 s1 ok1 r1 => ?_⟩
    obtain ⟨a, vs, rfl, h4, h5⟩ := r1
    exact ⟨a, rfl, ⟨vs, SqL.of (ok1.sub _ _ h4)⟩, q _ F1 H1 s1 ok1 (feed_list' (SqL.of h4) h5)⟩
  · cases h3
    refine .inr (.inl ⟨F, G, ρ, _, _, ok, h1, fun v F1 H1 s1 ok1 r1 => ?_⟩)
    obtain ⟨a, vs, rfl, h4, h5⟩ := r1
    exact ⟨a, rfl, ⟨vs, Same.seqT ok1.sub h4⟩, q _ F1 H1 s1 ok1 (feed_tup h4 h5)⟩
  · cases h3
    refine .inr (.inr ⟨F, G, ρ, _, _, ok, h1, fun v F1 H1 s1 ok1 r1 => ?_⟩)
    exact ⟨_, r1, q _ F1 H1 s1 ok1 feed_str⟩
  · cases h3
/-- the script -/
def scrM (i : Nat) : M (List D) := fun ρ => match ρ[i]? with
  | some (.s ns) => some (ns.map PyData.int, ρ)
  | _ => none
theorem i_scr (i : Nat) {x : Str} {pos : Pos} (hN : X.N[i]? = some x := by rfl) (hv : Vis X.env.scope x := by first | exact Or.inl rfl | exact Or.inr (Or.inl rfl) | exact Or.inr (Or.inr rfl)) (hd : (x == ("__debug__" : Str)) = false := by decide)
    (hcd : (x == ("__classdict__" : Str)) = false := by decide) : PI X tg (.Name x pos) (rdI X.K (scrM i)) := by
  refine pi_imp (pi_list (pe_var (i := i) hN hv hd hcd)) fun σ H R h => ?_
  obtain ⟨F, G, ρ, xs, ρ', ok, hm, q⟩ := h
  unfold scrM at hm
  split at hm
  · rename_i ns hs
    cases hm
    obtain ⟨a, h1, h2⟩ := ok.scr i ns hs
    exact ⟨_, h1, a, rfl, ⟨_, ok.sub.seq h2⟩, q _ F H (Same.refl F) ok (feed_list' h2 (Rps.ints.mpr rfl))⟩
  · cases hm
def rng1M (m : M (List D)) : M (List D) := bnd m fun ds => match ds with
  | [.int n] => if decide (-(2 ^ 62) ≤ n) && decide (n < 2 ^ 62) then ret (rngL 0 n.toNat) else fun _ => none
  | _ => fun _ => none
def rng2M (m : M (List D)) : M (List D) := bnd m fun ds => match ds with
  | [.int a, .int n] => if decide (-(2 ^ 62) ≤ a) && decide (a < 2 ^ 62) && decide (-(2 ^ 62) ≤ n) && decide (n < 2 ^ 62) then ret (rngL a (n - a).toNat) else fun _ => none
  | _ => fun _ => none
theorem i_rng1 {a : Expr} {m : M (List D)} {p pos : Pos} (hg : Gl X "range") (hm : X.mg "range" = none) (ha : PA X [a] (rdA X.K m)) (hs : starEach [a] X.env = [(false, eval a X.env)] := by rfl) : PI X tg (.Call (.Name "range" p) [a] [] pos) (rdI X.K (rng1M m)) := by
  refine pi_imp (pi_range1 hg hm ha hs) fun σ H R h => ?_
  obtain ⟨F, G, ρ, xs, ρ', ok, hm, q⟩ := h
  obtain ⟨ds, ρ1, h1, h2⟩ := bnd_some hm
  refine ⟨F, G, ρ, ds, ρ1, ok, h1, fun vs F1 H1 s1 ok1 r1 => ?_⟩
  split at h2
  · rename_i n
    split at h2
    · rename_i hz
      rw [Bool.and_eq_true] at hz
      cases h2
      obtain ⟨v, r, rfl, h3, h4⟩ := r1
      cases (show v = _ from h3)
      cases (show r = _ from h4)
      exact ⟨n, rfl, of_decide_eq_true hz.1, of_decide_eq_true hz.2, q _ F1 H1 s1 ok1 feed_rng⟩
    · cases h2
  · cases h2
theorem i_rng2 {a b : Expr} {m : M (List D)} {p pos : Pos} (hg : Gl X "range") (hm : X.mg "range" = none) (ha : PA X [a, b] (rdA X.K m)) (hs : starEach [a, b] X.env = [(false, eval a X.env), (false, eval b X.env)] := by rfl) (hs2 : starEach [b] X.env = [(false, eval b X.env)] := by rfl) :
    PI X tg (.Call (.Name "range" p) [a, b] [] pos) (rdI X.K (rng2M m)) := by
  refine pi_imp (pi_range2 hg hm ha hs hs2) fun σ H R h => ?_
  obtain ⟨F, G, ρ, xs, ρ', ok, hm, q⟩ := h
  obtain ⟨ds, ρ1, h1, h2⟩ := bnd_some hm
  refine ⟨F, G, ρ, ds, ρ1, ok, h1, fun vs F1 H1 s1 ok1 r1 => ?_⟩
  split at h2
  · rename_i a n
    split at h2
    · rename_i hz
      rw [Bool.and_eq_true, Bool.and_eq_true, Bool.and_eq_true] at hz
      cases h2
      obtain ⟨v, r, rfl, h3, v2, r2, rfl, h4, h5⟩ := r1
      cases (show v = _ from h3)
      cases (show v2 = _ from h4)
      cases (show r2 = _ from h5)
      exact ⟨a, n, rfl, ⟨of_decide_eq_true hz.1.1.1, of_decide_eq_true hz.1.1.2, of_decide_eq_true hz.1.2, of_decide_eq_true hz.2⟩, q _ F1 H1 s1 ok1 feed_rng⟩
    · cases h2
  · cases h2
/-! ### for -/
def forL (t : D → Rho → Option Rho) (b : MS) : List D → MS
  | [] => ret .nx
  | x :: xs => fun ρ => match t x ρ with
    | some ρ1 => bnd b (fun fl => match fl with
      | .nx => forL t b xs
      | .ct => forL t b xs
      | .bk => ret .nx
      | .rt r => ret (.rt r)) ρ1
    | none => none
def forM (m : M (List D)) (t : D → Rho → Option Rho) (b : MS) : MS := bnd m fun xs => forL t b xs
theorem drop_cons {α : Type} {xs : List α} {i : Nat} (h : i < xs.length) : xs.drop i = xs[i] :: xs.drop (i + 1) := (List.drop_eq_getElem_cons h)
theorem s_for {iter : Expr} {body : List Stmt} {m : M (List D)} {t : D → Rho → Option Rho} {b : MS} {pos : Pos} (hp : PassesOwn (model X.prog X.w) X.A X.env X.xe) (hc : X.calm = true) (hi : PI X tg iter (rdI X.K m)) (hg : PG X tg (rdG X.K pr t)) (hb : PSs X body (rdS X.K pr b))
    (hs : ∀ x, foldedSetIterable iter X.env x = pure x := by intro _; rfl) : PS X (.For tg iter body [] pos) (rdS X.K pr (forM m t b)) := ps_imp (ps_for hp hc hi hg hb hs) fun E σ H h => by
  obtain ⟨F, G, ρ, fl, ρ', ok, hm, w⟩ := h
  obtain ⟨xs, ρ1, h1, h2⟩ := bnd_some hm
  refine ⟨F, G, ρ, xs, ρ1, ok, h1, fun J F1 H1 s1 ok1 feed => ?_⟩
  refine ⟨fun i n σ2 H2 => ∃ F2 ρ2, n + i = xs.length ∧ Same F1 F2 ∧ Ok X.K F2 G H2 σ2 ρ2 ∧ Pr pr σ σ2 ∧ forL t b (xs.drop i) ρ2 = some (fl, ρ'), ⟨xs.length, F1, ρ1, by omega, Same.refl _, ok1, Pr.refl, by rw [List.drop_zero]; exact h2⟩, ?_⟩
  rintro i n σ2 H2 ⟨F2, ρ2, hn, s2, ok2, p2, h3⟩
  obtain ⟨go, stop⟩ := feed i F2 H2 s2 ok2.sub
  by_cases hlt : i < xs.length
  · obtain ⟨hgo, hy⟩ := go xs[i] (List.getElem?_eq_getElem hlt)
    refine .inr ⟨hgo, fun σ' H' => ∃ F3 ρ3, Same F1 F3 ∧ Ok X.K F3 G H' σ' ρ3 ∧ Pr pr σ σ' ∧ forL t b (xs.drop (i + 1)) ρ3 = some (fl, ρ'), fun σ' H' ⟨F3, ρ3, a1, a2, a3, a4⟩ => ⟨n - 1, by omega, F3, ρ3, by omega, a1, a2, a3, a4⟩, fun x H' y => ?_⟩
    obtain ⟨F3, s3, t3, u3, n3, r3⟩ := hy x H' y
    have ok3 := ok2.ge s3 t3 u3 n3
    rw [drop_cons hlt] at h3
    have h3 : (match t xs[i] ρ2 with
      | some ρ1 => bnd b (fun fl => match fl with
        | .nx => forL t b (xs.drop (i + 1))
        | .ct => forL t b (xs.drop (i + 1))
        | .bk => ret .nx
        | .rt r => ret (.rt r)) ρ1
      | none => none) = some (fl, ρ') := h3
    split at h3
    · rename_i ρ3 ht
      obtain ⟨f, ρ4, h4, h5⟩ := bnd_some h3
      refine ⟨F3, G, ρ2, xs[i], ρ3, ok3, r3, ht, fun σ3 ok4 p3 => ⟨F3, G, ρ3, f, ρ4, ok4, h4, ?_⟩⟩
      have sA : Same F1 F3 := s2.trans s3
      cases f with
      | nx => exact fun σ5 F5 H5 s5 ok5 p5 => ⟨F5, ρ4, sA.trans s5, ok5, (p2.trans p3).trans p5, h5⟩
      | ct => exact fun σ5 F5 H5 s5 ok5 p5 => ⟨F5, ρ4, sA.trans s5, ok5, (p2.trans p3).trans p5, h5⟩
      | bk =>
        cases h5
        exact fun σ5 F5 H5 s5 ok5 p5 => w σ5 F5 H5 ((s1.trans sA).trans s5) ok5 ((p2.trans p3).trans p5)
      | rt r =>
        cases h5
        have w2 := w.step (s1.trans sA) (p2.trans p3)
        cases r with
        | v d => exact w2
        | o b => exact w2
        | u => exact w2
        | s _ => exact w2
    · cases h3
  · have e : i = xs.length := by omega
    subst e
    rw [List.drop_of_length_le (Nat.le_refl _)] at h3
    cases h3
    exact .inl ⟨stop rfl, w σ2 F2 H2 (s1.trans s2) ok2 p2⟩
/-! ### while -/
def whN (c : M Bool) (b : MS) : Nat → MS
  | 0 => fun _ => none
  | n + 1 => bnd c fun k => if k then bnd b (fun fl => match fl with
      | .nx => whN c b n
      | .ct => whN c b n
      | .bk => ret .nx
      | .rt r => ret (.rt r)) else ret .nx
open Classical in
noncomputable def whileM (c : M Bool) (b : MS) : MS := fun ρ => if h : ∃ n r, whN c b n ρ = some r then some (Classical.choose (Classical.choose_spec h)) else none
theorem whN_mono {c : M Bool} {b : MS} : ∀ {n : Nat} {ρ : Rho} {r : Fl × Rho}, whN c b n ρ = some r → whN c b (n + 1) ρ = some r
  | 0, _, _, h => by cases h
  | n + 1, ρ, r, h => by
    obtain ⟨k, ρ1, h1, h2⟩ := bnd_some h
    refine (bnd_eq h1).trans ?_
    cases k with
    | false => exact h2
    | true =>
      obtain ⟨f, ρ2, h3, h4⟩ := bnd_some h2
      refine (bnd_eq h3).trans ?_
      cases f with
      | nx => exact whN_mono (n := n) h4
      | ct => exact whN_mono (n := n) h4
      | bk => exact h4
      | rt r => exact h4
theorem whN_le {c : M Bool} {b : MS} {n m : Nat} (hm : n ≤ m) {ρ : Rho} {r : Fl × Rho} (h : whN c b n ρ = some r) : whN c b m ρ = some r := by
  induction hm with
  | refl => exact h
  | step _ ih => exact whN_mono ih
theorem whileM_some {c : M Bool} {b : MS} {ρ : Rho} {r : Fl × Rho} : whileM c b ρ = some r ↔ ∃ n, whN c b n ρ = some r := by
  unfold whileM
  constructor
  · intro h
    split at h
    · rename_i hx
      have q := Classical.choose_spec (Classical.choose_spec hx)
      cases h
      exact ⟨_, q⟩
    · cases h
  · rintro ⟨n, h⟩
    have hx : ∃ n r, whN c b n ρ = some r := ⟨n, r, h⟩
    rw [dif_pos hx]
    have q := Classical.choose_spec (Classical.choose_spec hx)
    have q1 := whN_le (Nat.le_max_left n (Classical.choose hx)) h
    have q2 := whN_le (Nat.le_max_right n (Classical.choose hx)) q
    rw [q1] at q2
    exact congrArg some (Option.some.inj q2).symm
/-- one turn of a while -/
theorem whileM_eq (c : M Bool) (b : MS) : whileM c b = bnd c fun k => if k then bnd b (fun fl => match fl with
      | .nx => whileM c b
      | .ct => whileM c b
      | .bk => ret .nx
      | .rt r => ret (.rt r)) else ret .nx := by
  funext ρ
  have key : ∀ r : Fl × Rho, whileM c b ρ = some r ↔ (bnd c fun k => if k then bnd b (fun fl => match fl with
      | .nx => whileM c b
      | .ct => whileM c b
      | .bk => ret .nx
      | .rt r => ret (.rt r)) else ret .nx) ρ = some r := fun r => by
    rw [whileM_some]
    constructor
    · rintro ⟨n, h⟩
      cases n with
      | zero => cases h
      | succ n =>
        obtain ⟨k, ρ1, h1, h2⟩ := bnd_some h
        rw [bnd_eq h1]
        cases k with
        | false => exact h2
        | true =>
          obtain ⟨f, ρ2, h3, h4⟩ := bnd_some h2
          refine (bnd_eq h3).trans ?_
          cases f with
          | nx => exact whileM_some.mpr ⟨n, h4⟩
          | ct => exact whileM_some.mpr ⟨n, h4⟩
          | bk => exact h4
          | rt r => exact h4
    · intro h
      obtain ⟨k, ρ1, h1, h2⟩ := bnd_some h
      cases k with
      | false =>
        exact ⟨1, (bnd_eq h1).trans h2⟩
      | true =>
        obtain ⟨f, ρ2, h3, h4⟩ := bnd_some h2
        have mk : ∀ n, (bnd b (fun fl => match fl with
            | .nx => whN c b n
            | .ct => whN c b n
            | .bk => ret .nx
            | .rt r => ret (.rt r)) ρ1 = some r) → whN c b (n + 1) ρ = some r := fun n q => by
          exact (bnd_eq h1).trans q
        have st : ∀ n, bnd b (fun fl => match fl with
            | .nx => whN c b n
            | .ct => whN c b n
            | .bk => ret .nx
            | .rt r => ret (.rt r)) ρ1 = (match f with
            | .nx => whN c b n
            | .ct => whN c b n
            | .bk => ret .nx
            | .rt r => ret (.rt r)) ρ2 := fun n => bnd_eq h3
        cases f with
        | nx =>
          obtain ⟨n, h5⟩ := whileM_some.mp h4
          exact ⟨n + 1, mk n (by rw [st]; exact h5)⟩
        | ct =>
          obtain ⟨n, h5⟩ := whileM_some.mp h4
          exact ⟨n + 1, mk n (by rw [st]; exact h5)⟩
        | bk => exact ⟨1, mk 0 (by rw [st]; exact h4)⟩
        | rt q => exact ⟨1, mk 0 (by rw [st]; exact h4)⟩
  cases h : whileM c b ρ with
  | some r => exact ((key r).mp h).symm
  | none =>
    cases h2 : (bnd c fun k => if k then bnd b (fun fl => match fl with
      | .nx => whileM c b
      | .ct => whileM c b
      | .bk => ret .nx
      | .rt r => ret (.rt r)) else ret .nx) ρ with
    | none => rfl
    | some r =>
      have := (key r).mpr h2
      rw [h] at this
      cases this
theorem s_while {c : Expr} {body : List Stmt} {mc : M Bool} {b : MS} {pos : Pos} (hp : PassesOwn (model X.prog X.w) X.A X.env X.xe) (hc : PT X c (rdT X.K mc)) (hb : PSs X body (rdS X.K pr b)) : PS X (.While c body [] pos) (rdS X.K pr (whileM mc b)) := ps_imp (ps_while hp hc hb) fun E σ H h => by
  obtain ⟨F, G, ρ, fl, ρ', ok, hm, w⟩ := h
  obtain ⟨n, hn⟩ := whileM_some.mp hm
  refine ⟨fun n σ2 H2 => ∃ F2 ρ2, Same F F2 ∧ Ok X.K F2 G H2 σ2 ρ2 ∧ Pr pr σ σ2 ∧ whN mc b n ρ2 = some (fl, ρ'), ⟨n, F, ρ, Same.refl _, ok, Pr.refl, hn⟩, ?_⟩
  rintro n σ2 H2 ⟨F2, ρ2, s2, ok2, p2, h3⟩
  cases n with
  | zero => cases h3
  | succ n =>
    obtain ⟨k, ρ3, h4, h5⟩ := bnd_some h3
    refine ⟨F2, G, ρ2, k, ρ3, ok2, h4, fun F3 H3 s3 ok3 => ?_⟩
    cases k with
    | false =>
      cases h5
      exact iteF (w σ2 F3 H3 (s2.trans s3) ok3 p2)
    | true =>
      obtain ⟨f, ρ4, h6, h7⟩ := bnd_some h5
      refine iteT ⟨fun σ' H' => ∃ F5 ρ5, Same F F5 ∧ Ok X.K F5 G H' σ' ρ5 ∧ Pr pr σ σ' ∧ whN mc b n ρ5 = some (fl, ρ'), fun σ' H' q => ⟨n, Nat.lt_succ_self n, q⟩, F3, G, ρ3, f, ρ4, ok3, h6, ?_⟩
      have sA := s2.trans s3
      cases f with
      | nx => exact fun σ5 F5 H5 s5 ok5 p5 => ⟨F5, ρ4, sA.trans s5, ok5, p2.trans p5, h7⟩
      | ct => exact fun σ5 F5 H5 s5 ok5 p5 => ⟨F5, ρ4, sA.trans s5, ok5, p2.trans p5, h7⟩
      | bk =>
        cases h7
        exact fun σ5 F5 H5 s5 ok5 p5 => w σ5 F5 H5 (sA.trans s5) ok5 (p2.trans p5)
      | rt r =>
        cases h7
        have w2 := w.step sA p2
        cases r with
        | v d => exact w2
        | o b => exact w2
        | u => exact w2
        | s _ => exact w2
end
end Fx
/-! Fx: comprehensions, calls, defs. -/
namespace Fx
open PySem PySem.Spec PyProof.Rows L2
/-! ### comprehensions -/
def wipeR (ρ : Rho) : List Nat → Rho
  | [] => ρ
  | v :: vs => (wipeR ρ vs).set v .u
def wipeM (vs : List Nat) : M Unit := fun ρ => some ((), wipeR ρ vs)
theorem wipeR_len (ρ : Rho) : ∀ vs : List Nat, (wipeR ρ vs).length = ρ.length
  | [] => rfl
  | v :: vs => by unfold wipeR; rw [List.length_set, wipeR_len ρ vs]
theorem wipeR_in {ρ : Rho} {i : Nat} : ∀ {vs : List Nat}, i ∈ vs → i < ρ.length → (wipeR ρ vs)[i]? = some .u
  | [], h, _ => by cases h
  | v :: vs, h, hl => by
    unfold wipeR
    by_cases e : v = i
    · subst e
      exact List.getElem?_set_self (by rw [wipeR_len]; exact hl)
    · rw [List.getElem?_set_ne e]
      exact wipeR_in ((List.mem_cons.mp h).resolve_left fun z => e z.symm) hl
theorem wipeR_out {ρ : Rho} {i : Nat} : ∀ {vs : List Nat}, i ∉ vs → (wipeR ρ vs)[i]? = ρ[i]?
  | [], _ => rfl
  | v :: vs, h => by
    unfold wipeR
    rw [List.getElem?_set_ne fun e => h (by rw [e]; exact List.mem_cons_self)]
    exact wipeR_out fun z => h (List.mem_cons_of_mem _ z)
theorem wipe_in {σ : L2.St} {i : Nat} : ∀ {vs : List Nat}, i ∈ vs → i < σ.length → (wipe σ vs)[i]? = some none
  | [], h, _ => by cases h
  | v :: vs, h, hl => by
    unfold wipe
    by_cases e : v = i
    · subst e
      exact List.getElem?_set_self (by rw [wipe_length]; exact hl)
    · rw [List.getElem?_set_ne e]
      exact wipe_in ((List.mem_cons.mp h).resolve_left fun z => e z.symm) hl
theorem wipe_out {σ : L2.St} {i : Nat} : ∀ {vs : List Nat}, i ∉ vs → (wipe σ vs)[i]? = σ[i]?
  | [], _ => rfl
  | v :: vs, h => by
    unfold wipe
    rw [List.getElem?_set_ne fun e => h (by rw [e]; exact List.mem_cons_self)]
    exact wipe_out fun z => h (List.mem_cons_of_mem _ z)
def prC (n : Nat) (vs : List Nat) : List Nat := (List.range n).filter fun i => decide (i ∉ vs)
theorem wipe_pr {σ σ' : L2.St} {vs : List Nat} {n : Nat} (hn : σ.length = n) (h : Pr (prC n vs) (wipe σ vs) σ') : wipe σ' vs = wipe σ vs := by
  have hl : σ'.length = σ.length := by rw [h.1, wipe_length]
  apply List.ext_getElem?
  intro i
  by_cases hi : i < σ.length
  · by_cases hv : i ∈ vs
    · rw [wipe_in hv hi, wipe_in hv (by omega)]
    · rw [wipe_out hv]
      exact h.2 i (List.mem_filter.mpr ⟨List.mem_range.mpr (by omega), decide_eq_true hv⟩)
  · rw [List.getElem?_eq_none (by rw [wipe_length]; omega), List.getElem?_eq_none (by rw [wipe_length]; omega)]
def lcL (vs : List Nat) (t : D → Rho → Option Rho) (c : M Bool) (e : M D) : List D → M (List D)
  | [] => ret []
  | x :: xs => fun ρ => match t x ρ with
    | some ρ1 => bnd c (fun k => if k then bnd e fun d => bnd (wipeM vs) fun _ => bnd (lcL vs t c e xs) fun ds => ret (d :: ds) else bnd (wipeM vs) fun _ => lcL vs t c e xs) ρ1
    | none => none
def lcM (m : M (List D)) (vs : List Nat) (t : D → Rho → Option Rho) (c : M Bool) (e : M D) : M Own := bnd m fun xs => bnd (wipeM vs) fun _ => bnd (lcL vs t c e xs) fun ds => if fitS ds.length then ret (.lst ds) else fun _ => none
section
variable {K : Kf} {pr : List Nat} {F F' G H H' : Hp} {σ σ' : L2.St} {ρ ρ' : Rho} {E : Ends}
/-- the hidden object at p changes -/
theorem Ok.ghost {p : Addr} {o o' : HO} (ok : Ok K F (upd G p o) H σ ρ) : Ok K F (upd G p o') (upd H p o') σ ρ := by
  have fp : F p = none := ok.disj p o upd_same
  have hp : H p = some o := ok.gsub p o upd_same
  refine ⟨fun a u h => ?_, fun a u h => ?_, fun a u h => ?_, ok.len, ok.val, fun i b h => ?_, ok.scr, ok.apart⟩
  · rw [upd_ne (ne_of_none h fp)]
    exact ok.sub _ _ h
  · by_cases e : a = p
    · subst e
      rw [upd_same] at h ⊢
      exact h
    · rw [upd_ne e] at h ⊢
      exact ok.gsub _ _ (by rw [upd_ne e]; exact h)
  · by_cases e : a = p
    · rw [e]; exact fp
    · rw [upd_ne e] at h
      exact ok.disj _ _ (by rw [upd_ne e]; exact h)
  · obtain ⟨q, h1, h2, h3, h4⟩ := ok.own i b h
    have e : q ≠ p := fun z => by rw [z, upd_same] at h3; cases h3
    rw [upd_ne e] at h3
    exact ⟨q, h1, h2, by rw [upd_ne e]; exact h3, h4.mono (Same.refl F) (upd_ne e)⟩
/-- a new object, hidden -/
theorem Ok.hide {p : Addr} {o : HO} (ok : Ok K F G H σ ρ) (hp : H p = none) : Ok K F (upd G p o) (upd H p o) σ ρ := by
  have fp : F p = none := Same.free ok.sub hp
  refine ⟨fun a u h => ?_, fun a u h => ?_, fun a u h => ?_, ok.len, ok.val, fun i b h => ?_, ok.scr, ok.apart⟩
  · rw [upd_ne (ne_of_none h fp)]
    exact ok.sub _ _ h
  · by_cases e : a = p
    · subst e
      rw [upd_same] at h ⊢
      exact h
    · rw [upd_ne e] at h ⊢
      exact ok.gsub _ _ h
  · by_cases e : a = p
    · rw [e]; exact fp
    · rw [upd_ne e] at h
      exact ok.disj _ _ h
  · obtain ⟨q, h1, h2, h3, h4⟩ := ok.own i b h
    obtain ⟨u, hu⟩ := h4.some
    have e : q ≠ p := fun z => by rw [z, hp] at hu; cases hu
    exact ⟨q, h1, h2, by rw [upd_ne e]; exact h3, h4.mono (Same.refl F) (upd_ne e)⟩
/-- a hidden object comes back to who made it -/
theorem Ok.unhide {p : Addr} {o : HO} (ok : Ok K F (upd G p o) H σ ρ) (hg : G p = none) : Ok K F G H σ ρ ∧ New F G σ ρ p := by
  have sg : Same G (upd G p o) := Same.new hg
  refine ⟨⟨ok.sub, sg.trans ok.gsub, fun a u h => ok.disj a u (sg _ _ h), ok.len, ok.val, fun i b h => ?_, ok.scr, ok.apart⟩, ok.disj p o upd_same, hg, fun i b h e => ?_⟩
  · obtain ⟨q, h1, h2, h3, h4⟩ := ok.own i b h
    exact ⟨q, h1, h2, Same.free sg h3, h4⟩
  · obtain ⟨q, h1, h2, h3, h4⟩ := ok.own i b h
    rw [e] at h1
    cases h1
    rw [upd_same] at h3
    cases h3
/-- into a comprehension's block, and out of it -/
theorem Ok.wiped {vs : List Nat} (ok : Ok K F G H σ ρ) : Ok K F G H (wipe σ vs) (wipeR ρ vs) := by
  have hl := ok.len
  have hr : ∀ {i : Nat} {r : Sl}, (wipeR ρ vs)[i]? = some r → r ≠ .u → i ∉ vs ∧ ρ[i]? = some r := fun {i r} h n => by
    have il : i < ρ.length := by
      have := (List.getElem?_eq_some_iff.mp h).1
      rw [wipeR_len] at this
      exact this
    by_cases hv : i ∈ vs
    · rw [wipeR_in hv il] at h
      cases h
      exact absurd rfl n
    · rw [wipeR_out hv] at h
      exact ⟨hv, h⟩
  refine ⟨ok.sub, ok.gsub, ok.disj, by rw [wipe_length, wipeR_len]; exact hl, fun i d h => ?_, fun i d h => ?_, fun i d h => ?_, fun i j b c p hij h1 h2 h3 => ?_⟩
  · obtain ⟨hv, h⟩ := hr h (fun z => nomatch z)
    rw [wipe_out hv]
    exact ok.val i d h
  · obtain ⟨hv, h⟩ := hr h (fun z => nomatch z)
    rw [wipe_out hv]
    exact ok.own i d h
  · obtain ⟨hv, h⟩ := hr h (fun z => nomatch z)
    rw [wipe_out hv]
    exact ok.scr i d h
  · obtain ⟨hv, h1⟩ := hr h1 (fun z => nomatch z)
    obtain ⟨hv2, h2⟩ := hr h2 (fun z => nomatch z)
    rw [wipe_out hv] at h3
    rw [wipe_out hv2]
    exact ok.apart i j b c p hij h1 h2 h3
theorem Ok.unwiped {vs : List Nat} (ok : Ok K F G H (wipe σ vs) (wipeR ρ vs)) : Ok K F G H σ (wipeR ρ vs) := by
  have hl := ok.len
  rw [wipe_length, wipeR_len] at hl
  have hr : ∀ {i : Nat} {r : Sl}, (wipeR ρ vs)[i]? = some r → r ≠ .u → i ∉ vs := fun {i r} h n hv => by
    have il : i < ρ.length := by
      have := (List.getElem?_eq_some_iff.mp h).1
      rw [wipeR_len] at this
      exact this
    rw [wipeR_in hv il] at h
    cases h
    exact n rfl
  refine ⟨ok.sub, ok.gsub, ok.disj, by rw [wipeR_len]; exact hl, fun i d h => ?_, fun i d h => ?_, fun i d h => ?_, fun i j b c p hij h1 h2 h3 => ?_⟩
  · rw [← wipe_out (hr h (fun z => nomatch z))]
    exact ok.val i d h
  · rw [← wipe_out (hr h (fun z => nomatch z))]
    exact ok.own i d h
  · rw [← wipe_out (hr h (fun z => nomatch z))]
    exact ok.scr i d h
  · rw [← wipe_out (hr h1 (fun z => nomatch z))] at h3
    rw [← wipe_out (hr h2 (fun z => nomatch z))]
    exact ok.apart i j b c p hij h1 h2 h3
theorem wipeR_idem {ρ : Rho} {vs : List Nat} : wipeR (wipeR ρ vs) vs = wipeR ρ vs := by
  apply List.ext_getElem?
  intro i
  by_cases hi : i < ρ.length
  · by_cases hv : i ∈ vs
    · rw [wipeR_in hv (by rw [wipeR_len]; exact hi), wipeR_in hv hi]
    · rw [wipeR_out hv]
  · rw [List.getElem?_eq_none (by rw [wipeR_len, wipeR_len]; omega), List.getElem?_eq_none (by rw [wipeR_len]; omega)]
end
section
variable {X : Cx} {elt tg iter e : Expr} {pos : Pos}
theorem pts_imp {ifs : List Expr} {t t' : TT} (h : PTs X ifs t) (i : ∀ σ H Q, t' σ H Q → t σ H Q) : PTs X ifs t' := ⟨fun pins s σ H Q I q => h.run pins s σ H Q I (i σ H Q q)⟩
theorem ts_nil : PTs X [] (rdT X.K (ret true)) := pts_imp pts_nil fun σ H Q h => by
  obtain ⟨F, G, ρ, d, ρ', ok, hm, q⟩ := h
  cases hm
  exact q F H (Same.refl F) ok
theorem ts_one {c : Expr} {m : M Bool} (h : PT X c (rdT X.K m)) : PTs X [c] (rdT X.K m) := pts_one h
theorem lc_reads {K : Kf} {n : Nat} {vs : List Nat} {m : M (List D)} {t : D → Rho → Option Rho} {mc : M Bool} {me : M D} {σ : L2.St} {H : Hp} {Q : VK} (hn : σ.length = n) (h : rdN K (lcM m vs t mc me) σ H Q) : tLc (rdI K m) (rdG K (prC n vs) t) (rdT K mc) (rdV K me) vs σ H Q := by
  obtain ⟨F, G, ρ, b, ρ', ok, hm, q⟩ := h
  obtain ⟨xs, ρ1, h1, h2⟩ := bnd_some hm
  obtain ⟨u, ρ2, h3, h4⟩ := bnd_some h2
  cases h3
  obtain ⟨ds, ρ3, h5, h6⟩ := bnd_some h4
  by_cases hz : fitS ds.length = true
  · rw [if_pos hz] at h6
    cases h6
    have hz := of_decide_eq_true hz
    refine ⟨F, G, ρ, xs, ρ1, ok, h1, fun J F1 H1 s1 ok1 feed Dl hD => ?_⟩
    have gD : G Dl = none := Same.free ok1.gsub hD
    refine ⟨fun i k H2 => ∃ F2 ρ2 acc avs rest, k + i = xs.length ∧ Same F1 F2 ∧ Ok K F2 (upd G Dl (.lst avs)) H2 (wipe σ vs) (wipeR ρ2 vs) ∧ Rps K F2 acc avs ∧ lcL vs t mc me (xs.drop i) (wipeR ρ2 vs) = some (rest, ρ') ∧ acc ++ rest = ds,
      ⟨xs.length, F1, ρ1, [], [], ds, by omega, Same.refl _, (ok1.hide hD).wiped, rfl, by rw [List.drop_zero]; exact h5, rfl⟩, ?_⟩
    rintro i k H2 ⟨F2, ρ2, acc, avs, rest, hk, s2, ok2, racc, h7, hds⟩
    obtain ⟨go, stop⟩ := feed i F2 H2 s2 ok2.sub
    by_cases hlt : i < xs.length
    · obtain ⟨hgo, hy⟩ := go xs[i] (List.getElem?_eq_getElem hlt)
      refine .inr ⟨hgo, fun H' => ∃ F2 ρ2 acc avs rest, Same F1 F2 ∧ Ok K F2 (upd G Dl (.lst avs)) H' (wipe σ vs) (wipeR ρ2 vs) ∧ Rps K F2 acc avs ∧ lcL vs t mc me (xs.drop (i + 1)) (wipeR ρ2 vs) = some (rest, ρ') ∧ acc ++ rest = ds,
        fun H' ⟨F2, ρ2, acc, avs, rest, z⟩ => ⟨k - 1, by omega, F2, ρ2, acc, avs, rest, by omega, z⟩, fun x H3 y => ?_⟩
      obtain ⟨F3, s3, t3, u3, n3, r3⟩ := hy x H3 y
      have ok3 := ok2.ge s3 t3 u3 n3
      rw [drop_cons hlt] at h7
      have h7 : (match t xs[i] (wipeR ρ2 vs) with
        | some ρ1 => bnd mc (fun k => if k then bnd me fun d => bnd (wipeM vs) fun _ => bnd (lcL vs t mc me (xs.drop (i + 1))) fun ds => ret (d :: ds) else bnd (wipeM vs) fun _ => lcL vs t mc me (xs.drop (i + 1))) ρ1
        | none => none) = some (rest, ρ') := h7
      split at h7
      · rename_i ρ4 ht
        obtain ⟨kb, ρ5, h8, h9⟩ := bnd_some h7
        refine ⟨F3, _, _, xs[i], ρ4, ok3, r3, ht, fun σ4 ok4 p4 => ⟨wipe_pr hn p4, F3, _, ρ4, kb, ρ5, ok4, h8, fun F5 H5 s5 ok5 => ?_⟩⟩
        have hw : wipe σ4 vs = wipe σ vs := wipe_pr hn p4
        cases kb with
        | false =>
          have h9 : bnd (wipeM vs) (fun _ => lcL vs t mc me (xs.drop (i + 1))) ρ5 = some (rest, ρ') := h9
          obtain ⟨_, ρ6, h10, h11⟩ := bnd_some h9
          cases h10
          refine iteF ⟨F5, ρ5, acc, avs, rest, (s2.trans s3).trans s5, ?_, Rps.mono (s3.trans s5) _ _ racc, h11, hds⟩
          have := ok5.wiped (vs := vs)
          rw [hw] at this
          exact this
        | true =>
          obtain ⟨d, ρ6, h10, h11⟩ := bnd_some h9
          obtain ⟨_, ρ7, h12, h13⟩ := bnd_some h11
          cases h12
          obtain ⟨ds', ρ8, h14, h15⟩ := bnd_some h13
          cases h15
          refine iteT ⟨F5, _, ρ5, d, ρ6, ok5, h10, fun yv F6 H6 s6 ok6 r6 => ?_⟩
          have hl : acc.length + (ds'.length + 1) = ds.length := by rw [← hds, List.length_append, List.length_cons]
          refine ⟨avs, ok6.gsub _ _ upd_same, by rw [racc.length]; omega, F6, ρ6, acc ++ [d], avs ++ [yv], ds', ((s2.trans s3).trans s5).trans s6, ?_, ?_, h14, by rw [List.append_assoc]; exact hds⟩
          · have := ok6.wiped (vs := vs)
            rw [hw] at this
            exact this.ghost
          · exact (Rps.mono ((s3.trans s5).trans s6) _ _ racc).append ⟨yv, [], rfl, r6, rfl⟩
      · cases h7
    · have e : i = xs.length := by omega
      subst e
      rw [List.drop_of_length_le (Nat.le_refl _)] at h7
      cases h7
      rw [List.append_nil] at hds
      subst hds
      obtain ⟨ok4, n4⟩ := ok2.unwiped.unhide gD
      exact .inl ⟨stop rfl, q Dl F2 H2 (s1.trans s2) ok4 n4 ⟨avs, ok2.gsub _ _ upd_same, racc⟩⟩
  · rw [if_neg hz] at h6
    cases h6
theorem pe_impL {t t' : TE} (h : PE X e t) (i : ∀ σ H Q, σ.length = X.N.length → t' σ H Q → t σ H Q) : PE X e t' := ⟨fun pins s σ H Q I q => h.run pins s σ H Q I (i σ H Q I.len q)⟩
theorem ps_impL {st : Stmt} {t t' : TS} (h : PS X st t) (i : ∀ E σ H, σ.length = X.N.length → t' E σ H → t E σ H) : PS X st t' := ⟨fun pins s σ H E I q => h.run pins s σ H E I (i E σ H I.len q)⟩
theorem n_lc {ifs : List Expr} {scope : Scope} {n : Nat} {vs : List Nat} {m : M (List D)} {t : D → Rho → Option Rho} {mc : M Bool} {me : M D} (own : List (Str × Nat)) (hvs : own.map (·.2) = vs) (hNl : X.N.length = n) (hc : X.calm = true) (hN : X.N.Nodup) (hi : PI X tg iter (rdI X.K m)) (ok : BlkOk X.N X.env.scope scope own)
    (hg : ∀ (s : Shared) (H : Hp) (C : Addr) (cl : List (Str × Addr)) (fp : List Addr), PG (X.blk s H scope (compEnvC scope cl C X.env) fp) tg (rdG X.K (prC n vs) t)) (ht : ∀ (s : Shared) (H : Hp) (C : Addr) (cl : List (Str × Addr)) (fp : List Addr), PTs (X.blk s H scope (compEnvC scope cl C X.env) fp) ifs (rdT X.K mc))
    (he : ∀ (s : Shared) (H : Hp) (C : Addr) (cl : List (Str × Addr)) (fp : List Addr), PE (X.blk s H scope (compEnvC scope cl C X.env) fp) elt (rdV X.K me)) (hs : ∀ x, foldedSetIterable iter X.env x = pure x := by intro _; rfl) :
    PE X (.ListComp elt [⟨tg, iter, ifs, 0⟩] scope pos) (rdN X.K (lcM m vs t mc me)) := by
  subst hvs hNl
  exact pe_impL (pe_lc hc hN hi ok hg ht he hs) fun σ H Q hl h => lc_reads hl h
/-- y = [..], y a local -/
theorem s_setLcN (i : Nat) {y : Str} {py : Pos} {ifs : List Expr} {scope : Scope} {n : Nat} {pr vs : List Nat} {m : M (List D)} {t : D → Rho → Option Rho} {mc : M Bool} {me : M D} {spos : Pos} (hp : i ∉ pr) (own : List (Str × Nat)) (hvs : own.map (·.2) = vs) (hNl : X.N.length = n) (hc : X.calm = true) (hN : X.N.Nodup) (hy : X.N[i]? = some y) (hyl : X.env.scope.names.lookup y = some .local)
    (hsw : swapsWith (.ListComp elt [⟨tg, iter, ifs, 0⟩] scope pos) (some (.Name y py)) spos.line X.env = pure true) (hi : PI X tg iter (rdI X.K m)) (ok : BlkOk X.N X.env.scope scope own)
    (hg : ∀ (s : Shared) (H : Hp) (C : Addr) (cl : List (Str × Addr)) (fp : List Addr), PG (X.blk s H scope (compEnvC scope cl C X.env) fp) tg (rdG X.K (prC n vs) t)) (ht : ∀ (s : Shared) (H : Hp) (C : Addr) (cl : List (Str × Addr)) (fp : List Addr), PTs (X.blk s H scope (compEnvC scope cl C X.env) fp) ifs (rdT X.K mc))
    (he : ∀ (s : Shared) (H : Hp) (C : Addr) (cl : List (Str × Addr)) (fp : List Addr), PE (X.blk s H scope (compEnvC scope cl C X.env) fp) elt (rdV X.K me)) (hs : ∀ x, foldedSetIterable iter X.env x = pure x := by intro _; rfl) :
    PS X (.Assign [.Name y py] (.ListComp elt [⟨tg, iter, ifs, 0⟩] scope pos) spos) (rdS X.K pr (setNM i (lcM m vs t mc me))) := by
  subst hvs hNl
  refine ps_impL (ps_setLc hc hN hy hyl hsw hi ok hg ht he hs) fun E σ H hl h => ?_
  obtain ⟨F, G, ρ, fl, ρ', ok, hm, w⟩ := h
  obtain ⟨b, ρ1, h1, h2⟩ := bnd_some hm
  cases h2
  exact lc_reads hl ⟨F, G, ρ, b, ρ1, ok, h1, fun p F1 H1 s1 ok1 n1 o1 => w _ F1 H1 s1 (ok1.putO n1 o1) (Pr.set hp)⟩
theorem s_setLc (i : Nat) {y : Str} {py : Pos} {ifs : List Expr} {scope : Scope} {n : Nat} {pr vs : List Nat} {m : M (List D)} {t : D → Rho → Option Rho} {mc : M Bool} {me : M D} {spos : Pos} (hp : i ∉ pr) (own : List (Str × Nat)) (hvs : own.map (·.2) = vs) (hNl : X.N.length = n) (hc : X.calm = true) (hN : X.N.Nodup) (hy : X.N[i]? = some y) (hyl : X.env.scope.names.lookup y = some .local)
    (hsw : swapsWith (.ListComp elt [⟨tg, iter, ifs, 0⟩] scope pos) (some (.Name y py)) spos.line X.env = pure true) (hi : PI X tg iter (rdI X.K m)) (ok : BlkOk X.N X.env.scope scope own)
    (hg : ∀ (s : Shared) (H : Hp) (C : Addr) (cl : List (Str × Addr)) (fp : List Addr), PG (X.blk s H scope (compEnvC scope cl C X.env) fp) tg (rdG X.K (prC n vs) t)) (ht : ∀ (s : Shared) (H : Hp) (C : Addr) (cl : List (Str × Addr)) (fp : List Addr), PTs (X.blk s H scope (compEnvC scope cl C X.env) fp) ifs (rdT X.K mc))
    (he : ∀ (s : Shared) (H : Hp) (C : Addr) (cl : List (Str × Addr)) (fp : List Addr), PE (X.blk s H scope (compEnvC scope cl C X.env) fp) elt (rdV X.K me)) (hs : ∀ x, foldedSetIterable iter X.env x = pure x := by intro _; rfl) :
    PS X (.Assign [.Name y py] (.ListComp elt [⟨tg, iter, ifs, 0⟩] scope pos) spos) (rdS X.K pr (asgM (frzM (lcM m vs t mc me)) (nameT i))) := by
  subst hvs hNl
  refine ps_impL (ps_setLc hc hN hy hyl hsw hi ok hg ht he hs) fun E σ H hl h => ?_
  obtain ⟨F, G, ρ, fl, ρ', ok, hm, w⟩ := h
  obtain ⟨d, ρ1, h1, h2, rfl⟩ := asg_some hm
  cases h2
  obtain ⟨b, ρ2, h3, h4⟩ := bnd_some h1
  cases b with
  | lst xs =>
    cases h4
    refine lc_reads hl ⟨F, G, ρ, _, _, ok, h3, fun p F1 H1 s1 ok1 n1 o1 => ?_⟩
    obtain ⟨vs, h5, h6⟩ := o1
    obtain ⟨s2, ok2⟩ := ok1.freeze h5 n1
    exact w _ _ H1 (s1.trans s2) (ok2.putV ⟨p, vs, rfl, upd_same, Rps.mono s2 _ _ h6⟩) (Pr.set hp)
  | dk _ => cases h4
  | dt _ => cases h4
end
/-! ### calls -/
abbrev Fn := List Sl → Option (Sl × List Sl)
def ResOk (K : Kf) (F G H : Hp) (σ : L2.St) (ρ : Rho) (v : V) : Sl → Prop
  | .v d => Rp K F d v
  | .o b => ∃ p, v = .ref p ∧ New F G σ ρ p ∧ OwnAt K F H p b
  | _ => False
/-- the promise of a def whose mirror is f -/
def Prm (K : Kf) (n : Nat) (f : Fn) : Sp := fun vs H Q _ => vs.length = n ∧ ∃ F G args r args', Ok K F G H (vs.map some) args ∧ f args = some (r, args') ∧ ∀ v F' H', Same F F' → Ok K F' G H' (vs.map some) args' → ResOk K F' G H' (vs.map some) args' v r → Q v H'
def argsR (ρ : Rho) : List Rf → Option (List Sl)
  | [] => some []
  | .val d :: rs => (argsR ρ rs).map fun as => .v d :: as
  | .slot i :: rs => match ρ[i]? with
    | some (.o b) => (argsR ρ rs).map fun as => .o b :: as
    | some (.s ns) => (argsR ρ rs).map fun as => .s ns :: as
    | _ => none
def slotsR : List Rf → List Nat
  | [] => []
  | .val _ :: rs => slotsR rs
  | .slot i :: rs => i :: slotsR rs
def backR : List Rf → List Sl → Rho → Rho
  | .slot i :: rs, a :: as, ρ => backR rs as (ρ.set i a)
  | .val _ :: rs, _ :: as, ρ => backR rs as ρ
  | _, _, ρ => ρ
def callM (f : Fn) (m : M (List Rf)) : M Sl := bnd m fun rs => fun ρ => match argsR ρ rs with
  | some args => if (slotsR rs).Nodup then (match f args with
    | some (r, args') => some (r, backR rs args' ρ)
    | none => none) else none
  | none => none
def valS (m : M Sl) : M D := bnd m fun s => match s with
  | .v d => ret d
  | .o (.lst xs) => ret (.list xs)
  | _ => fun _ => none
def ownS (m : M Sl) : M Own := bnd m fun s => match s with
  | .o b => ret b
  | _ => fun _ => none
section
variable {K : Kf} {F F' G H H' : Hp} {σ σ' : L2.St} {ρ ρ' : Rho}
theorem argsR_get : ∀ {rs : List Rf} {as : List Sl} {k : Nat} {a : Sl}, argsR ρ rs = some as → as[k]? = some a → (∃ d, rs[k]? = some (.val d) ∧ a = .v d) ∨ ∃ i, rs[k]? = some (.slot i) ∧ ρ[i]? = some a ∧ ((∃ b, a = .o b) ∨ ∃ ns, a = .s ns)
  | [], _, k, a, h, e => by cases h; simp at e
  | .val d :: rs, as, k, a, h, e => by
    cases hr : argsR ρ rs with
    | none => simp [argsR, hr] at h
    | some bs =>
      simp [argsR, hr] at h
      subst h
      cases k with
      | zero => simp at e; subst e; exact .inl ⟨d, rfl, rfl⟩
      | succ k =>
        have := argsR_get (k := k) hr (by simpa using e)
        simpa using this
  | .slot i :: rs, as, k, a, h, e => by
    unfold argsR at h
    split at h
    · rename_i b hb
      cases hr : argsR ρ rs with
      | none => rw [hr] at h; cases h
      | some bs =>
        rw [hr] at h
        cases h
        cases k with
        | zero => simp at e; subst e; exact .inr ⟨i, rfl, hb, .inl ⟨b, rfl⟩⟩
        | succ k =>
          have := argsR_get (k := k) hr (by simpa using e)
          simpa using this
    · rename_i b hb
      cases hr : argsR ρ rs with
      | none => rw [hr] at h; cases h
      | some bs =>
        rw [hr] at h
        cases h
        cases k with
        | zero => simp at e; subst e; exact .inr ⟨i, rfl, hb, .inr ⟨b, rfl⟩⟩
        | succ k =>
          have := argsR_get (k := k) hr (by simpa using e)
          simpa using this
    · cases h
theorem argsR_len : ∀ {rs : List Rf} {as : List Sl}, argsR ρ rs = some as → as.length = rs.length
  | [], _, h => by cases h; rfl
  | .val d :: rs, as, h => by
    cases hr : argsR ρ rs with
    | none => simp [argsR, hr] at h
    | some bs => simp [argsR, hr] at h; subst h; simp [argsR_len hr]
  | .slot i :: rs, as, h => by
    unfold argsR at h
    split at h
    · cases hr : argsR ρ rs with
      | none => rw [hr] at h; cases h
      | some bs => rw [hr] at h; cases h; simp [argsR_len hr]
    · cases hr : argsR ρ rs with
      | none => rw [hr] at h; cases h
      | some bs => rw [hr] at h; cases h; simp [argsR_len hr]
    · cases h
theorem slotsR_mem : ∀ {rs : List Rf} {i : Nat}, i ∈ slotsR rs ↔ ∃ k : Nat, rs[k]? = some (.slot i)
  | [], i => by simp [slotsR]
  | .val d :: rs, i => by
    have ih := slotsR_mem (rs := rs) (i := i)
    show i ∈ slotsR rs ↔ _
    rw [ih]
    constructor
    · rintro ⟨k, h⟩; exact ⟨k + 1, by simpa using h⟩
    · rintro ⟨k, h⟩
      cases k with
      | zero => simp at h
      | succ k => exact ⟨k, by simpa using h⟩
  | .slot j :: rs, i => by
    have ih := slotsR_mem (rs := rs) (i := i)
    show i ∈ j :: slotsR rs ↔ _
    rw [List.mem_cons, ih]
    constructor
    · rintro (rfl | ⟨k, h⟩)
      · exact ⟨0, rfl⟩
      · exact ⟨k + 1, by simpa using h⟩
    · rintro ⟨k, h⟩
      cases k with
      | zero => simp at h; exact .inl h.symm
      | succ k => exact .inr ⟨k, by simpa using h⟩
theorem slotsR_inj : ∀ {rs : List Rf} {i k l : Nat}, (slotsR rs).Nodup → rs[k]? = some (.slot i) → rs[l]? = some (.slot i) → k = l
  | [], _, _, _, _, h, _ => by simp at h
  | .val d :: rs, i, k, l, nd, h, g => by
    cases k with
    | zero => simp at h
    | succ k =>
      cases l with
      | zero => simp at g
      | succ l => rw [slotsR_inj (k := k) (l := l) (show (slotsR rs).Nodup from nd) (by simpa using h) (by simpa using g)]
  | .slot j :: rs, i, k, l, nd, h, g => by
    have nd : (j :: slotsR rs).Nodup := nd
    rw [List.nodup_cons] at nd
    cases k with
    | zero =>
      cases l with
      | zero => rfl
      | succ l =>
        simp at h
        subst h
        exact absurd (slotsR_mem.mpr ⟨l, by simpa using g⟩) nd.1
    | succ k =>
      cases l with
      | zero =>
        simp at g
        subst g
        exact absurd (slotsR_mem.mpr ⟨k, by simpa using h⟩) nd.1
      | succ l => rw [slotsR_inj (k := k) (l := l) nd.2 (by simpa using h) (by simpa using g)]
theorem backR_out : ∀ {rs : List Rf} {as : List Sl} {ρ : Rho} {i : Nat}, i ∉ slotsR rs → (backR rs as ρ)[i]? = ρ[i]?
  | [], _, _, _, _ => by simp [backR]
  | .val d :: rs, [], _, _, _ => by simp [backR]
  | .slot j :: rs, [], _, _, _ => by simp [backR]
  | .val d :: rs, a :: as, ρ, i, h => backR_out (rs := rs) (as := as) h
  | .slot j :: rs, a :: as, ρ, i, h => by
    have h : i ∉ j :: slotsR rs := h
    rw [List.mem_cons, not_or] at h
    have := backR_out (rs := rs) (as := as) (ρ := ρ.set j a) h.2
    rw [show (backR (.slot j :: rs) (a :: as) ρ) = backR rs as (ρ.set j a) from rfl, this, List.getElem?_set_ne fun e => h.1 e.symm]
theorem backR_len : ∀ {rs : List Rf} {as : List Sl} {ρ : Rho}, (backR rs as ρ).length = ρ.length
  | [], _, _ => by simp [backR]
  | .val d :: rs, [], _ => by simp [backR]
  | .slot j :: rs, [], _ => by simp [backR]
  | .val d :: rs, a :: as, ρ => backR_len (rs := rs) (as := as)
  | .slot j :: rs, a :: as, ρ => by
    rw [show (backR (.slot j :: rs) (a :: as) ρ) = backR rs as (ρ.set j a) from rfl, backR_len, List.length_set]
theorem backR_in : ∀ {rs : List Rf} {as : List Sl} {ρ : Rho} {i k : Nat}, (slotsR rs).Nodup → as.length = rs.length → rs[k]? = some (.slot i) → i < ρ.length → (backR rs as ρ)[i]? = as[k]?
  | [], _, _, _, _, _, _, h, _ => by simp at h
  | .val d :: rs, [], _, _, _, _, hl, _, _ => by simp at hl
  | .slot j :: rs, [], _, _, _, _, hl, _, _ => by simp at hl
  | .val d :: rs, a :: as, ρ, i, k, nd, hl, h, hi => by
    cases k with
    | zero => simp at h
    | succ k =>
      have := backR_in (rs := rs) (as := as) (ρ := ρ) (i := i) (k := k) nd (by simpa using hl) (by simpa using h) hi
      exact this.trans (by simp)
  | .slot j :: rs, a :: as, ρ, i, k, nd, hl, h, hi => by
    have nd : (j :: slotsR rs).Nodup := nd
    rw [List.nodup_cons] at nd
    rw [show (backR (.slot j :: rs) (a :: as) ρ) = backR rs as (ρ.set j a) from rfl]
    cases k with
    | zero =>
      simp at h
      subst h
      rw [backR_out nd.1, List.getElem?_set_self hi]
      rfl
    | succ k =>
      have := backR_in (rs := rs) (as := as) (ρ := ρ.set j a) (i := i) (k := k) nd.2 (by simpa using hl) (by simpa using h) (by rw [List.length_set]; exact hi)
      exact this.trans (by simp)
theorem RfsOk.get : ∀ {rs : List Rf} {vs : List V} {k : Nat} {r : Rf}, RfsOk K F σ rs vs → rs[k]? = some r → ∃ v, vs[k]? = some v ∧ RfOk K F σ v r
  | [], _, _, _, _, e => by simp at e
  | r :: rs, _, 0, _, h, e => by
    obtain ⟨v, ws, rfl, h1, h2⟩ := h
    simp at e
    subst e
    exact ⟨v, rfl, h1⟩
  | r :: rs, _, k + 1, _, h, e => by
    obtain ⟨v, ws, rfl, h1, h2⟩ := h
    obtain ⟨w, hw, q⟩ := RfsOk.get (k := k) h2 (by simpa using e)
    exact ⟨w, by simpa using hw, q⟩
theorem RfsOk.length : ∀ {rs : List Rf} {vs : List V}, RfsOk K F σ rs vs → vs.length = rs.length
  | [], _, h => by cases h; rfl
  | r :: rs, _, h => by
    obtain ⟨v, ws, rfl, h1, h2⟩ := h
    show ws.length + 1 = rs.length + 1
    rw [RfsOk.length h2]
theorem RfsOk.mono (e : Same F F') : ∀ {rs : List Rf} {vs : List V}, RfsOk K F σ rs vs → RfsOk K F' σ rs vs
  | [], _, h => h
  | r :: rs, _, h => by
    obtain ⟨v, ws, rfl, h1, h2⟩ := h
    exact ⟨v, ws, rfl, h1.mono e, RfsOk.mono e h2⟩
open Classical in
/-- what a caller hides from its callee: its own hidden objects, and the own objects of slots that are not handed on -/
noncomputable def hidG (G H : Hp) (σ : L2.St) (ρ : Rho) (ss : List Nat) : Hp := fun a => if (G a).isSome then G a else if ∃ i b, i ∉ ss ∧ ρ[i]? = some (.o b) ∧ σ[i]? = some (some (.ref a)) then H a else none
theorem hidG_G {ss : List Nat} {a : Addr} {o : HO} (h : G a = some o) : hidG G H σ ρ ss a = some o := by
  unfold hidG
  rw [if_pos (by rw [h]; rfl)]
  exact h
theorem hidG_own {ss : List Nat} {a : Addr} {i : Nat} {b : Own} (hg : G a = none) (hi : i ∉ ss) (h1 : ρ[i]? = some (.o b)) (h2 : σ[i]? = some (some (.ref a))) : hidG G H σ ρ ss a = H a := by
  unfold hidG
  rw [if_neg (by rw [hg]; simp), if_pos ⟨i, b, hi, h1, h2⟩]
theorem hidG_cases {ss : List Nat} {a : Addr} {o : HO} (h : hidG G H σ ρ ss a = some o) : G a = some o ∨ (G a = none ∧ H a = some o ∧ ∃ i b, i ∉ ss ∧ ρ[i]? = some (.o b) ∧ σ[i]? = some (some (.ref a))) := by
  unfold hidG at h
  split at h
  · exact .inl h
  · rename_i hg
    split at h
    · rename_i hx
      refine .inr ⟨?_, h, hx⟩
      cases hq : G a with
      | none => rfl
      | some u => rw [hq] at hg; exact absurd rfl hg
    · cases h
/-- the state in which a callee begins -/
theorem Ok.enter {rs : List Rf} {vs : List V} {args : List Sl} (ok : Ok K F G H σ ρ) (r : RfsOk K F σ rs vs) (ha : argsR ρ rs = some args) (nd : (slotsR rs).Nodup) : Ok K F (hidG G H σ ρ (slotsR rs)) H (vs.map some) args := by
  have hle : vs.length = rs.length := r.length
  have gv : ∀ {k : Nat} {v : V}, vs[k]? = some v → (vs.map some)[k]? = some (some v) := fun {k v} h => by rw [List.getElem?_map, h]; rfl
  refine ⟨ok.sub, fun a o h => ?_, fun a o h => ?_, by rw [List.length_map, hle, argsR_len ha], fun i d h => ?_, fun i b h => ?_, fun i ns h => ?_, fun i j b c p hij h1 h2 h3 h4 => ?_⟩
  · rcases hidG_cases h with h | ⟨_, h, _⟩
    · exact ok.gsub _ _ h
    · exact h
  · rcases hidG_cases h with h | ⟨_, _, i, b, hi, h1, h2⟩
    · exact ok.disj _ _ h
    · obtain ⟨q, g1, g2, _⟩ := ok.own i b h1
      rw [h2] at g1
      cases g1
      exact g2
  · rcases argsR_get ha h with ⟨d', h1, e⟩ | ⟨j, h1, h2, e⟩
    · cases e
      obtain ⟨v, hv, rv⟩ := r.get h1
      exact ⟨v, gv hv, rv⟩
    · rcases e with ⟨b, e⟩ | ⟨b, e⟩ <;> cases e
  · rcases argsR_get ha h with ⟨d', h1, e⟩ | ⟨j, h1, h2, e⟩
    · cases e
    · obtain ⟨v, hv, rv⟩ := r.get h1
      obtain ⟨p, g1, g2, g3, g4⟩ := ok.own j b h2
      have rv : σ[j]? = some (some v) := rv
      rw [g1] at rv
      cases rv
      refine ⟨p, gv hv, g2, ?_, g4⟩
      cases hh : hidG G H σ ρ (slotsR rs) p with
      | none => rfl
      | some o =>
        rcases hidG_cases hh with h | ⟨_, _, i', b', hi, k1, k2⟩
        · rw [g3] at h; cases h
        · have : j ≠ i' := fun z => hi (z ▸ slotsR_mem.mpr ⟨i, h1⟩)
          exact absurd k2 (ok.apart j i' b b' p this h2 k1 g1)
  · rcases argsR_get ha h with ⟨d', h1, e⟩ | ⟨j, h1, h2, e⟩
    · cases e
    · obtain ⟨v, hv, rv⟩ := r.get h1
      obtain ⟨a, g1, g2⟩ := ok.scr j ns h2
      have rv : σ[j]? = some (some v) := rv
      rw [g1] at rv
      cases rv
      exact ⟨a, gv hv, g2⟩
  · have look : ∀ {k : Nat} {b : Own} {p : Addr}, args[k]? = some (.o b) → (vs.map some)[k]? = some (some (.ref p)) → ∃ l, rs[k]? = some (.slot l) ∧ ρ[l]? = some (.o b) ∧ σ[l]? = some (some (.ref p)) := fun {k b p} g1 g2 => by
      rcases argsR_get ha g1 with ⟨d', k1, e⟩ | ⟨l, k1, k2, e⟩
      · cases e
      · obtain ⟨v, hv, rv⟩ := r.get k1
        rw [gv hv] at g2
        cases g2
        exact ⟨l, k1, k2, rv⟩
    obtain ⟨l, a1, a2, a3⟩ := look h1 h3
    obtain ⟨l', b1, b2, b3⟩ := look h2 h4
    by_cases e : l = l'
    · subst e
      exact hij (slotsR_inj nd a1 b1)
    · exact ok.apart l l' b c p e a2 b2 a3 b3
/-- the caller's state behind the call -/
theorem Ok.leave {rs : List Rf} {vs : List V} {args args' : List Sl} (ok : Ok K F G H σ ρ) (r : RfsOk K F σ rs vs) (ha : argsR ρ rs = some args) (nd : (slotsR rs).Nodup) (s : Same F F') (ok' : Ok K F' (hidG G H σ ρ (slotsR rs)) H' (vs.map some) args') :
    Ok K F' G H' σ (backR rs args' ρ) ∧ ∀ p, New F' (hidG G H σ ρ (slotsR rs)) (vs.map some) args' p → New F' G σ (backR rs args' ρ) p := by
  have hle : vs.length = rs.length := r.length
  have hla : args'.length = rs.length := by
    have := ok'.len
    rw [List.length_map] at this
    omega
  -- a slot's content behind the call
  have back : ∀ {i : Nat} {x : Sl}, (backR rs args' ρ)[i]? = some x → (∃ (k : Nat) (v : V), rs[k]? = some (.slot i) ∧ args'[k]? = some x ∧ vs[k]? = some v ∧ σ[i]? = some (some v) ∧ (vs.map some)[k]? = some (some v)) ∨ (i ∉ slotsR rs ∧ ρ[i]? = some x) := fun {i x} h => by
    by_cases hi : i ∈ slotsR rs
    · obtain ⟨k, hk⟩ := slotsR_mem.mp hi
      have il : i < ρ.length := by
        have := (List.getElem?_eq_some_iff.mp h).1
        rw [backR_len] at this
        exact this
      rw [backR_in nd hla hk il] at h
      obtain ⟨v, hv, rv⟩ := r.get hk
      exact .inl ⟨k, v, hk, h, hv, rv, by rw [List.getElem?_map, hv]; rfl⟩
    · rw [backR_out hi] at h
      exact .inr ⟨hi, h⟩
  have gG : ∀ {a : Addr}, hidG G H σ ρ (slotsR rs) a = none → G a = none := fun {a} h => by
    cases hq : G a with
    | none => rfl
    | some o => rw [hidG_G hq] at h; cases h
  have keep : ∀ {i : Nat} {b : Own}, i ∉ slotsR rs → ρ[i]? = some (.o b) → ∃ p, σ[i]? = some (some (.ref p)) ∧ F' p = none ∧ G p = none ∧ OwnAt K F' H' p b ∧ hidG G H σ ρ (slotsR rs) p ≠ none := fun {i b} hi hb => by
    obtain ⟨p, h1, h2, h3, h4⟩ := ok.own i b hb
    obtain ⟨o, ho⟩ := h4.some
    have e : hidG G H σ ρ (slotsR rs) p = some o := (hidG_own h3 hi hb h1).trans ho
    exact ⟨p, h1, ok'.disj _ _ e, h3, h4.mono s ((ok'.gsub _ _ e).trans ho.symm), by rw [e]; simp⟩
  refine ⟨⟨ok'.sub, fun a o h => ok'.gsub _ _ (hidG_G h), fun a o h => ok'.disj _ _ (hidG_G h), by rw [backR_len]; exact ok.len, fun i d h => ?_, fun i b h => ?_, fun i ns h => ?_, fun i j b c p hij h1 h2 h3 h4 => ?_⟩, fun p n => ⟨n.f, gG n.g, fun i b h e => ?_⟩⟩
  · rcases back h with ⟨k, v, h1, h2, h3, h4, h5⟩ | ⟨hi, h⟩
    · obtain ⟨w, g1, g2⟩ := ok'.val k d h2
      rw [h5] at g1
      cases g1
      exact ⟨v, h4, g2⟩
    · obtain ⟨v, g1, g2⟩ := ok.val i d h
      exact ⟨v, g1, Rp.mono s _ _ g2⟩
  · rcases back h with ⟨k, v, h1, h2, h3, h4, h5⟩ | ⟨hi, h⟩
    · obtain ⟨p, g1, g2, g3, g4⟩ := ok'.own k b h2
      rw [h5] at g1
      cases g1
      exact ⟨p, h4, g2, gG g3, g4⟩
    · obtain ⟨p, g1, g2, g3, g4, _⟩ := keep hi h
      exact ⟨p, g1, g2, g3, g4⟩
  · rcases back h with ⟨k, v, h1, h2, h3, h4, h5⟩ | ⟨hi, h⟩
    · obtain ⟨p, g1, g2⟩ := ok'.scr k ns h2
      rw [h5] at g1
      cases g1
      exact ⟨p, h4, g2⟩
    · obtain ⟨p, g1, g2⟩ := ok.scr i ns h
      exact ⟨p, g1, s.seq g2⟩
  · rcases back h1 with ⟨k, v, k1, k2, k3, k4, k5⟩ | ⟨hi, h1⟩
    · rw [h3] at k4
      cases k4
      obtain ⟨q, g1, _, g3, _⟩ := ok'.own k b k2
      rw [k5] at g1
      cases g1
      rcases back h2 with ⟨l, w, l1, l2, l3, l4, l5⟩ | ⟨hj, h2⟩
      · rw [h4] at l4
        cases l4
        by_cases e : k = l
        · subst e
          rw [k1] at l1
          exact hij (Rf.slot.inj (Option.some.inj l1))
        · exact ok'.apart k l b c p e k2 l2 k5 l5
      · obtain ⟨q, m1, _, _, _, m5⟩ := keep hj h2
        rw [h4] at m1
        cases m1
        exact m5 g3
    · obtain ⟨q, m1, _, _, _, m5⟩ := keep hi h1
      rw [h3] at m1
      cases m1
      rcases back h2 with ⟨l, w, l1, l2, l3, l4, l5⟩ | ⟨hj, h2⟩
      · rw [h4] at l4
        cases l4
        obtain ⟨q, g1, _, g3, _⟩ := ok'.own l c l2
        rw [l5] at g1
        cases g1
        exact m5 g3
      · exact ok.apart i j b c p hij h1 h2 h3 h4
  · rcases back h with ⟨k, v, h1, h2, h3, h4, h5⟩ | ⟨hi, h⟩
    · rw [e] at h4
      cases h4
      exact n.s k b h2 h5
    · obtain ⟨q, m1, _, _, _, m5⟩ := keep hi h
      rw [e] at m1
      cases m1
      exact m5 n.g
end
end Fx
/-! Fx: calls of defs, defs. -/
namespace Fx
open PySem PySem.Spec PyProof.Rows L2
def nilC : M (List Rf) := ret []
def consC (m : M Rf) (n : M (List Rf)) : M (List Rf) := bnd m fun d => bnd n fun ds => ret (d :: ds)
/-- the place of slot i: own, the script, or data -/
def argM (i : Nat) : M Rf := fun ρ => match ρ[i]? with
  | some (.v d) => some (.val d, ρ)
  | some (.o _) => some (.slot i, ρ)
  | some (.s _) => some (.slot i, ρ)
  | _ => none
section
variable {X : Cx} {e : Expr} {es : List Expr} {pos : Pos} {K : Kf}
theorem b_arg (i : Nat) {x : Str} {pos : Pos} (hN : X.N[i]? = some x := by rfl) (hv : Vis X.env.scope x := by first | exact Or.inl rfl | exact Or.inr (Or.inl rfl) | exact Or.inr (Or.inr rfl)) (hd : (x == ("__debug__" : Str)) = false := by decide)
    (hcd : (x == ("__classdict__" : Str)) = false := by decide) : PE X (.Name x pos) (rdB X.K (argM i)) := by
  refine pe_imp (pe_var hN hv hd hcd) fun σ H Q h => ?_
  obtain ⟨F, G, ρ, d, ρ', ok, hm, q⟩ := h
  unfold argM at hm
  split at hm
  · rename_i d' e
    cases hm
    obtain ⟨v, h1, h2⟩ := ok.val i _ e
    exact ⟨v, h1, q v F H (Same.refl F) ok h2⟩
  · rename_i b e
    cases hm
    obtain ⟨p, h1, h2, h3, h4⟩ := ok.own i _ e
    exact ⟨_, h1, q _ F H (Same.refl F) ok h1⟩
  · rename_i b e
    cases hm
    obtain ⟨p, h1, h2⟩ := ok.scr i _ e
    exact ⟨_, h1, q _ F H (Same.refl F) ok h1⟩
  · cases hm
theorem c_nil : PA X [] (rdC X.K nilC) := pa_imp pa_nil fun σ H Q h => by
  obtain ⟨F, G, ρ, d, ρ', ok, hm, q⟩ := h
  cases hm
  exact q _ F H (Same.refl F) ok rfl
theorem c_cons {m : M Rf} {n : M (List Rf)} (he : PE X e (rdB X.K m)) (hr : PA X es (rdC X.K n)) (hs : starEach (e :: es) X.env = (false, eval e X.env) :: starEach es X.env := by rfl) : PA X (e :: es) (rdC X.K (consC m n)) := by
  refine pa_imp (pa_cons he hr hs) fun σ H Q h => ?_
  obtain ⟨F, G, ρ, d, ρ', ok, hm, q⟩ := h
  obtain ⟨x, ρ1, h1, h2⟩ := bnd_some hm
  obtain ⟨xs, ρ2, h3, h4⟩ := bnd_some h2
  cases h4
  refine ⟨F, G, ρ, x, ρ1, ok, h1, fun v F1 H1 s1 ok1 r1 => ⟨F1, G, ρ1, xs, _, ok1, h3, fun vs F2 H2 s2 ok2 r2 => ?_⟩⟩
  exact q _ F2 H2 (s1.trans s2) ok2 ⟨v, vs, rfl, r1.mono s2, r2⟩
/-- a def that may be called: its mirror is f -/
structure Df (P : Program) (w : World) (K : Kf) (mg : Str → Option Value) (base : Heap) (k : Nat) (x : Str) (n : Nat) (f : Fn) : Prop where
  ex : ∃ fa fd ps, FnOk P w K mg base CX0 k fa fd ps (Prm K n f) ∧ mg x = some (.ref fa) ∧ PySem.W.keepIn K (.ref fa) = true ∧ Binds K fd ps []
  len : ∀ args r, f args = some r → args.length = n
/-- what a call reads -/
theorem call_reads {n : Nat} {f : Fn} {m : M (List Rf)} {E : XK} {σ : L2.St} {H : Hp} {Q : VK} (hlen : ∀ args r, f args = some r → args.length = n)
    (h : ∃ F G ρ r ρ', Ok K F G H σ ρ ∧ callM f m ρ = some (r, ρ') ∧ ∀ v F' H', Same F F' → Ok K F' G H' σ ρ' → ResOk K F' G H' σ ρ' v r → Q v H') : tCall (Prm K n f) [] E (rdC K m) σ H Q := by
  obtain ⟨F, G, ρ, r, ρ', ok, hm, q⟩ := h
  obtain ⟨rs, ρ1, h1, h2⟩ := bnd_some hm
  refine ⟨F, G, ρ, rs, ρ1, ok, h1, fun vs F1 H1 s1 ok1 r1 => ?_⟩
  have h2 : (match argsR ρ1 rs with
    | some args => if (slotsR rs).Nodup then (match f args with
      | some (r, args') => some (r, backR rs args' ρ1)
      | none => none) else none
    | none => none) = some (r, ρ') := h2
  split at h2
  · rename_i args ha
    split at h2
    · rename_i nd
      split at h2
      · rename_i r' args' hf
        cases h2
        show Prm K n f (vs ++ []) H1 Q E
        rw [List.append_nil]
        refine ⟨by rw [r1.length, ← hlen _ _ hf, argsR_len ha], F1, _, args, r, args', ok1.enter r1 ha nd, hf, fun v F2 H2 s2 ok2 hr => ?_⟩
        obtain ⟨ok3, hnew⟩ := ok1.leave r1 ha nd s2 ok2
        refine q v F2 H2 (s1.trans s2) ok3 ?_
        cases r with
        | v d => exact hr
        | o b =>
          obtain ⟨p, e, n, o⟩ := hr
          exact ⟨p, e, hnew p n, o⟩
        | u => exact hr
        | s _ => exact hr
      · cases h2
    · cases h2
  · cases h2
theorem pe_callX {P : Program} {k n : Nat} {x : Str} {f : Fn} {p : Pos} {t : TA} (D : Df X.prog X.w X.K X.mg X.base k x n f) (hr : Room k X.A) (hg : Gl X x) (ha : PA X (e :: es) t) (hdb : (x == ("__debug__" : Str)) = false := by decide)
    (he : starEach (e :: es) X.env = (false, eval e X.env) :: starEach es X.env := by rfl) (hpl : (backTo pos (starEach es X.env)).any (·.1) = false := by rfl) : PE X (.Call (.Name x p) (e :: es) [] pos) (tCall (Prm X.K n f) [] E0 t) := by
  obtain ⟨fa, fd, ps, F, hm, hk, hb⟩ := D.ex
  exact pe_call F hr hg hm hk hb .nil pass0 ha hdb he hpl
theorem pe_callX0 {P : Program} {k n : Nat} {x : Str} {f : Fn} {p : Pos} (D : Df X.prog X.w X.K X.mg X.base k x n f) (hr : Room k X.A) (hg : Gl X x) (hdb : (x == ("__debug__" : Str)) = false := by decide) : PE X (.Call (.Name x p) [] [] pos) (tCall (Prm X.K n f) [] E0 tNil) := by
  obtain ⟨fa, fd, ps, F, hm, hk, hb⟩ := D.ex
  exact pe_call0 F hr hg hm hk hb .nil pass0 hdb
theorem valS_reads {m : M Sl} {F G : Hp} {ρ ρ' : Rho} {d : D} (h : valS m ρ = some (d, ρ')) : ∃ r, m ρ = some (r, ρ') ∧ (r = .v d ∨ ∃ xs, r = .o (.lst xs) ∧ d = .list xs) := by
  obtain ⟨r, ρ1, h1, h2⟩ := bnd_some h
  cases r with
  | v d' => cases h2; exact ⟨_, h1, .inl rfl⟩
  | o b =>
    cases b with
    | lst xs => cases h2; exact ⟨_, h1, .inr ⟨xs, rfl, rfl⟩⟩
    | dk _ => cases h2
    | dt _ => cases h2
  | u => cases h2
  | s _ => cases h2
theorem res_val {F G H : Hp} {σ : L2.St} {ρ : Rho} {v : V} {r : Sl} {d : D} {Q : VK} (ok : Ok K F G H σ ρ) (hr : ResOk K F G H σ ρ v r) (h : r = .v d ∨ ∃ xs, r = .o (.lst xs) ∧ d = .list xs) (q : ∀ F', Same F F' → Ok K F' G H σ ρ → Rp K F' d v → Q v H) : Q v H := by
  rcases h with rfl | ⟨xs, rfl, rfl⟩
  · exact q F (Same.refl F) ok hr
  · obtain ⟨p, rfl, n, vs, h1, h2⟩ := hr
    obtain ⟨s, ok'⟩ := ok.freeze h1 n
    exact q _ s ok' ⟨p, vs, rfl, upd_same, Rps.mono s _ _ h2⟩
theorem v_call {k n : Nat} {x : Str} {f : Fn} {p : Pos} {m : M (List Rf)} (D : Df X.prog X.w X.K X.mg X.base k x n f) (hr : Room k X.A) (hg : Gl X x) (ha : PA X (e :: es) (rdC X.K m)) (hdb : (x == ("__debug__" : Str)) = false := by decide)
    (he : starEach (e :: es) X.env = (false, eval e X.env) :: starEach es X.env := by rfl) (hpl : (backTo pos (starEach es X.env)).any (·.1) = false := by rfl) : PE X (.Call (.Name x p) (e :: es) [] pos) (rdV X.K (valS (callM f m))) := by
  refine pe_imp (pe_callX (P := X.prog) D hr hg ha hdb he hpl) fun σ H Q h => call_reads D.len ?_
  obtain ⟨F, G, ρ, d, ρ', ok, hm, q⟩ := h
  obtain ⟨r, h1, h2⟩ := valS_reads (F := F) (G := G) hm
  exact ⟨F, G, ρ, r, ρ', ok, h1, fun v F1 H1 s1 ok1 hr => res_val ok1 hr h2 fun F2 s2 ok2 r2 => q v F2 H1 (s1.trans s2) ok2 r2⟩
theorem n_call {k n : Nat} {x : Str} {f : Fn} {p : Pos} {m : M (List Rf)} (D : Df X.prog X.w X.K X.mg X.base k x n f) (hr : Room k X.A) (hg : Gl X x) (ha : PA X (e :: es) (rdC X.K m)) (hdb : (x == ("__debug__" : Str)) = false := by decide)
    (he : starEach (e :: es) X.env = (false, eval e X.env) :: starEach es X.env := by rfl) (hpl : (backTo pos (starEach es X.env)).any (·.1) = false := by rfl) : PE X (.Call (.Name x p) (e :: es) [] pos) (rdN X.K (ownS (callM f m))) := by
  refine pe_imp (pe_callX (P := X.prog) D hr hg ha hdb he hpl) fun σ H Q h => call_reads D.len ?_
  obtain ⟨F, G, ρ, d, ρ', ok, hm, q⟩ := h
  obtain ⟨r, ρ1, h1, h2⟩ := bnd_some hm
  cases r with
  | o b =>
    cases h2
    refine ⟨F, G, ρ, _, _, ok, h1, fun v F1 H1 s1 ok1 hr => ?_⟩
    obtain ⟨p, rfl, n1, o1⟩ := hr
    exact q p F1 H1 s1 ok1 n1 o1
  | _ => cases h2
theorem c_nil_imp {E : XK} {n : Nat} {f : Fn} {σ : L2.St} {H : Hp} {Q : VK} (h : tCall (Prm K n f) [] E (rdC K nilC) σ H Q) : True := trivial
theorem call0_reads {n : Nat} {f : Fn} {E : XK} {σ : L2.St} {H : Hp} {Q : VK} (hlen : ∀ args r, f args = some r → args.length = n)
    (h : ∃ F G ρ r ρ', Ok K F G H σ ρ ∧ callM f nilC ρ = some (r, ρ') ∧ ∀ v F' H', Same F F' → Ok K F' G H' σ ρ' → ResOk K F' G H' σ ρ' v r → Q v H') : tCall (Prm K n f) [] E tNil σ H Q := by
  obtain ⟨F, G, ρ, r, ρ', ok, hm, q⟩ := h
  obtain ⟨rs, ρ1, h1, h2⟩ := bnd_some hm
  cases h1
  have h2 : (match f [] with
      | some (r, args') => some (r, backR [] args' ρ)
      | none => none) = some (r, ρ') := h2
  split at h2
  · rename_i r' args' hf
    cases h2
    have nd : (slotsR []).Nodup := List.nodup_nil
    refine ⟨(hlen _ _ hf), F, _, [], r, args', ok.enter (rs := []) (vs := []) rfl rfl nd, hf, fun v F2 H2 s2 ok2 hr => ?_⟩
    obtain ⟨ok3, hnew⟩ := ok.leave (rs := []) (vs := []) (args := []) rfl rfl nd s2 ok2
    refine q v F2 H2 s2 ok3 ?_
    cases r with
    | v d => exact hr
    | o b =>
      obtain ⟨p, e, n, o⟩ := hr
      exact ⟨p, e, hnew p n, o⟩
    | u => exact hr
    | s _ => exact hr
  · cases h2
theorem v_call0 {k n : Nat} {x : Str} {f : Fn} {p : Pos} (D : Df X.prog X.w X.K X.mg X.base k x n f) (hr : Room k X.A) (hg : Gl X x) (hdb : (x == ("__debug__" : Str)) = false := by decide) : PE X (.Call (.Name x p) [] [] pos) (rdV X.K (valS (callM f nilC))) := by
  refine pe_imp (pe_callX0 (P := X.prog) D hr hg hdb) fun σ H Q h => call0_reads D.len ?_
  obtain ⟨F, G, ρ, d, ρ', ok, hm, q⟩ := h
  obtain ⟨r, h1, h2⟩ := valS_reads (F := F) (G := G) hm
  exact ⟨F, G, ρ, r, ρ', ok, h1, fun v F1 H1 s1 ok1 hr => res_val ok1 hr h2 fun F2 s2 ok2 r2 => q v F2 H1 (s1.trans s2) ok2 r2⟩
theorem n_call0 {k n : Nat} {x : Str} {f : Fn} {p : Pos} (D : Df X.prog X.w X.K X.mg X.base k x n f) (hr : Room k X.A) (hg : Gl X x) (hdb : (x == ("__debug__" : Str)) = false := by decide) : PE X (.Call (.Name x p) [] [] pos) (rdN X.K (ownS (callM f nilC))) := by
  refine pe_imp (pe_callX0 (P := X.prog) D hr hg hdb) fun σ H Q h => call0_reads D.len ?_
  obtain ⟨F, G, ρ, d, ρ', ok, hm, q⟩ := h
  obtain ⟨r, ρ1, h1, h2⟩ := bnd_some hm
  cases r with
  | o b =>
    cases h2
    refine ⟨F, G, ρ, _, _, ok, h1, fun v F1 H1 s1 ok1 hr => ?_⟩
    obtain ⟨p, rfl, n1, o1⟩ := hr
    exact q p F1 H1 s1 ok1 n1 o1
  | _ => cases h2
end
/-! ### defs -/
/-- what the parameters hold behind a call: the protected ones alone are told -/
def outs (pr : List Nat) (np : Nat) (ρ : Rho) : List Sl := (List.range np).map fun i => if i ∈ pr then (ρ[i]?).getD .u else .u
def defM (nsl np : Nat) (pr : List Nat) (m : MS) : Fn := fun args => if args.length = np then (match m (args ++ List.replicate (nsl - np) .u) with
  | some (.nx, ρ) => some (.v .none, outs pr np ρ)
  | some (.rt (.v d), ρ) => some (.v d, outs pr np ρ)
  | some (.rt (.o b), ρ) => some (.o b, outs pr np ρ)
  | _ => none) else none
theorem defM_len {nsl np : Nat} {pr : List Nat} {m : MS} : ∀ args r, defM nsl np pr m args = some r → args.length = np := fun args r h => by
  unfold defM at h
  split at h
  · rename_i e
    exact e
  · cases h
section
variable {K : Kf} {F F' G H H' : Hp} {σ σ' : L2.St} {ρ ρ' : Rho} {pr : List Nat} {np : Nat} {vs : List V}
theorem outs_get {i : Nat} {x : Sl} (h : (outs pr np ρ)[i]? = some x) : i < np ∧ (x = .u ∨ (i ∈ pr ∧ ρ[i]? = some x)) := by
  unfold outs at h
  rw [List.getElem?_map] at h
  cases hr : (List.range np)[i]? with
  | none => rw [hr] at h; cases h
  | some j =>
    rw [hr] at h
    obtain ⟨hi, hj⟩ := List.getElem?_eq_some_iff.mp hr
    rw [List.length_range] at hi
    rw [List.getElem_range] at hj
    subst hj
    refine ⟨hi, ?_⟩
    have h : (if i ∈ pr then (ρ[i]?).getD .u else .u) = x := Option.some.inj h
    by_cases hp : i ∈ pr
    · rw [if_pos hp] at h
      cases hq : ρ[i]? with
      | none => rw [hq] at h; exact .inl h.symm
      | some y =>
        rw [hq] at h
        exact .inr ⟨hp, by rw [← h]; rfl⟩
    · rw [if_neg hp] at h
      exact .inl h.symm
theorem Ok.outs (ok : Ok K F G H σ ρ) (hl : vs.length = np) (hs : ∀ i ∈ pr, i < np → σ[i]? = (vs.map some)[i]?) : Ok K F G H (vs.map some) (outs pr np ρ) ∧ ∀ p, New F G σ ρ p → New F G (vs.map some) (outs pr np ρ) p := by
  have go : ∀ {i : Nat} {x : Sl}, (Fx.outs pr np ρ)[i]? = some x → x ≠ .u → ρ[i]? = some x ∧ (vs.map some)[i]? = σ[i]? := fun {i x} h n => by
    obtain ⟨h1, h2⟩ := outs_get h
    rcases h2 with rfl | ⟨h2, h3⟩
    · exact absurd rfl n
    · exact ⟨h3, (hs i h2 h1).symm⟩
  refine ⟨⟨ok.sub, ok.gsub, ok.disj, ?_, fun i d h => ?_, fun i d h => ?_, fun i d h => ?_, fun i j b c p hij h1 h2 h3 => ?_⟩, fun p n => ⟨n.f, n.g, fun i b h => ?_⟩⟩
  · unfold Fx.outs
    rw [List.length_map, List.length_map, List.length_range, hl]
  · obtain ⟨h1, h2⟩ := go h (fun z => nomatch z)
    rw [h2]
    exact ok.val i d h1
  · obtain ⟨h1, h2⟩ := go h (fun z => nomatch z)
    rw [h2]
    exact ok.own i d h1
  · obtain ⟨h1, h2⟩ := go h (fun z => nomatch z)
    rw [h2]
    exact ok.scr i d h1
  · obtain ⟨a1, a2⟩ := go h1 (fun z => nomatch z)
    obtain ⟨b1, b2⟩ := go h2 (fun z => nomatch z)
    rw [a2] at h3
    rw [b2]
    exact ok.apart i j b c p hij a1 b1 h3
  · obtain ⟨h1, h2⟩ := go h (fun z => nomatch z)
    rw [h2]
    exact n.s i b h1
theorem Ok.start {N : List Str} {args : List Sl} (ok : Ok K F G H (vs.map some) args) (hl : vs.length ≤ N.length) : Ok K F G H (start N vs) (args ++ List.replicate (N.length - vs.length) .u) := by
  have hla : args.length = vs.length := by
    have := ok.len
    rw [List.length_map] at this
    exact this.symm
  have go : ∀ {i : Nat} {x : Sl}, (args ++ List.replicate (N.length - vs.length) Sl.u)[i]? = some x → x ≠ .u → args[i]? = some x ∧ (L2.start N vs)[i]? = (vs.map some)[i]? := fun {i x} h n => by
    by_cases hi : i < args.length
    · rw [List.getElem?_append_left hi] at h
      refine ⟨h, ?_⟩
      unfold L2.start
      rw [List.getElem?_append_left (by rw [List.length_map]; omega)]
    · rw [List.getElem?_append_right (by omega), List.getElem?_replicate] at h
      split at h
      · cases h; exact absurd rfl n
      · cases h
  refine ⟨ok.sub, ok.gsub, ok.disj, ?_, fun i d h => ?_, fun i d h => ?_, fun i d h => ?_, fun i j b c p hij h1 h2 h3 => ?_⟩
  · unfold L2.start
    rw [List.length_append, List.length_append, List.length_map, List.length_replicate, List.length_replicate, hla]
  · obtain ⟨h1, h2⟩ := go h (fun z => nomatch z)
    rw [h2]
    exact ok.val i d h1
  · obtain ⟨h1, h2⟩ := go h (fun z => nomatch z)
    rw [h2]
    exact ok.own i d h1
  · obtain ⟨h1, h2⟩ := go h (fun z => nomatch z)
    rw [h2]
    exact ok.scr i d h1
  · obtain ⟨a1, a2⟩ := go h1 (fun z => nomatch z)
    obtain ⟨b1, b2⟩ := go h2 (fun z => nomatch z)
    rw [a2] at h3
    rw [b2]
    exact ok.apart i j b c p hij a1 b1 h3
end
/-- a def of the text, at its name -/
structure Tp (K : Kf) (mg : Str → Option Value) (x : Str) (st : Stmt) : Prop where
  ex : ∃ f fd, Fun K x x st f fd ∧ mg x = some (.ref f)
section
variable {P : Program} {w : World} {K : Kf} {mg : Str → Option Value} {base : Heap}
theorem fn_mk {x : Str} {st : Stmt} {f : Addr} {fd : FuncData} {N ps : List Str} {k nsl np : Nat} {pr : List Nat} {m : MS} (F : Fun K x x st f fd) (S : FnScope N ps (defScope st)) (hn : N.length = nsl) (hp : ps.length = np) (hpr : ∀ i ∈ pr, i < np)
    (hbody : ∀ (f : Addr) (cdv : Value) (A : Around) (outer : List Env) (s : Shared) (H : Hp) (E : XK), Room k (A.deeper (envOfC x (defScope st) s.heap.objs.size f cdv)) →
      PSs (cxOf CX0 P w K mg base N x (defScope st) f cdv A outer s H E).nox (defBody st) (rdS K pr m)) : FnOk P w K mg base CX0 (k + 1) f fd ps (Prm K np (defM nsl np pr m)) := by
  subst hn hp
  have hpl : ps.length ≤ N.length := by have := congrArg List.length S.pre; rw [List.length_take] at this; omega
  refine F.ok S (fun vs H Q E h => h.1) (fun cdv A outer s H vs Q E hr h => ⟨_, hbody f cdv A outer s H E hr, ?_⟩)
  obtain ⟨hl, F0, G, args, r, args', ok, hf, q⟩ := h
  unfold defM at hf
  have hla : args.length = ps.length := by
    have := ok.len
    rw [List.length_map, hl] at this
    exact this.symm
  rw [if_pos hla] at hf
  have hst : ∀ i ∈ pr, (L2.start N vs)[i]? = (vs.map some)[i]? := fun i hi => by
    unfold L2.start
    rw [List.getElem?_append_left (by rw [List.length_map, hl]; exact hpr i hi)]
  have ok0 := ok.start (N := N) (by rw [hl]; exact hpl)
  rw [hl] at ok0
  split at hf
  · rename_i ρ hm
    cases hf
    refine ⟨F0, G, _, .nx, ρ, ok0, hm, fun σ' F' H' s' ok' p' => ?_⟩
    obtain ⟨o1, o2⟩ := ok'.outs (pr := pr) hl (fun i hi _ => (p'.2 i hi).trans (hst i hi))
    exact q .non F' H' s' o1 rfl
  · rename_i d ρ hm
    cases hf
    refine ⟨F0, G, _, _, ρ, ok0, hm, fun v σ' F' H' s' ok' p' hr => ?_⟩
    obtain ⟨o1, o2⟩ := ok'.outs (pr := pr) hl (fun i hi _ => (p'.2 i hi).trans (hst i hi))
    exact q v F' H' s' o1 hr
  · rename_i d ρ hm
    cases hf
    refine ⟨F0, G, _, _, ρ, ok0, hm, fun v σ' F' H' s' ok' p' hn ho => ?_⟩
    obtain ⟨o1, o2⟩ := ok'.outs (pr := pr) hl (fun i hi _ => (p'.2 i hi).trans (hst i hi))
    exact q _ F' H' s' o1 ⟨v, rfl, o2 v hn, ho⟩
  · cases hf
theorem df_mk {x : Str} {st : Stmt} {N ps : List Str} {k nsl np : Nat} {pr : List Nat} {m : MS} (T : Tp K mg x st) (S : FnScope N ps (defScope st)) (hn : N.length = nsl) (hp : ps.length = np) (hpr : ∀ i ∈ pr, i < np)
    (hbind : ∀ (kV doc pm : Value) (an : Option Addr) (cdv ct : Value) (us : List Value), us.length = ps.length → bindArgs (PySem.W.fnOf x x (defArgs st) (defBody st) (defScope st) .none kV doc pm an cdv ct) ⟨us, []⟩ = pure (ps.zip us))
    (hbody : ∀ (f : Addr) (cdv : Value) (A : Around) (outer : List Env) (s : Shared) (H : Hp) (E : XK), Room k (A.deeper (envOfC x (defScope st) s.heap.objs.size f cdv)) →
      PSs (cxOf CX0 P w K mg base N x (defScope st) f cdv A outer s H E).nox (defBody st) (rdS K pr m)) : Df P w K mg base (k + 1) x np (defM nsl np pr m) := by
  obtain ⟨f, fd, F, hm⟩ := T.ex
  exact ⟨⟨f, fd, ps, fn_mk F S hn hp hpr hbody, hm, F.kp, F.binds hbind⟩, defM_len⟩
theorem Df.mono {j k n : Nat} {x : Str} {f : Fn} (d : Df P w K mg base j x n f) (h : j ≤ k) : Df P w K mg base k x n f := by
  obtain ⟨fa, fd, ps, F, r⟩ := d.ex
  exact ⟨⟨fa, fd, ps, F.mono h, r⟩, d.len⟩
end
/-- a constant of the module -/
structure Kc (K : Kf) (mg : Str → Option Value) (x : Str) (d : D) : Prop where
  ex : ∃ v u, mg x = some u ∧ RelV v u ∧ ∀ F, Rp K F d v
theorem Kc.v {X : Cx} {x : Str} {d : D} {pos : Pos} (c : Kc X.K X.mg x d) (hg : Gl X x) (hdb : (x == ("__debug__" : Str)) = false := by decide) : PE X (.Name x pos) (rdV X.K (cM d)) := by
  obtain ⟨v, u, h1, h2, h3⟩ := c.ex
  exact v_glob hg h1 h2 h3 hdb
/-- a tuple of the module, by its items -/
theorem SqT.kt {K : Kf} {F : Hp} {a : Addr} {od : Option Addr} {its : Array Value} {n : Nat} {sl : Array (Option Value)} {xs : List V} (l : K.lookup a = some ⟨.type "tuple", od, .seq its n, sl⟩) (hz : its.size ≤ sizeLine) (r : Vals xs its.toList) : SqT K F a xs :=
  .inr ⟨_, its, n, l, rfl, rfl, hz, r⟩
/-- the law's end -/
theorem law_end {K : Kf} {H : Hp} {a : Addr} {ns : List Int} {f : Fn} {E : XK} (h : ∃ as, f [.s ns] = some (.v (.bool true), as)) (hS : SqL K H a (ns.map V.int)) : Prm K 1 f [.ref a] H (fun v _ => v = .bl true) E := by
  obtain ⟨as, h⟩ := h
  refine ⟨rfl, H, fun _ => none, [.s ns], _, as, ⟨Same.refl H, fun a o e => (nomatch e), fun a o e => (nomatch e), rfl, fun i d e => ?_, fun i d e => ?_, fun i d e => ?_, fun i j b c p hij h1 => ?_⟩, h, fun v F' H' s ok r => r⟩
  · cases i with
    | zero => cases e
    | succ i => simp at e
  · cases i with
    | zero => cases e
    | succ i => simp at e
  · cases i with
    | zero => cases e; exact ⟨a, rfl, hS⟩
    | succ i => simp at e
  · cases i with
    | zero => cases h1
    | succ i => simp at h1
end Fx
/-! Fx: methods of lists, built-in functions. -/
namespace Fx
open PySem PySem.Spec PyProof.Rows L2
/-- slot i is an own list -/
def ownLM (i : Nat) : M Unit := fun ρ => match ρ[i]? with
  | some (.o (.lst _)) => some ((), ρ)
  | _ => none
theorem ownL_some {i : Nat} {ρ ρ' : Rho} {u : Unit} (h : ownLM i ρ = some (u, ρ')) : ρ' = ρ ∧ ∃ xs, ρ[i]? = some (.o (.lst xs)) := by
  unfold ownLM at h
  split at h
  · rename_i b hb
    cases h
    exact ⟨rfl, b, hb⟩
  · cases h
def pushL (i : Nat) (d : D) : M D := fun ρ => match ρ[i]? with
  | some (.o (.lst xs)) => if decide (xs.length < sizeLine) then some (.none, ρ.set i (.o (.lst (xs ++ [d])))) else none
  | _ => none
def appM (i : Nat) (m : M D) : M D := bnd (ownLM i) fun _ => bnd m fun d => pushL i d
/-- pop's place -/
def popL (i : Nat) (k : D) : M D := fun ρ => match ρ[i]?, k with
  | some (.o (.lst xs)), .int k => if decide (-(2 ^ 63) ≤ k) && decide (k < 2 ^ 63) then (match seqIndex? k xs.length with
    | some j => (match xs[j]? with
      | some y => some (y, ρ.set i (.o (.lst (xs.eraseIdx j))))
      | none => none)
    | none => none) else none
  | _, _ => none
def popAtM (i : Nat) (m : M D) : M D := bnd (ownLM i) fun _ => bnd m fun d => popL i d
def popLast (i : Nat) : M D := fun ρ => match ρ[i]? with
  | some (.o (.lst xs)) => (match xs[xs.length - 1]? with
      | some y => some (y, ρ.set i (.o (.lst xs.dropLast)))
      | none => none)
  | _ => none
def insL (i : Nat) (k d : D) : M D := fun ρ => match ρ[i]?, k with
  | some (.o (.lst xs)), .int k => if decide (xs.length < sizeLine) && decide (0 ≤ k) && decide (k < 2 ^ 63) then some (.none, ρ.set i (.o (.lst (xs.take k.toNat ++ [d] ++ xs.drop k.toNat)))) else none
  | _, _ => none
def insM (i : Nat) (m n : M D) : M D := bnd (ownLM i) fun _ => bnd m fun k => bnd n fun d => insL i k d
def extL (i : Nat) (r : Rf) : M D := fun ρ => match ρ[i]?, look ρ r with
  | some (.o (.lst xs)), some (.list ys) => if fitS (xs.length + ys.length) then some (.none, ρ.set i (.o (.lst (xs ++ ys)))) else none
  | _, _ => none
def extM (i : Nat) (m : M Rf) : M D := bnd (ownLM i) fun _ => bnd m fun r => extL i r
section
variable {X : Cx} {e o : Expr} {es : List Expr} {pos apos px : Pos} {i : Nat} {x : Str}
theorem v_app (i : Nat) {x : Str} {px apos pos : Pos} {m : M D} (he : PE X e (rdV X.K m)) (hN : X.N[i]? = some x := by rfl) (hv : Vis X.env.scope x := by first | exact Or.inl rfl | exact Or.inr (Or.inl rfl) | exact Or.inr (Or.inr rfl)) (hd : (x == ("__debug__" : Str)) = false := by decide)
    (hcd : (x == ("__classdict__" : Str)) = false := by decide)
    (hbase : attributeBase (.Name x px) "append" X.env (eval (.Name x px) X.env) = eval (.Name x px) X.env := by rfl)
    (hfew : ((backTo pos (starEach (e :: []) X.env)).all (fun x => !x.1) && (backToKw pos (keywordEach [] X.env)).all (fun x => x.1.isSome)
      && decide ((e :: []).length + ([] : List Keyword).length + (if ([] : List Keyword).isEmpty then 0 else 1) < 30)) = true := by rfl)
    (hline : (apos.endLine == pos.line) = true := by rfl) (hs : starEach (e :: []) X.env = (false, eval e X.env) :: starEach [] X.env := by rfl) (hplain : (backTo pos (starEach [] X.env)).any (·.1) = false := by rfl) :
    PE X (.Call (.Attribute (.Name x px) "append" apos) [e] [] pos) (rdV X.K (appM i m)) := by
  refine pe_imp (pe_bm PySem.F.plainAttrs_list PySem.F.slot_list_append PySem.F.type_list_append mt_append (pe_var (i := i) hN hv hd hcd) (pa_cons he pa_nil hs) hbase hfew hline hs hplain) fun σ H Q h => ?_
  obtain ⟨F, G, ρ, d, ρ', ok, hm, q⟩ := h
  obtain ⟨u, ρ1, h1, h2⟩ := bnd_some hm
  obtain ⟨rfl, xs, hx⟩ := ownL_some h1
  obtain ⟨y, ρ2, h3, h4⟩ := bnd_some h2
  obtain ⟨p, hp, _, _, vs, hl, _⟩ := ok.own i _ hx
  refine ⟨.ref p, hp, .inl ⟨rfl, vs, SqL.of hl⟩, F, G, ρ1, y, ρ2, ok, h3, fun v F1 H1 s1 ok1 r1 => ?_⟩
  unfold pushL at h4
  split at h4
  · rename_i zs hz
    split at h4
    · rename_i hlt
      cases h4
      obtain ⟨p', hp', _, _, ws, g1, g2⟩ := ok1.own i _ hz
      rw [hp] at hp'
      cases hp'
      refine ⟨p, ws, v, rfl, rfl, g1, by rw [g2.length]; exact of_decide_eq_true hlt, ?_⟩
      exact q .non F1 _ s1 (ok1.turn hz hp ⟨_, upd_same, g2.append ⟨v, [], rfl, r1, rfl⟩⟩) rfl
    · cases h4
  · cases h4
theorem v_popAt (i : Nat) {x : Str} {px apos pos : Pos} {m : M D} (he : PE X e (rdV X.K m)) (hN : X.N[i]? = some x := by rfl) (hv : Vis X.env.scope x := by first | exact Or.inl rfl | exact Or.inr (Or.inl rfl) | exact Or.inr (Or.inr rfl)) (hd : (x == ("__debug__" : Str)) = false := by decide)
    (hcd : (x == ("__classdict__" : Str)) = false := by decide)
    (hbase : attributeBase (.Name x px) "pop" X.env (eval (.Name x px) X.env) = eval (.Name x px) X.env := by rfl)
    (hfew : ((backTo pos (starEach (e :: []) X.env)).all (fun x => !x.1) && (backToKw pos (keywordEach [] X.env)).all (fun x => x.1.isSome)
      && decide ((e :: []).length + ([] : List Keyword).length + (if ([] : List Keyword).isEmpty then 0 else 1) < 30)) = true := by rfl)
    (hline : (apos.endLine == pos.line) = true := by rfl) (hs : starEach (e :: []) X.env = (false, eval e X.env) :: starEach [] X.env := by rfl) (hplain : (backTo pos (starEach [] X.env)).any (·.1) = false := by rfl) :
    PE X (.Call (.Attribute (.Name x px) "pop" apos) [e] [] pos) (rdV X.K (popAtM i m)) := by
  refine pe_imp (pe_bm PySem.F.plainAttrs_list PySem.F.slot_list_pop PySem.F.type_list_pop mt_popAt (pe_var (i := i) hN hv hd hcd) (pa_cons he pa_nil hs) hbase hfew hline hs hplain) fun σ H Q h => ?_
  obtain ⟨F, G, ρ, d, ρ', ok, hm, q⟩ := h
  obtain ⟨u, ρ1, h1, h2⟩ := bnd_some hm
  obtain ⟨rfl, xs, hx⟩ := ownL_some h1
  obtain ⟨y, ρ2, h3, h4⟩ := bnd_some h2
  obtain ⟨p, hp, _, _, vs, hl, _⟩ := ok.own i _ hx
  refine ⟨.ref p, hp, .inl ⟨rfl, vs, SqL.of hl⟩, F, G, ρ1, y, ρ2, ok, h3, fun v F1 H1 s1 ok1 r1 => ?_⟩
  unfold popL at h4
  split at h4
  · rename_i zs k hz
    split at h4
    · rename_i hb
      rw [Bool.and_eq_true] at hb
      split at h4
      · rename_i j hj
        split at h4
        · rename_i z hzj
          cases h4
          obtain ⟨p', hp', _, _, ws, g1, g2⟩ := ok1.own i _ hz
          rw [hp] at hp'
          cases hp'
          cases (show v = _ from r1)
          obtain ⟨wv, hw, rw'⟩ := g2.get hzj
          refine ⟨p, ws, k, j, wv, rfl, rfl, g1, of_decide_eq_true hb.1, of_decide_eq_true hb.2, by rw [g2.length]; exact hj, hw, ?_⟩
          exact q wv F1 _ s1 (ok1.turn hz hp ⟨_, upd_same, Rps.eraseIdx j g2⟩) rw'
        · cases h4
      · cases h4
    · cases h4
  · cases h4
theorem v_pop (i : Nat) {x : Str} {px apos pos : Pos} (hN : X.N[i]? = some x := by rfl) (hv : Vis X.env.scope x := by first | exact Or.inl rfl | exact Or.inr (Or.inl rfl) | exact Or.inr (Or.inr rfl)) (hd : (x == ("__debug__" : Str)) = false := by decide)
    (hcd : (x == ("__classdict__" : Str)) = false := by decide)
    (hbase : attributeBase (.Name x px) "pop" X.env (eval (.Name x px) X.env) = eval (.Name x px) X.env := by rfl) (hline : (apos.endLine == pos.line) = true := by rfl) :
    PE X (.Call (.Attribute (.Name x px) "pop" apos) [] [] pos) (rdV X.K (popLast i)) := by
  refine pe_imp (pe_bm0 PySem.F.plainAttrs_list PySem.F.slot_list_pop PySem.F.type_list_pop mt_pop (pe_var (i := i) hN hv hd hcd) hbase hline) fun σ H Q h => ?_
  obtain ⟨F, G, ρ, d, ρ', ok, hm, q⟩ := h
  unfold popLast at hm
  split at hm
  · rename_i xs hx
    split at hm
    · rename_i y hy
      cases hm
      obtain ⟨p, hp, _, _, vs, hl, g2⟩ := ok.own i _ hx
      obtain ⟨wv, hw, rw'⟩ := g2.get hy
      refine ⟨.ref p, hp, .inl ⟨rfl, vs, SqL.of hl⟩, p, vs, wv, rfl, rfl, hl, by rw [g2.length]; exact hw, ?_⟩
      refine q wv F _ (Same.refl F) (ok.turn hx hp ⟨_, upd_same, ?_⟩) rw'
      rw [List.dropLast_eq_take, List.dropLast_eq_take, g2.length]
      exact g2.take _
    · cases hm
  · cases hm
theorem v_ins (i : Nat) {x : Str} {px apos pos : Pos} {e2 : Expr} {m n : M D} (he : PE X e (rdV X.K m)) (he2 : PE X e2 (rdV X.K n)) (hN : X.N[i]? = some x := by rfl) (hv : Vis X.env.scope x := by first | exact Or.inl rfl | exact Or.inr (Or.inl rfl) | exact Or.inr (Or.inr rfl)) (hd : (x == ("__debug__" : Str)) = false := by decide)
    (hcd : (x == ("__classdict__" : Str)) = false := by decide)
    (hbase : attributeBase (.Name x px) "insert" X.env (eval (.Name x px) X.env) = eval (.Name x px) X.env := by rfl)
    (hfew : ((backTo pos (starEach (e :: [e2]) X.env)).all (fun x => !x.1) && (backToKw pos (keywordEach [] X.env)).all (fun x => x.1.isSome)
      && decide ((e :: [e2]).length + ([] : List Keyword).length + (if ([] : List Keyword).isEmpty then 0 else 1) < 30)) = true := by rfl)
    (hline : (apos.endLine == pos.line) = true := by rfl) (hs : starEach (e :: [e2]) X.env = (false, eval e X.env) :: starEach [e2] X.env := by rfl) (hs2 : starEach (e2 :: []) X.env = (false, eval e2 X.env) :: starEach [] X.env := by rfl) (hplain : (backTo pos (starEach [e2] X.env)).any (·.1) = false := by rfl) :
    PE X (.Call (.Attribute (.Name x px) "insert" apos) [e, e2] [] pos) (rdV X.K (insM i m n)) := by
  refine pe_imp (pe_bm PySem.F.plainAttrs_list PySem.F.slot_list_insert PySem.F.type_list_insert mt_insert (pe_var (i := i) hN hv hd hcd) (pa_cons he (pa_cons he2 pa_nil hs2) hs) hbase hfew hline hs hplain) fun σ H Q h => ?_
  obtain ⟨F, G, ρ, d, ρ', ok, hm, q⟩ := h
  obtain ⟨u, ρ1, h1, h2⟩ := bnd_some hm
  obtain ⟨rfl, xs, hx⟩ := ownL_some h1
  obtain ⟨k, ρ2, h3, h4⟩ := bnd_some h2
  obtain ⟨y, ρ3, h5, h6⟩ := bnd_some h4
  obtain ⟨p, hp, _, _, vs, hl, _⟩ := ok.own i _ hx
  refine ⟨.ref p, hp, .inl ⟨rfl, vs, SqL.of hl⟩, F, G, ρ1, k, ρ2, ok, h3, fun kv F1 H1 s1 ok1 r1 => ⟨F1, G, ρ2, y, ρ3, ok1, h5, fun v F2 H2 s2 ok2 r2 => ?_⟩⟩
  unfold insL at h6
  split at h6
  · rename_i zs k hz
    split at h6
    · rename_i hb
      rw [Bool.and_eq_true, Bool.and_eq_true] at hb
      cases h6
      obtain ⟨p', hp', _, _, ws, g1, g2⟩ := ok2.own i _ hz
      rw [hp] at hp'
      cases hp'
      cases (show kv = _ from r1)
      refine ⟨p, ws, k, v, rfl, rfl, g1, by rw [g2.length]; exact of_decide_eq_true hb.1.1, of_decide_eq_true hb.1.2, of_decide_eq_true hb.2, ?_⟩
      exact q .non F2 _ (s1.trans s2) (ok2.turn hz hp ⟨_, upd_same, ((g2.take _).append (Rps.one r2)).append (g2.drop _)⟩) rfl
    · cases h6
  · cases h6
theorem v_ext (i : Nat) {x : Str} {px apos pos : Pos} {m : M Rf} (he : PE X e (rdB X.K m)) (hN : X.N[i]? = some x := by rfl) (hv : Vis X.env.scope x := by first | exact Or.inl rfl | exact Or.inr (Or.inl rfl) | exact Or.inr (Or.inr rfl)) (hd : (x == ("__debug__" : Str)) = false := by decide)
    (hcd : (x == ("__classdict__" : Str)) = false := by decide)
    (hbase : attributeBase (.Name x px) "extend" X.env (eval (.Name x px) X.env) = eval (.Name x px) X.env := by rfl)
    (hfew : ((backTo pos (starEach (e :: []) X.env)).all (fun x => !x.1) && (backToKw pos (keywordEach [] X.env)).all (fun x => x.1.isSome)
      && decide ((e :: []).length + ([] : List Keyword).length + (if ([] : List Keyword).isEmpty then 0 else 1) < 30)) = true := by rfl)
    (hline : (apos.endLine == pos.line) = true := by rfl) (hs : starEach (e :: []) X.env = (false, eval e X.env) :: starEach [] X.env := by rfl) (hplain : (backTo pos (starEach [] X.env)).any (·.1) = false := by rfl) :
    PE X (.Call (.Attribute (.Name x px) "extend" apos) [e] [] pos) (rdV X.K (extM i m)) := by
  refine pe_imp (pe_bm PySem.F.plainAttrs_list PySem.F.slot_list_extend PySem.F.type_list_extend mt_extend (pe_var (i := i) hN hv hd hcd) (pa_cons he pa_nil hs) hbase hfew hline hs hplain) fun σ H Q h => ?_
  obtain ⟨F, G, ρ, d, ρ', ok, hm, q⟩ := h
  obtain ⟨u, ρ1, h1, h2⟩ := bnd_some hm
  obtain ⟨rfl, xs, hx⟩ := ownL_some h1
  obtain ⟨y, ρ2, h3, h4⟩ := bnd_some h2
  obtain ⟨p, hp, _, _, vs, hl, _⟩ := ok.own i _ hx
  refine ⟨.ref p, hp, .inl ⟨rfl, vs, SqL.of hl⟩, F, G, ρ1, y, ρ2, ok, h3, fun v F1 H1 s1 ok1 r1 => ?_⟩
  unfold extL at h4
  split at h4
  · rename_i zs ys hz hy
    split at h4
    · rename_i hlt
      cases h4
      obtain ⟨p', hp', _, _, ws, g1, g2⟩ := ok1.own i _ hz
      rw [hp] at hp'
      cases hp'
      obtain ⟨b, us, rfl, k1, k2⟩ := (look_ok ok1 r1 hy).list ok1.sub
      refine ⟨p, b, ws, us, rfl, rfl, g1, k1, by rw [g2.length, k2.length]; exact of_decide_eq_true hlt, ?_⟩
      exact q .non F1 _ s1 (ok1.turn hz hp ⟨_, upd_same, g2.append k2⟩) rfl
    · cases h4
  · cases h4
end
/-! ### built-in functions of one argument -/
def b1M {α : Type} (f : D → Option α) (m : M Rf) : M α := bnd m fun r => fun ρ => match look ρ r with
  | some x => (f x).map fun z => (z, ρ)
  | none => none
theorem b1_some {α : Type} {f : D → Option α} {m : M Rf} {ρ ρ' : Rho} {z : α} (h : b1M f m ρ = some (z, ρ')) : ∃ r x, m ρ = some (r, ρ') ∧ look ρ' r = some x ∧ f x = some z := by
  obtain ⟨r, ρ1, h1, h⟩ := bnd_some h
  have h : (match look ρ1 r with
    | some x => (f x).map fun z => (z, ρ1)
    | none => none) = some (z, ρ') := h
  split at h
  · rename_i x hx
    cases hf : f x with
    | none => rw [hf] at h; cases h
    | some w => rw [hf] at h; cases h; exact ⟨r, x, h1, hx, hf⟩
  · cases h
def CbD (K : Kf) (f : D → Option D) (r : List V → Hp → VK → Prop) : Prop :=
  ∀ (F G H : Hp) (σ : L2.St) (ρ : Rho) (x d : D) (v : V) (Q : VK), Ok K F G H σ ρ → Vw K F H v x → f x = some d → (∀ z F' H', Same F F' → Ok K F' G H' σ ρ → Rp K F' d z → Q z H') → r [v] H Q
def CbN (K : Kf) (f : D → Option Own) (r : List V → Hp → VK → Prop) : Prop :=
  ∀ (F G H : Hp) (σ : L2.St) (ρ : Rho) (x : D) (d : Own) (v : V) (Q : VK), Ok K F G H σ ρ → Vw K F H v x → f x = some d → (∀ p F' H', Same F F' → Ok K F' G H' σ ρ → New F' G σ ρ p → OwnAt K F' H' p d → Q (.ref p) H') → r [v] H Q
section
variable {X : Cx} {e : Expr} {pos p : Pos} {x : Str} {id T : String} {r : List V → Hp → VK → Prop} {m : M Rf} {K : Kf}
theorem v_b1 {f : D → Option D} (hc : CallR X (.builtin id) r) (hf : CbD X.K f r) (hg : Gl X x) (hm : X.mg x = none) (hv : bootBuiltins x = some (.builtin id)) (ha : PE X e (rdB X.K m)) (hn : x ≠ "__name__" := by decide) (hdb : (x == ("__debug__" : Str)) = false := by decide)
    (he : starEach (e :: []) X.env = (false, eval e X.env) :: starEach [] X.env := by rfl) (hpl : (backTo pos (starEach [] X.env)).any (·.1) = false := by rfl) : PE X (.Call (.Name x p) [e] [] pos) (rdV X.K (b1M f m)) := by
  refine pe_imp (pe_callB hc hg hm hv (pa_cons ha pa_nil he) hn hdb he hpl) fun σ H Q h => ?_
  obtain ⟨F, G, ρ, d, ρ', ok, hm, q⟩ := h
  obtain ⟨r, y, h1, h2, h3⟩ := b1_some hm
  exact ⟨F, G, ρ, r, ρ', ok, h1, fun v F1 H1 s1 ok1 r1 => hf F1 G H1 σ ρ' y d v Q ok1 (look_ok ok1 r1 h2) h3 fun z F2 H2 s2 ok2 r2 => q z F2 H2 (s1.trans s2) ok2 r2⟩
theorem v_t1 {f : D → Option D} (hc : CallR X (.type T) r) (hf : CbD X.K f r) (hg : Gl X x) (hm : X.mg x = none) (hv : bootBuiltins x = some (.type T)) (ha : PE X e (rdB X.K m)) (hn : x ≠ "__name__" := by decide) (hdb : (x == ("__debug__" : Str)) = false := by decide)
    (he : starEach (e :: []) X.env = (false, eval e X.env) :: starEach [] X.env := by rfl) (hpl : (backTo pos (starEach [] X.env)).any (·.1) = false := by rfl) : PE X (.Call (.Name x p) [e] [] pos) (rdV X.K (b1M f m)) := by
  refine pe_imp (pe_callTy hc hg hm hv (pa_cons ha pa_nil he) hn hdb he hpl) fun σ H Q h => ?_
  obtain ⟨F, G, ρ, d, ρ', ok, hm, q⟩ := h
  obtain ⟨r, y, h1, h2, h3⟩ := b1_some hm
  exact ⟨F, G, ρ, r, ρ', ok, h1, fun v F1 H1 s1 ok1 r1 => hf F1 G H1 σ ρ' y d v Q ok1 (look_ok ok1 r1 h2) h3 fun z F2 H2 s2 ok2 r2 => q z F2 H2 (s1.trans s2) ok2 r2⟩
theorem n_b1 {f : D → Option Own} (hc : CallR X (.builtin id) r) (hf : CbN X.K f r) (hg : Gl X x) (hm : X.mg x = none) (hv : bootBuiltins x = some (.builtin id)) (ha : PE X e (rdB X.K m)) (hn : x ≠ "__name__" := by decide) (hdb : (x == ("__debug__" : Str)) = false := by decide)
    (he : starEach (e :: []) X.env = (false, eval e X.env) :: starEach [] X.env := by rfl) (hpl : (backTo pos (starEach [] X.env)).any (·.1) = false := by rfl) : PE X (.Call (.Name x p) [e] [] pos) (rdN X.K (b1M f m)) := by
  refine pe_imp (pe_callB hc hg hm hv (pa_cons ha pa_nil he) hn hdb he hpl) fun σ H Q h => ?_
  obtain ⟨F, G, ρ, d, ρ', ok, hm, q⟩ := h
  obtain ⟨r, y, h1, h2, h3⟩ := b1_some hm
  exact ⟨F, G, ρ, r, ρ', ok, h1, fun v F1 H1 s1 ok1 r1 => hf F1 G H1 σ ρ' y d v Q ok1 (look_ok ok1 r1 h2) h3 fun z F2 H2 s2 ok2 r2 => q z F2 H2 (s1.trans s2) ok2 r2⟩
theorem n_t1 {f : D → Option Own} (hc : CallR X (.type T) r) (hf : CbN X.K f r) (hg : Gl X x) (hm : X.mg x = none) (hv : bootBuiltins x = some (.type T)) (ha : PE X e (rdB X.K m)) (hn : x ≠ "__name__" := by decide) (hdb : (x == ("__debug__" : Str)) = false := by decide)
    (he : starEach (e :: []) X.env = (false, eval e X.env) :: starEach [] X.env := by rfl) (hpl : (backTo pos (starEach [] X.env)).any (·.1) = false := by rfl) : PE X (.Call (.Name x p) [e] [] pos) (rdN X.K (b1M f m)) := by
  refine pe_imp (pe_callTy hc hg hm hv (pa_cons ha pa_nil he) hn hdb he hpl) fun σ H Q h => ?_
  obtain ⟨F, G, ρ, d, ρ', ok, hm, q⟩ := h
  obtain ⟨r, y, h1, h2, h3⟩ := b1_some hm
  exact ⟨F, G, ρ, r, ρ', ok, h1, fun v F1 H1 s1 ok1 r1 => hf F1 G H1 σ ρ' y d v Q ok1 (look_ok ok1 r1 h2) h3 fun z F2 H2 s2 ok2 r2 => q z F2 H2 (s1.trans s2) ok2 r2⟩
def lenD : D → Option D
  | .list xs => some (.int xs.length)
  | .tuple xs => some (.int xs.length)
  | .str s => if fitS s.length then some (.int s.length) else none
  | _ => none
theorem cbd_len : CbD K lenD (fun xs H Q => ∃ x n, xs = [x] ∧ LenV K x H n ∧ Q (.int n) H) := by
  intro F G H σ ρ x d v Q ok hx hf q
  unfold lenD at hf
  split at hf
  · cases hf
    obtain ⟨p, vs, rfl, h1, h2⟩ := hx.list ok.sub
    refine ⟨_, _, rfl, .inl ⟨vs, SqL.of h1, rfl⟩, ?_⟩
    rw [h2.length]
    exact q _ F H (Same.refl F) ok rfl
  · cases hf
    obtain ⟨p, vs, rfl, h1, _, h2⟩ := hx.tuple ok.sub
    refine ⟨_, _, rfl, .inr ⟨vs, h1, rfl⟩, ?_⟩
    rw [h2.length]
    exact q _ F H (Same.refl F) ok rfl
  · split at hf
    · rename_i hz
      cases hf
      have e := hx.str
      subst e
      exact ⟨_, _, rfl, ⟨of_decide_eq_true hz, rfl⟩, q _ F H (Same.refl F) ok rfl⟩
    · cases hf
  · cases hf
def absD : D → Option D
  | .int i => some (.int (if i < 0 then -i else i))
  | _ => none
theorem cbd_abs : CbD K absD (fun xs H Q => ∃ i, xs = [.int i] ∧ Q (.int (if i < 0 then -i else i)) H) := by
  intro F G H σ ρ x d v Q ok hx hf q
  unfold absD at hf
  split at hf
  · cases hf
    have e := hx.int
    subst e
    exact ⟨_, rfl, q _ F H (Same.refl F) ok rfl⟩
  · cases hf
def intD : D → Option D
  | .int i => some (.int i)
  | .bool b => some (.int (if b then 1 else 0))
  | _ => none
theorem cbd_int : CbD K intD (fun xs H Q => (∃ i, xs = [.int i] ∧ Q (.int i) H) ∨ ∃ k, xs = [.bl k] ∧ Q (.int (if k then 1 else 0)) H) := by
  intro F G H σ ρ x d v Q ok hx hf q
  unfold intD at hf
  split at hf
  · cases hf
    have e := hx.int
    subst e
    exact .inl ⟨_, rfl, q _ F H (Same.refl F) ok rfl⟩
  · cases hf
    have e := hx.bl
    subst e
    exact .inr ⟨_, rfl, q _ F H (Same.refl F) ok rfl⟩
  · cases hf
/-- all items are ints -/
def intsOf : List D → Option (List Int)
  | [] => some []
  | .int i :: ds => (intsOf ds).map fun ns => i :: ns
  | _ => none
theorem intsOf_eq : ∀ {ds : List D} {ns : List Int}, intsOf ds = some ns → ds = ns.map PyData.int
  | [], _, h => by cases h; rfl
  | .int i :: ds, ns, h => by
    cases hr : intsOf ds with
    | none => simp [intsOf, hr] at h
    | some ms =>
      simp [intsOf, hr] at h
      subst h
      rw [intsOf_eq hr]
      rfl
  | .none :: _, _, h => by cases h
  | .bool _ :: _, _, h => by cases h
  | .str _ :: _, _, h => by cases h
  | .list _ :: _, _, h => by cases h
  | .tuple _ :: _, _, h => by cases h
  | .dict _ :: _, _, h => by cases h
theorem intsOf_map (ns : List Int) : intsOf (ns.map PyData.int) = some ns := by
  induction ns with
  | nil => rfl
  | cons n ns ih => show (intsOf (ns.map PyData.int)).map _ = _; rw [ih]; rfl
def boolsOf : List D → Option (List Bool)
  | [] => some []
  | .bool i :: ds => (boolsOf ds).map fun ns => i :: ns
  | _ => none
theorem boolsOf_eq : ∀ {ds : List D} {ns : List Bool}, boolsOf ds = some ns → ds = ns.map PyData.bool
  | [], _, h => by cases h; rfl
  | .bool i :: ds, ns, h => by
    cases hr : boolsOf ds with
    | none => simp [boolsOf, hr] at h
    | some ms =>
      simp [boolsOf, hr] at h
      subst h
      rw [boolsOf_eq hr]
      rfl
  | .none :: _, _, h => by cases h
  | .int _ :: _, _, h => by cases h
  | .str _ :: _, _, h => by cases h
  | .list _ :: _, _, h => by cases h
  | .tuple _ :: _, _, h => by cases h
  | .dict _ :: _, _, h => by cases h
theorem boolsOf_map (ns : List Bool) : boolsOf (ns.map PyData.bool) = some ns := by
  induction ns with
  | nil => rfl
  | cons n ns ih => show (boolsOf (ns.map PyData.bool)).map _ = _; rw [ih]; rfl
end
end Fx
/-! Fx: sum, min, max, any, all, list, tuple, sorted, isinstance. -/
namespace Fx
open PySem PySem.Spec PyProof.Rows L2
section
variable {prog : Program} {w : World} {A : Around} {E : Value → Shared → Prop} {s : Shared} {l : Addr} {its : List Value} {ns : List Int}
theorem iter_tup {its : Array Value} {Q : Value → Shared → Prop} (hl : s.heap.IsTuple l its)
    (h : ∀ s₂ : Shared, s₂ = { s with heap := s.heap.push { cls := .type "tuple_iterator", data := .fields #[.ref l, .int 0 0] } } →
      (s₂.heap.IsTupleIter s.heap.objs.size l 0 ∧ s₂.heap.IsTuple l its) → (∀ b ∈ [s.heap.objs.size, l], b < s₂.heap.objs.size) → l ≠ s.heap.objs.size → Q (.ref s.heap.objs.size) s₂) :
    wpAny (model prog w) A (pyIter (.ref l)) Q E s := by
  have hlt : l < s.heap.objs.size := by obtain ⟨_, e, _⟩ := hl; exact Heap.lt_size e
  refine wpAny_pyIter_tuple hl (h _ rfl ⟨⟨_, Heap.get?_push_size _ rfl, rfl, rfl⟩, hl.push _⟩ (fun b hb => ?_) (Nat.ne_of_lt hlt))
  show b < (s.heap.push _).objs.size
  rw [Heap.size_push]
  rcases List.mem_cons.mp hb with rfl | hb
  · exact Nat.lt_succ_self _
  · rcases List.mem_cons.mp hb with rfl | hb
    · exact Nat.lt_succ_of_lt hlt
    · cases hb
theorem old_kept' {h' : Heap} {o' : Obj} (hk : ∀ b o, b ∉ [s.heap.objs.size] → (s.heap.push o').get? b = some o → h'.get? b = some o) :
    ∀ b o, s.heap.get? b = some o → h'.get? b = some o := fun b o e => by
  refine hk b o (fun hm => ?_) (Heap.get?_push_of_some _ e)
  rcases List.mem_cons.mp hm with e1 | hm
  · exact absurd (e1 ▸ Heap.lt_size e) (Nat.lt_irrefl _)
  · cases hm
theorem sum_tupRaw {Q : Value → Shared → Prop} (hh : A.handled = none) (hl : s.heap.IsTuple l its.toArray) (hi : IntsAre its ns)
    (h : ∀ h' tk t', (∀ b o, s.heap.get? b = some o → h'.get? b = some o) → Q (.int ns.sum t') { s with heap := h', toks := tk }) : wpAny (model prog w) A (call (.builtin "sum") [.ref l]) Q E s := by
  obtain ⟨xs, e⟩ := hi.allInts.items
  have hn : numsOf (intItems xs).toList = ns := by rw [← e]; exact hi.numsOf
  rw [nums_intItems] at hn
  rw [e] at hl
  refine call_sum_walkG (iter_tup hl fun s₂ e st hfp hlI => ?_)
  subst e
  refine ⟨_, _, _, _, _, _, numAt xs, rfl, Walks.tuple (A := A.in1) hh _ l hlI (intItems xs), st, hfp, (fun _ _ => intItems_at), fun h' tk t' hk => ?_⟩
  have := h h' tk t' (old_kept' hk)
  have e : preSum (numAt xs) (intItems xs).size = ns.sum := by
    rw [show (intItems xs).size = xs.size by simp [intItems], preSum_eq, List.take_of_length_le (by simp), hn]
  rw [e]
  exact this
theorem max_tupRaw {Q : Value → Shared → Prop} (hh : A.handled = none) (hl : s.heap.IsTuple l its.toArray) (hi : IntsAre its ns) (hne : 0 < ns.length)
    (h : ∀ h' tk M t', (∀ b o, s.heap.get? b = some o → h'.get? b = some o) → M ∈ ns → (∀ a, a ∈ ns → a ≤ M) → Q (.int M t') { s with heap := h', toks := tk }) : wpAny (model prog w) A (call (.builtin "max") [.ref l]) Q E s := by
  obtain ⟨xs, e⟩ := hi.allInts.items
  have hn : numsOf (intItems xs).toList = ns := by rw [← e]; exact hi.numsOf
  rw [nums_intItems] at hn
  subst hn
  rw [e] at hl
  have hsz : 0 < xs.size := by simpa using hne
  refine call_max_walk (iter_tup hl fun s₂ e st hfp hlI => ?_)
  subst e
  refine ⟨_, _, _, _, _, _, _, rfl, Walks.tuple (A := A.in1) hh _ l hlI (intItems xs), st, hfp, by simpa [intItems] using hsz, CmpOf.ints_gt (numAt xs) (fun _ _ => intItems_at), fun v h' tk hP hk => ?_⟩
  have hv : (intItems xs)[argBest (fun i j => decide (numAt xs i > numAt xs j)) (xs.size - 1)]? = some v := by simpa [intItems] using hP
  obtain ⟨t, rfl⟩ := intItems_at hv
  obtain ⟨h1, h2⟩ := argBest_gt (numAt xs) (xs.size - 1)
  refine h h' tk _ t (old_kept' hk) ?_ fun a ha => ?_
  · rw [numAt_eq]; exact PySem.getD_mem (by rw [List.length_map, Array.length_toList]; omega)
  · obtain ⟨i, hi2, hia⟩ := List.getElem_of_mem ha
    have hlt : i < xs.size := by simpa using hi2
    have e2 : numAt xs i = a := by
      rw [numAt_eq, List.getD_eq_getElem?_getD, List.getElem?_eq_getElem hi2, hia]
      rfl
    rw [← e2]
    exact h2 i (by omega)
theorem min_tupRaw {Q : Value → Shared → Prop} (hh : A.handled = none) (hl : s.heap.IsTuple l its.toArray) (hi : IntsAre its ns) (hne : 0 < ns.length)
    (h : ∀ h' tk M t', (∀ b o, s.heap.get? b = some o → h'.get? b = some o) → M ∈ ns → (∀ a, a ∈ ns → M ≤ a) → Q (.int M t') { s with heap := h', toks := tk }) : wpAny (model prog w) A (call (.builtin "min") [.ref l]) Q E s := by
  obtain ⟨xs, e⟩ := hi.allInts.items
  have hn : numsOf (intItems xs).toList = ns := by rw [← e]; exact hi.numsOf
  rw [nums_intItems] at hn
  subst hn
  rw [e] at hl
  have hsz : 0 < xs.size := by simpa using hne
  refine call_min_walk (iter_tup hl fun s₂ e st hfp hlI => ?_)
  subst e
  refine ⟨_, _, _, _, _, _, _, rfl, Walks.tuple (A := A.in1) hh _ l hlI (intItems xs), st, hfp, by simpa [intItems] using hsz, CmpOf.ints_lt (numAt xs) (fun _ _ => intItems_at), fun v h' tk hP hk => ?_⟩
  have hv : (intItems xs)[argBest (fun i j => decide (numAt xs i < numAt xs j)) (xs.size - 1)]? = some v := by simpa [intItems] using hP
  obtain ⟨t, rfl⟩ := intItems_at hv
  obtain ⟨h1, h2⟩ := argBest_lt (numAt xs) (xs.size - 1)
  refine h h' tk _ t (old_kept' hk) ?_ fun a ha => ?_
  · rw [numAt_eq]; exact PySem.getD_mem (by rw [List.length_map, Array.length_toList]; omega)
  · obtain ⟨i, hi2, hia⟩ := List.getElem_of_mem ha
    have hlt : i < xs.size := by simpa using hi2
    have e2 : numAt xs i = a := by
      rw [numAt_eq, List.getD_eq_getElem?_getD, List.getElem?_eq_getElem hi2, hia]
      rfl
    rw [← e2]
    exact h2 i (by omega)
end
section
variable {X : Cx} {K : Kf}
def rSumT (K : Kf) : List V → Hp → VK → Prop := fun vs H Q => ∃ (a : Addr) (ns : List Int), vs = [V.ref a] ∧ SqT K H a (ns.map V.int) ∧ Q (.int ns.sum) H
def rMaxT (K : Kf) : List V → Hp → VK → Prop := fun vs H Q => ∃ (a : Addr) (ns : List Int), vs = [V.ref a] ∧ SqT K H a (ns.map V.int) ∧ 0 < ns.length ∧ ∀ m, m ∈ ns → (∀ y, y ∈ ns → y ≤ m) → Q (.int m) H
def rMinT (K : Kf) : List V → Hp → VK → Prop := fun vs H Q => ∃ (a : Addr) (ns : List Int), vs = [V.ref a] ∧ SqT K H a (ns.map V.int) ∧ 0 < ns.length ∧ ∀ m, m ∈ ns → (∀ y, y ∈ ns → m ≤ y) → Q (.int m) H
theorem cr_sumT (hc : X.calm = true) : CallR X (.builtin "sum") (rSumT X.K) := by
  intro pins s σ H vs us Q I r h
  obtain ⟨a, ns, rfl, hs, q⟩ := h
  obtain ⟨its, rv, hl, _⟩ := I.tuple hs
  rw [Vals.ref1 r]
  exact sum_tupRaw (I.ok.hd hc) (show s.heap.IsTuple a its.toArray from hl) rv.ints fun h' tk t' hk => ⟨.int _, H, I.kept hk, ⟨_, rfl⟩, q⟩
theorem cr_maxT (hc : X.calm = true) : CallR X (.builtin "max") (rMaxT X.K) := by
  intro pins s σ H vs us Q I r h
  obtain ⟨a, ns, rfl, hs, hne, q⟩ := h
  obtain ⟨its, rv, hl, _⟩ := I.tuple hs
  rw [Vals.ref1 r]
  exact max_tupRaw (I.ok.hd hc) (show s.heap.IsTuple a its.toArray from hl) rv.ints hne fun h' tk m t' hk h1 h2 => ⟨.int _, H, I.kept hk, ⟨_, rfl⟩, q m h1 h2⟩
theorem cr_minT (hc : X.calm = true) : CallR X (.builtin "min") (rMinT X.K) := by
  intro pins s σ H vs us Q I r h
  obtain ⟨a, ns, rfl, hs, hne, q⟩ := h
  obtain ⟨its, rv, hl, _⟩ := I.tuple hs
  rw [Vals.ref1 r]
  exact min_tupRaw (I.ok.hd hc) (show s.heap.IsTuple a its.toArray from hl) rv.ints hne fun h' tk m t' hk h1 h2 => ⟨.int _, H, I.kept hk, ⟨_, rfl⟩, q m h1 h2⟩
def sumD : D → Option D
  | .list xs => (intsOf xs).map fun ns => .int ns.sum
  | .tuple xs => (intsOf xs).map fun ns => .int ns.sum
  | _ => none
theorem cbd_sum : CbD K sumD (fun vs H Q => rSum K vs H Q ∨ rSumT K vs H Q) := by
  intro F G H σ ρ x d v Q ok hx hf q
  unfold sumD at hf
  split at hf
  · rename_i xs
    cases hi : intsOf xs with
    | none => rw [hi] at hf; cases hf
    | some ns =>
      rw [hi] at hf
      cases hf
      obtain ⟨p, vs, rfl, h1, h2⟩ := hx.list ok.sub
      rw [intsOf_eq hi] at h2
      rw [Rps.ints.mp h2] at h1
      exact .inl ⟨p, ns, rfl, SqL.of h1, q _ F H (Same.refl F) ok rfl⟩
  · rename_i xs
    cases hi : intsOf xs with
    | none => rw [hi] at hf; cases hf
    | some ns =>
      rw [hi] at hf
      cases hf
      obtain ⟨p, vs, rfl, h1, _, h2⟩ := hx.tuple ok.sub
      rw [intsOf_eq hi] at h2
      rw [Rps.ints.mp h2] at h1
      exact .inr ⟨p, ns, rfl, h1, q _ F H (Same.refl F) ok rfl⟩
  · cases hf
def maxI : List Int → Int
  | [] => 0
  | n :: ns => ns.foldl max n
def minI : List Int → Int
  | [] => 0
  | n :: ns => ns.foldl min n
theorem foldl_max_ge (ns : List Int) (a : Int) : a ≤ ns.foldl max a ∧ (∀ y ∈ ns, y ≤ ns.foldl max a) ∧ (ns.foldl max a = a ∨ ns.foldl max a ∈ ns) := by
  induction ns generalizing a with
  | nil => exact ⟨Int.le_refl _, fun y h => (nomatch h), .inl rfl⟩
  | cons n ns ih =>
    obtain ⟨h1, h2, h3⟩ := ih (max a n)
    refine ⟨Int.le_trans (Int.le_max_left a n) h1, fun y hy => ?_, ?_⟩
    · rcases List.mem_cons.mp hy with rfl | hy
      · exact Int.le_trans (Int.le_max_right a y) h1
      · exact h2 y hy
    · rcases h3 with h3 | h3
      · show ns.foldl max (max a n) = a ∨ ns.foldl max (max a n) ∈ n :: ns
        rw [h3]
        rcases Int.le_total a n with h | h
        · rw [Int.max_eq_right h]; exact .inr List.mem_cons_self
        · rw [Int.max_eq_left h]; exact .inl rfl
      · exact .inr (List.mem_cons_of_mem _ h3)
theorem foldl_min_le (ns : List Int) (a : Int) : ns.foldl min a ≤ a ∧ (∀ y ∈ ns, ns.foldl min a ≤ y) ∧ (ns.foldl min a = a ∨ ns.foldl min a ∈ ns) := by
  induction ns generalizing a with
  | nil => exact ⟨Int.le_refl _, fun y h => (nomatch h), .inl rfl⟩
  | cons n ns ih =>
    obtain ⟨h1, h2, h3⟩ := ih (min a n)
    refine ⟨Int.le_trans h1 (Int.min_le_left a n), fun y hy => ?_, ?_⟩
    · rcases List.mem_cons.mp hy with rfl | hy
      · exact Int.le_trans h1 (Int.min_le_right a y)
      · exact h2 y hy
    · rcases h3 with h3 | h3
      · show ns.foldl min (min a n) = a ∨ ns.foldl min (min a n) ∈ n :: ns
        rw [h3]
        rcases Int.le_total a n with h | h
        · rw [Int.min_eq_left h]; exact .inl rfl
        · rw [Int.min_eq_right h]; exact .inr List.mem_cons_self
      · exact .inr (List.mem_cons_of_mem _ h3)
theorem maxI_is {ns : List Int} {m : Int} (h1 : m ∈ ns) (h2 : ∀ y ∈ ns, y ≤ m) : m = maxI ns := by
  cases ns with
  | nil => cases h1
  | cons n ns =>
    obtain ⟨g1, g2, g3⟩ := foldl_max_ge ns n
    have a1 : maxI (n :: ns) ≤ m := by
      rcases g3 with g3 | g3
      · show ns.foldl max n ≤ m; rw [g3]; exact h2 n List.mem_cons_self
      · exact h2 _ (List.mem_cons_of_mem _ g3)
    have a2 : m ≤ maxI (n :: ns) := by
      rcases List.mem_cons.mp h1 with rfl | h
      · exact g1
      · exact g2 m h
    omega
theorem minI_is {ns : List Int} {m : Int} (h1 : m ∈ ns) (h2 : ∀ y ∈ ns, m ≤ y) : m = minI ns := by
  cases ns with
  | nil => cases h1
  | cons n ns =>
    obtain ⟨g1, g2, g3⟩ := foldl_min_le ns n
    have a1 : m ≤ minI (n :: ns) := by
      rcases g3 with g3 | g3
      · show m ≤ ns.foldl min n; rw [g3]; exact h2 n List.mem_cons_self
      · exact h2 _ (List.mem_cons_of_mem _ g3)
    have a2 : minI (n :: ns) ≤ m := by
      rcases List.mem_cons.mp h1 with rfl | h
      · exact g1
      · exact g2 m h
    omega
def bestD (f : List Int → Int) : D → Option D
  | .list xs => match intsOf xs with
    | some (n :: ns) => some (.int (f (n :: ns)))
    | _ => none
  | .tuple xs => match intsOf xs with
    | some (n :: ns) => some (.int (f (n :: ns)))
    | _ => none
  | _ => none
abbrev maxD := bestD maxI
abbrev minD := bestD minI
theorem cbd_max : CbD K maxD (fun vs H Q => rMax K vs H Q ∨ rMaxT K vs H Q) := by
  intro F G H σ ρ x d v Q ok hx hf q
  unfold maxD bestD at hf
  split at hf
  · split at hf
    · rename_i xs n ns hi
      cases hf
      obtain ⟨p, vs, rfl, h1, h2⟩ := hx.list ok.sub
      rw [intsOf_eq hi] at h2
      rw [Rps.ints.mp h2] at h1
      refine .inl ⟨p, n :: ns, rfl, SqL.of h1, Nat.succ_pos _, fun m g1 g2 => ?_⟩
      rw [maxI_is g1 g2]
      exact q _ F H (Same.refl F) ok rfl
    · cases hf
  · split at hf
    · rename_i xs n ns hi
      cases hf
      obtain ⟨p, vs, rfl, h1, _, h2⟩ := hx.tuple ok.sub
      rw [intsOf_eq hi] at h2
      rw [Rps.ints.mp h2] at h1
      refine .inr ⟨p, n :: ns, rfl, h1, Nat.succ_pos _, fun m g1 g2 => ?_⟩
      rw [maxI_is g1 g2]
      exact q _ F H (Same.refl F) ok rfl
    · cases hf
  · cases hf
theorem cbd_min : CbD K minD (fun vs H Q => rMin K vs H Q ∨ rMinT K vs H Q) := by
  intro F G H σ ρ x d v Q ok hx hf q
  unfold minD bestD at hf
  split at hf
  · split at hf
    · rename_i xs n ns hi
      cases hf
      obtain ⟨p, vs, rfl, h1, h2⟩ := hx.list ok.sub
      rw [intsOf_eq hi] at h2
      rw [Rps.ints.mp h2] at h1
      refine .inl ⟨p, n :: ns, rfl, SqL.of h1, Nat.succ_pos _, fun m g1 g2 => ?_⟩
      rw [minI_is g1 g2]
      exact q _ F H (Same.refl F) ok rfl
    · cases hf
  · split at hf
    · rename_i xs n ns hi
      cases hf
      obtain ⟨p, vs, rfl, h1, _, h2⟩ := hx.tuple ok.sub
      rw [intsOf_eq hi] at h2
      rw [Rps.ints.mp h2] at h1
      refine .inr ⟨p, n :: ns, rfl, h1, Nat.succ_pos _, fun m g1 g2 => ?_⟩
      rw [minI_is g1 g2]
      exact q _ F H (Same.refl F) ok rfl
    · cases hf
  · cases hf
def anyD : D → Option D
  | .list xs => (boolsOf xs).map fun bs => .bool (bs.any id)
  | _ => none
def allD : D → Option D
  | .list xs => (boolsOf xs).map fun bs => .bool (bs.all id)
  | _ => none
theorem cbd_any : CbD K anyD (rAny K) := by
  intro F G H σ ρ x d v Q ok hx hf q
  unfold anyD at hf
  split at hf
  · rename_i xs
    cases hi : boolsOf xs with
    | none => rw [hi] at hf; cases hf
    | some ns =>
      rw [hi] at hf
      cases hf
      obtain ⟨p, vs, rfl, h1, h2⟩ := hx.list ok.sub
      rw [boolsOf_eq hi] at h2
      rw [Rps.bools.mp h2] at h1
      exact ⟨p, ns, rfl, SqL.of h1, q _ F H (Same.refl F) ok rfl⟩
  · cases hf
theorem cbd_all : CbD K allD (rAll K) := by
  intro F G H σ ρ x d v Q ok hx hf q
  unfold allD at hf
  split at hf
  · rename_i xs
    cases hi : boolsOf xs with
    | none => rw [hi] at hf; cases hf
    | some ns =>
      rw [hi] at hf
      cases hf
      obtain ⟨p, vs, rfl, h1, h2⟩ := hx.list ok.sub
      rw [boolsOf_eq hi] at h2
      rw [Rps.bools.mp h2] at h1
      exact ⟨p, ns, rfl, SqL.of h1, q _ F H (Same.refl F) ok rfl⟩
  · cases hf
/-- list(x) -/
def listO : D → Option Own
  | .list xs => some (.lst xs)
  | .tuple xs => some (.lst xs)
  | _ => none
theorem cbn_list : CbN K listO (fun xs H Q => ∃ p ys, xs = [.ref p] ∧ (SqL K H p ys ∨ SqT K H p ys) ∧ ∀ l, H l = none → Q (.ref l) (upd H l (.lst ys))) := by
  intro F G H σ ρ x d v Q ok hx hf q
  unfold listO at hf
  split at hf
  · cases hf
    obtain ⟨p, vs, rfl, h1, h2⟩ := hx.list ok.sub
    refine ⟨p, vs, rfl, .inl (SqL.of h1), fun l hl => ?_⟩
    obtain ⟨ok', n⟩ := ok.fresh (o := .lst vs) hl
    exact q l F _ (Same.refl F) ok' n ⟨vs, upd_same, h2⟩
  · cases hf
    obtain ⟨p, vs, rfl, h1, _, h2⟩ := hx.tuple ok.sub
    refine ⟨p, vs, rfl, .inr h1, fun l hl => ?_⟩
    obtain ⟨ok', n⟩ := ok.fresh (o := .lst vs) hl
    exact q l F _ (Same.refl F) ok' n ⟨vs, upd_same, h2⟩
  · cases hf
/-- tuple(x) -/
def tupleD : D → Option D
  | .list xs => some (.tuple xs)
  | .tuple xs => some (.tuple xs)
  | _ => none
theorem cbd_tuple : CbD K tupleD (fun xs H Q => ∃ p ys, xs = [.ref p] ∧ ((SqL K H p ys ∧ ∀ l, H l = none → Q (.ref l) (upd H l (.tup ys))) ∨ (SqT K H p ys ∧ Q (.ref p) H))) := by
  intro F G H σ ρ x d v Q ok hx hf q
  unfold tupleD at hf
  split at hf
  · cases hf
    obtain ⟨p, vs, rfl, h1, h2⟩ := hx.list ok.sub
    refine ⟨p, vs, rfl, .inl ⟨SqL.of h1, fun l hl => ?_⟩⟩
    obtain ⟨e, ok'⟩ := ok.alloc (o := .tup vs) hl
    exact q _ _ _ e ok' ⟨l, vs, rfl, SqT.of upd_same, Rps.mono e _ _ h2⟩
  · cases hf
    obtain ⟨p, vs, rfl, h1, h1f, h2⟩ := hx.tuple ok.sub
    exact ⟨p, vs, rfl, .inr ⟨h1, q _ F H (Same.refl F) ok ⟨p, vs, rfl, h1f, h2⟩⟩⟩
  · cases hf
/-- isinstance(x, T) -/
def tyName : D → String
  | .none => "NoneType"
  | .bool _ => "bool"
  | .int _ => "int"
  | .str _ => "str"
  | .list _ => "list"
  | .tuple _ => "tuple"
  | .dict _ => "dict"
def isiB (T : String) (n : String) : Bool := n == T || (n == "bool" && T == "int")
def isiM (T : String) (m : M Rf) : M Bool := bnd m fun r => fun ρ => match look ρ r with
  | some x => some (isiB T (tyName x), ρ)
  | none => none
theorem Vw.ty {F H : Hp} {v : V} {d : D} (h : Vw K F H v d) (s : Same F H) : TyX K H v (.type (tyName d)) := by
  cases d with
  | none => cases h.non; exact .base .non
  | bool b => cases h.bl; exact .base (.bl b)
  | int i => cases h.int; exact .base (.int i)
  | str x => cases h.str; exact .base (.str x)
  | list xs =>
    obtain ⟨p, vs, rfl, h1, h2⟩ := h.list s
    exact .base (.lst h1)
  | tuple xs =>
    obtain ⟨p, vs, rfl, h1, _, h2⟩ := h.tuple s
    rcases h1 with (h1 | ⟨o, h1⟩) | ⟨o, its, n, k1, k2, _⟩
    · exact .base (.tup h1)
    · exact .fTuple h1
    · exact .kTuple k1 k2
  | dict kvs =>
    rcases h with h | ⟨_, _, _, _, e, _⟩
    · exact h.elim
    · cases e
theorem v_isi {T : String} {e : Expr} {m : M Rf} {p p2 pos : Pos} {x : Str} (hT : T = "int" ∨ T = "bool" ∨ T = "str" ∨ T = "tuple" ∨ T = "list") (hg : Gl X "isinstance") (hm : X.mg "isinstance" = none) (ht : Gl X x) (hmt : X.mg x = none) (hvt : bootBuiltins x = some (.type T)) (ha : PE X e (rdB X.K m))
    (hnt : x ≠ "__name__" := by decide) (hdt : (x == ("__debug__" : Str)) = false := by decide)
    (he : starEach (e :: [.Name x p2]) X.env = (false, eval e X.env) :: starEach [.Name x p2] X.env := by rfl) (he2 : starEach (.Name x p2 :: []) X.env = (false, eval (.Name x p2) X.env) :: starEach [] X.env := by rfl) (hpl : (backTo pos (starEach [.Name x p2] X.env)).any (·.1) = false := by rfl) :
    PE X (.Call (.Name "isinstance" p) [e, .Name x p2] [] pos) (rdV X.K (blM (isiM T m))) := by
  refine pe_imp (pe_callB call_isi hg hm boot_isinstance (pa_cons ha (pa_cons (pe_bltn (v := .ty T) ht hmt hvt rfl hnt hdt) pa_nil he2) he) (by decide) (by decide) he hpl) fun σ H Q h => ?_
  obtain ⟨F, G, ρ, d, ρ', ok, hm, q⟩ := h
  obtain ⟨b, h1, rfl⟩ := bl_some hm
  obtain ⟨r, ρ1, h2, h3⟩ := bnd_some h1
  have h3 : (match look ρ1 r with
    | some x => some (isiB T (tyName x), ρ1)
    | none => none) = some (b, ρ') := h3
  split at h3
  · rename_i y hy
    cases h3
    refine ⟨F, G, ρ, r, _, ok, h2, fun v F1 H1 s1 ok1 r1 => ⟨v, .ty T, .type (tyName y), .type T, _, rfl, .ty T, (look_ok ok1 r1 hy).ty ok1.sub, ?_, q _ F1 H1 s1 ok1 rfl⟩⟩
    have key : ∀ n ∈ ["NoneType", "bool", "int", "str", "list", "tuple", "dict"], ∀ T ∈ ["int", "bool", "str", "tuple", "list"], kitB n T = some (isiB T n) := by decide +kernel
    refine kit_ty (key _ ?_ _ ?_)
    · cases y <;> simp [tyName]
    · rcases hT with rfl | rfl | rfl | rfl | rfl <;> simp
  · cases h3
end
end Fx
/-! Fx: what a mirror gives, by weakest preconditions. No program in sight. -/
namespace Fx
open PySem PySem.Spec PyProof.Rows L2
def wp {α : Type} (m : M α) (ρ : Rho) (Q : α → Rho → Prop) : Prop := ∃ x ρ', m ρ = some (x, ρ') ∧ Q x ρ'
def fw (f : Fn) (args : List Sl) (R : Sl → List Sl → Prop) : Prop := ∃ r as, f args = some (r, as) ∧ R r as
def bop {α : Type} (f : D → D → Option α) (x y : Option D) (K : α → Prop) : Prop := ∃ a b z, x = some a ∧ y = some b ∧ f a b = some z ∧ K z
def uop {α : Type} (f : D → Option α) (x : Option D) (K : α → Prop) : Prop := ∃ a z, x = some a ∧ f a = some z ∧ K z
def seqK (k : Rho → Prop) (Q : Fl → Rho → Prop) : Fl → Rho → Prop
  | .nx, ρ => k ρ
  | f, ρ => Q f ρ
def valK (Q : D → Rho → Prop) : Sl → Rho → Prop
  | .v d, ρ => Q d ρ
  | .o (.lst xs), ρ => Q (.list xs) ρ
  | _, _ => False
def ownK (Q : Own → Rho → Prop) : Sl → Rho → Prop
  | .o b, ρ => Q b ρ
  | _, _ => False
def lopK (k : Rho → Prop) (Q : Fl → Rho → Prop) : Fl → Rho → Prop
  | .nx, ρ => k ρ
  | .ct, ρ => k ρ
  | .bk, ρ => Q .nx ρ
  | .rt r, ρ => Q (.rt r) ρ
def defK (pr : List Nat) (np : Nat) (R : Sl → List Sl → Prop) : Fl → Rho → Prop
  | .nx, ρ => R (.v .none) (outs pr np ρ)
  | .rt (.v d), ρ => R (.v d) (outs pr np ρ)
  | .rt (.o b), ρ => R (.o b) (outs pr np ρ)
  | _, _ => False
def tstK (Q : Bool → Rho → Prop) : D → Rho → Prop
  | .bool b, ρ => Q b ρ
  | _, _ => False
def partK (Q : Option Int → Rho → Prop) : D → Rho → Prop
  | .int i, ρ => Q (some i) ρ
  | _, _ => False
def callK (f : Fn) (Q : Sl → Rho → Prop) (rs : List Rf) (ρ : Rho) : Prop := ∃ args, argsR ρ rs = some args ∧ (slotsR rs).Nodup ∧ fw f args fun r as => Q r (backR rs as ρ)
def frzK (Q : D → Rho → Prop) : Own → Rho → Prop
  | .lst xs, ρ => Q (.list xs) ρ
  | _, _ => False
section
variable {α β : Type} {ρ : Rho} {d : D}
theorem wp_mono {m : M α} {Q Q' : α → Rho → Prop} (h : wp m ρ Q) (i : ∀ x ρ', Q x ρ' → Q' x ρ') : wp m ρ Q' := let ⟨x, ρ', e, q⟩ := h; ⟨x, ρ', e, i _ _ q⟩
theorem fw_mono {f : Fn} {args : List Sl} {R R' : Sl → List Sl → Prop} (h : fw f args R) (i : ∀ r as, R r as → R' r as) : fw f args R' := let ⟨x, ρ', e, q⟩ := h; ⟨x, ρ', e, i _ _ q⟩
theorem wp_bnd {m : M α} {f : α → M β} {Q : β → Rho → Prop} (h : wp m ρ fun x ρ1 => wp (f x) ρ1 Q) : wp (bnd m f) ρ Q := by
  obtain ⟨x, ρ1, h1, y, ρ2, h2, q⟩ := h
  exact ⟨y, ρ2, (bnd_eq h1).trans h2, q⟩
theorem wp_ret {x : α} {Q : α → Rho → Prop} (h : Q x ρ) : wp (ret x) ρ Q := ⟨x, ρ, rfl, h⟩
theorem wp_skip {Q : Fl → Rho → Prop} (h : Q .nx ρ) : wp skipM ρ Q := ⟨_, ρ, rfl, h⟩
theorem wp_c {Q : D → Rho → Prop} (h : Q d ρ) : wp (cM d) ρ Q := ⟨d, ρ, rfl, h⟩
theorem wp_get {i : Nat} {Q : D → Rho → Prop} (e : ρ[i]? = some (.v d)) (h : Q d ρ) : wp (getM i) ρ Q := ⟨d, ρ, by unfold getM; rw [e], h⟩
theorem wp_getO {i : Nat} {xs : List D} {Q : D → Rho → Prop} (e : ρ[i]? = some (.o (.lst xs))) (h : Q (.list xs) (ρ.set i (.v (.list xs)))) : wp (getM i) ρ Q := ⟨_, _, by unfold getM; rw [e], h⟩
theorem wp_ref {i : Nat} {Q : Rf → Rho → Prop} (e : ρ[i]? = some (.v d)) (h : Q (.val d) ρ) : wp (refM i) ρ Q := ⟨_, ρ, by unfold refM; rw [e], h⟩
theorem wp_refO {i : Nat} {b : Own} {Q : Rf → Rho → Prop} (e : ρ[i]? = some (.o b)) (h : Q (.slot i) ρ) : wp (refM i) ρ Q := ⟨_, ρ, by unfold refM; rw [e], h⟩
theorem wp_arg {i : Nat} {Q : Rf → Rho → Prop} (e : ρ[i]? = some (.v d)) (h : Q (.val d) ρ) : wp (argM i) ρ Q := ⟨_, ρ, by unfold argM; rw [e], h⟩
theorem wp_argO {i : Nat} {b : Own} {Q : Rf → Rho → Prop} (e : ρ[i]? = some (.o b)) (h : Q (.slot i) ρ) : wp (argM i) ρ Q := ⟨_, ρ, by unfold argM; rw [e], h⟩
theorem wp_argS {i : Nat} {b : List Int} {Q : Rf → Rho → Prop} (e : ρ[i]? = some (.s b)) (h : Q (.slot i) ρ) : wp (argM i) ρ Q := ⟨_, ρ, by unfold argM; rw [e], h⟩
theorem wp_val {m : M D} {Q : Rf → Rho → Prop} (h : wp m ρ fun d ρ' => Q (.val d) ρ') : wp (valM m) ρ Q := wp_bnd (wp_mono h fun x ρ' q => wp_ret q)
theorem wp_bin {f : D → D → Option α} {a b : M Rf} {Q : α → Rho → Prop} (h : wp a ρ fun r ρ1 => wp b ρ1 fun s ρ2 => bop f (look ρ2 r) (look ρ2 s) fun z => Q z ρ2) : wp (binM f a b) ρ Q := by
  obtain ⟨r, ρ1, h1, s, ρ2, h2, x, y, z, e1, e2, e3, q⟩ := h
  refine ⟨z, ρ2, (bnd_eq h1).trans ((bnd_eq h2).trans ?_), q⟩
  show (match look ρ2 r, look ρ2 s with
    | some x, some y => (f x y).map fun z => (z, ρ2)
    | _, _ => none) = _
  rw [e1, e2]
  show (f x y).map _ = _
  rw [e3]
  rfl
theorem wp_b1 {f : D → Option α} {a : M Rf} {Q : α → Rho → Prop} (h : wp a ρ fun r ρ1 => uop f (look ρ1 r) fun z => Q z ρ1) : wp (b1M f a) ρ Q := by
  obtain ⟨r, ρ1, h1, x, z, e1, e3, q⟩ := h
  refine ⟨z, ρ1, (bnd_eq h1).trans ?_, q⟩
  show (match look ρ1 r with
    | some x => (f x).map fun z => (z, ρ1)
    | none => none) = _
  rw [e1]
  show (f x).map _ = _
  rw [e3]
  rfl
theorem wp_un {f : D → Option D} {a : M D} {Q : D → Rho → Prop} (h : wp a ρ fun x ρ1 => uop f (some x) fun z => Q z ρ1) : wp (unM f a) ρ Q := by
  obtain ⟨x, ρ1, h1, y, z, e1, e3, q⟩ := h
  cases e1
  refine ⟨z, ρ1, (bnd_eq h1).trans ?_, q⟩
  unfold lft
  rw [e3]
theorem wp_tst {m : M D} {Q : Bool → Rho → Prop} (h : wp m ρ (tstK Q)) : wp (tstM m) ρ Q := by
  obtain ⟨x, ρ1, h1, q⟩ := h
  cases x with
  | bool b => exact ⟨b, ρ1, (bnd_eq h1).trans rfl, q⟩
  | _ => exact q.elim
theorem wp_and {a b : M Bool} {Q : Bool → Rho → Prop} (h : wp a ρ fun c ρ1 => (c = true → wp b ρ1 Q) ∧ (c = false → Q false ρ1)) : wp (andM a b) ρ Q := by
  obtain ⟨c, ρ1, h1, q1, q2⟩ := h
  refine wp_bnd ⟨c, ρ1, h1, ?_⟩
  cases c with
  | true => exact q1 rfl
  | false => exact wp_ret (q2 rfl)
theorem wp_or {a b : M Bool} {Q : Bool → Rho → Prop} (h : wp a ρ fun c ρ1 => (c = true → Q true ρ1) ∧ (c = false → wp b ρ1 Q)) : wp (orM a b) ρ Q := by
  obtain ⟨c, ρ1, h1, q1, q2⟩ := h
  refine wp_bnd ⟨c, ρ1, h1, ?_⟩
  cases c with
  | true => exact wp_ret (q1 rfl)
  | false => exact q2 rfl
theorem wp_not {a : M Bool} {Q : Bool → Rho → Prop} (h : wp a ρ fun c ρ1 => Q (!c) ρ1) : wp (notM a) ρ Q := wp_bnd (wp_mono h fun _ _ q => wp_ret q)
theorem wp_bl {a : M Bool} {Q : D → Rho → Prop} (h : wp a ρ fun c ρ1 => Q (.bool c) ρ1) : wp (blM a) ρ Q := wp_bnd (wp_mono h fun _ _ q => wp_ret q)
theorem wp_ite {c : M Bool} {a b : M α} {Q : α → Rho → Prop} (h : wp c ρ fun x ρ1 => (x = true → wp a ρ1 Q) ∧ (x = false → wp b ρ1 Q)) : wp (iteM c a b) ρ Q := by
  obtain ⟨x, ρ1, h1, q1, q2⟩ := h
  refine wp_bnd ⟨x, ρ1, h1, ?_⟩
  cases x with
  | true => exact q1 rfl
  | false => exact q2 rfl
theorem wp_tru {a : M Rf} {Q : Bool → Rho → Prop} (h : wp a ρ fun r ρ1 => uop truD (look ρ1 r) fun z => Q z ρ1) : wp (truM a) ρ Q := by
  obtain ⟨r, ρ1, h1, x, z, e1, e3, q⟩ := h
  refine ⟨z, ρ1, (bnd_eq h1).trans ?_, q⟩
  show (match look ρ1 r with
    | some d => (truD d).map fun b => (b, ρ1)
    | none => none) = _
  rw [e1]
  show (truD x).map _ = _
  rw [e3]
  rfl
theorem wp_isi {T : String} {a : M Rf} {Q : Bool → Rho → Prop} (h : wp a ρ fun r ρ1 => uop (fun x => some (isiB T (tyName x))) (look ρ1 r) fun z => Q z ρ1) : wp (isiM T a) ρ Q := by
  obtain ⟨r, ρ1, h1, x, z, e1, e3, q⟩ := h
  refine ⟨z, ρ1, (bnd_eq h1).trans ?_, q⟩
  show (match look ρ1 r with
    | some x => some (isiB T (tyName x), ρ1)
    | none => none) = _
  rw [e1]
  cases e3
  rfl
theorem wp_chain {p p' : Int → Int → Bool} {a b c : M D} {Q : Bool → Rho → Prop} (h : wp a ρ fun x ρ1 => wp b ρ1 fun y ρ2 => ∃ i j, x = .int i ∧ y = .int j ∧ (p i j = true → wp c ρ2 fun z ρ3 => ∃ k, z = .int k ∧ Q (p' j k) ρ3) ∧ (p i j = false → Q false ρ2)) : wp (chainM p p' a b c) ρ Q := by
  obtain ⟨x, ρ1, h1, y, ρ2, h2, i, j, rfl, rfl, q1, q2⟩ := h
  refine wp_bnd ⟨_, ρ1, h1, wp_bnd ⟨_, ρ2, h2, ?_⟩⟩
  show wp (if p i j then _ else _) ρ2 Q
  cases hp : p i j with
  | true =>
    rw [if_pos rfl]
    obtain ⟨z, ρ3, h3, k, rfl, q⟩ := q1 hp
    exact wp_bnd ⟨_, ρ3, h3, wp_ret q⟩
  | false =>
    rw [if_neg Bool.false_ne_true]
    exact wp_ret (q2 hp)
theorem wp_sl {f : D → Option Int → Option Int → Option α} {m : M Rf} {lo hi : M (Option Int)} {Q : α → Rho → Prop} (h : wp m ρ fun r ρ1 => wp lo ρ1 fun l ρ2 => wp hi ρ2 fun u ρ3 => uop (fun x => f x l u) (look ρ3 r) fun z => Q z ρ3) : wp (slM f m lo hi) ρ Q := by
  obtain ⟨r, ρ1, h1, l, ρ2, h2, u, ρ3, h3, x, z, e1, e2, q⟩ := h
  refine ⟨z, ρ3, (bnd_eq h1).trans ((bnd_eq h2).trans ((bnd_eq h3).trans ?_)), q⟩
  show (match look ρ3 r with
    | some x => (f x l u).map fun z => (z, ρ3)
    | none => none) = _
  rw [e1]
  show (f x l u).map _ = _
  rw [show f x l u = some z from e2]
  rfl
theorem wp_no {Q : Option Int → Rho → Prop} (h : Q none ρ) : wp noM ρ Q := ⟨_, ρ, rfl, h⟩
theorem wp_part {m : M D} {Q : Option Int → Rho → Prop} (h : wp m ρ (partK Q)) : wp (partM m) ρ Q := by
  obtain ⟨x, ρ1, h1, q⟩ := h
  cases x with
  | int b => exact ⟨_, ρ1, (bnd_eq h1).trans rfl, q⟩
  | _ => exact q.elim
theorem wp_nilA {Q : List D → Rho → Prop} (h : Q [] ρ) : wp nilM ρ Q := ⟨_, ρ, rfl, h⟩
theorem wp_consA {m : M D} {n : M (List D)} {Q : List D → Rho → Prop} (h : wp m ρ fun d ρ1 => wp n ρ1 fun ds ρ2 => Q (d :: ds) ρ2) : wp (consM m n) ρ Q := wp_bnd (wp_mono h fun _ _ q => wp_bnd (wp_mono q fun _ _ q => wp_ret q))
theorem wp_nilC {Q : List Rf → Rho → Prop} (h : Q [] ρ) : wp nilC ρ Q := ⟨_, ρ, rfl, h⟩
theorem wp_consC {m : M Rf} {n : M (List Rf)} {Q : List Rf → Rho → Prop} (h : wp m ρ fun d ρ1 => wp n ρ1 fun ds ρ2 => Q (d :: ds) ρ2) : wp (consC m n) ρ Q := wp_bnd (wp_mono h fun _ _ q => wp_bnd (wp_mono q fun _ _ q => wp_ret q))
theorem wp_tup {m : M (List D)} {Q : D → Rho → Prop} (h : wp m ρ fun ds ρ1 => fitS ds.length = true ∧ Q (.tuple ds) ρ1) : wp (tupM m) ρ Q := wp_bnd (wp_mono h fun ds ρ1 q => by
  rw [if_pos q.1]
  exact wp_ret q.2)
theorem wp_lst {m : M (List D)} {Q : Own → Rho → Prop} (h : wp m ρ fun ds ρ1 => fitS ds.length = true ∧ Q (.lst ds) ρ1) : wp (lstM m) ρ Q := wp_bnd (wp_mono h fun ds ρ1 q => by
  rw [if_pos q.1]
  exact wp_ret q.2)
theorem wp_frz {m : M Own} {Q : D → Rho → Prop} (h : wp m ρ (frzK Q)) : wp (frzM m) ρ Q := by
  obtain ⟨x, ρ1, h1, q⟩ := h
  cases x with
  | lst xs => exact ⟨_, ρ1, (bnd_eq h1).trans rfl, q⟩
  | _ => exact q.elim
theorem wp_valS {m : M Sl} {Q : D → Rho → Prop} (h : wp m ρ (valK Q)) : wp (valS m) ρ Q := by
  obtain ⟨x, ρ1, h1, q⟩ := h
  cases x with
  | v d => exact ⟨_, ρ1, (bnd_eq h1).trans rfl, q⟩
  | o b =>
    cases b with
    | lst xs => exact ⟨_, ρ1, (bnd_eq h1).trans rfl, q⟩
    | _ => exact q.elim
  | _ => exact q.elim
theorem wp_ownS {m : M Sl} {Q : Own → Rho → Prop} (h : wp m ρ (ownK Q)) : wp (ownS m) ρ Q := by
  obtain ⟨x, ρ1, h1, q⟩ := h
  cases x with
  | o b => exact ⟨_, ρ1, (bnd_eq h1).trans rfl, q⟩
  | _ => exact q.elim
theorem wp_call {f : Fn} {m : M (List Rf)} {Q : Sl → Rho → Prop} (h : wp m ρ (callK f Q)) : wp (callM f m) ρ Q := by
  obtain ⟨rs, ρ1, h1, args, ha, nd, r, as, hf, q⟩ := h
  refine ⟨r, _, (bnd_eq h1).trans ?_, q⟩
  show (match argsR ρ1 rs with
    | some args => if (slotsR rs).Nodup then (match f args with
      | some (r, args') => some (r, backR rs args' ρ1)
      | none => none) else none
    | none => none) = _
  rw [ha]
  show (if (slotsR rs).Nodup then (match f args with
      | some (r, args') => some (r, backR rs args' ρ1)
      | none => none) else none) = _
  rw [if_pos nd, hf]
/-! statements -/
theorem wp_seq {a b : MS} {Q : Fl → Rho → Prop} (h : wp a ρ (seqK (fun ρ1 => wp b ρ1 Q) Q)) : wp (seqM a b) ρ Q := by
  obtain ⟨f, ρ1, h1, q⟩ := h
  refine wp_bnd ⟨f, ρ1, h1, ?_⟩
  cases f with
  | nx => exact q
  | bk => exact wp_ret q
  | ct => exact wp_ret q
  | rt r => exact wp_ret q
/-- a cut: what holds between two statements -/
theorem wp_cut {a b : MS} {Q : Fl → Rho → Prop} (J : Rho → Prop) (h : wp a ρ (seqK J Q)) (k : ∀ ρ1, J ρ1 → wp b ρ1 Q) : wp (seqM a b) ρ Q := wp_seq (wp_mono h fun f ρ1 q => by
  cases f with
  | nx => exact k ρ1 q
  | bk => exact q
  | ct => exact q
  | rt r => exact q)
theorem wp_rt {m : M D} {Q : Fl → Rho → Prop} (h : wp m ρ fun d ρ' => Q (.rt (.v d)) ρ') : wp (retM m) ρ Q := wp_bnd (wp_mono h fun _ _ q => wp_ret q)
theorem wp_rtN {m : M Own} {Q : Fl → Rho → Prop} (h : wp m ρ fun d ρ' => Q (.rt (.o d)) ρ') : wp (retNM m) ρ Q := wp_bnd (wp_mono h fun _ _ q => wp_ret q)
theorem wp_rtO {i : Nat} {b : Own} {Q : Fl → Rho → Prop} (e : ρ[i]? = some (.o b)) (h : Q (.rt (.o b)) (ρ.set i .u)) : wp (retOM i) ρ Q := ⟨_, _, by unfold retOM; rw [e], h⟩
theorem wp_asgN {i : Nat} {m : M D} {Q : Fl → Rho → Prop} (h : wp m ρ fun d ρ1 => Q .nx (ρ1.set i (.v d))) : wp (asgM m (nameT i)) ρ Q := by
  obtain ⟨d, ρ1, h1, q⟩ := h
  exact ⟨_, _, (bnd_eq h1).trans rfl, q⟩
theorem wp_asg {t : D → Rho → Option Rho} {m : M D} {Q : Fl → Rho → Prop} (h : wp m ρ fun d ρ1 => ∃ ρ2, t d ρ1 = some ρ2 ∧ Q .nx ρ2) : wp (asgM m t) ρ Q := by
  obtain ⟨d, ρ1, h1, ρ2, h2, q⟩ := h
  refine ⟨_, _, (bnd_eq h1).trans ?_, q⟩
  show (t d ρ1).map _ = _
  rw [h2]
  rfl
theorem wp_setN {i : Nat} {m : M Own} {Q : Fl → Rho → Prop} (h : wp m ρ fun b ρ1 => Q .nx (ρ1.set i (.o b))) : wp (setNM i m) ρ Q := by
  obtain ⟨d, ρ1, h1, q⟩ := h
  exact ⟨_, _, (bnd_eq h1).trans rfl, q⟩
theorem wp_drop {m : M D} {Q : Fl → Rho → Prop} (h : wp m ρ fun _ ρ1 => Q .nx ρ1) : wp (dropM m) ρ Q := wp_bnd (wp_mono h fun _ _ q => wp_ret q)
theorem wp_par {i j : Nat} {m n : M D} {Q : Fl → Rho → Prop} (h : wp m ρ fun d ρ1 => wp n ρ1 fun e ρ2 => Q .nx ((ρ2.set i (.v d)).set j (.v e))) : wp (parM i j m n) ρ Q := by
  obtain ⟨d, ρ1, h1, e, ρ2, h2, q⟩ := h
  exact ⟨_, _, (bnd_eq h1).trans ((bnd_eq h2).trans rfl), q⟩
theorem wp_aug {i : Nat} {a : Int} {f : Int → Int → Int} {m : M D} {Q : Fl → Rho → Prop} (e : ρ[i]? = some (.v (.int a))) (h : wp m ρ fun d ρ1 => ∃ b, d = .int b ∧ Q .nx (ρ1.set i (.v (.int (f a b))))) : wp (augM i f m) ρ Q := by
  obtain ⟨d, ρ1, h1, b, rfl, q⟩ := h
  refine ⟨_, _, ?_, q⟩
  unfold augM
  rw [e]
  exact (bnd_eq h1).trans rfl
theorem wp_own {i : Nat} {b : Own} {Q : Unit → Rho → Prop} (e : ρ[i]? = some (.o b)) (h : Q () ρ) : wp (ownM i) ρ Q := ⟨_, _, by unfold ownM; rw [e], h⟩
theorem wp_ownL {i : Nat} {xs : List D} {Q : Unit → Rho → Prop} (e : ρ[i]? = some (.o (.lst xs))) (h : Q () ρ) : wp (ownLM i) ρ Q := ⟨_, _, by unfold ownLM; rw [e], h⟩
theorem wp_putL {i j : Nat} {xs : List D} {k : Int} {Q : Fl → Rho → Prop} (e : ρ[i]? = some (.o (.lst xs))) (hj : ixN xs.length k = some j) (h : Q .nx (ρ.set i (.o (.lst (xs.set j d))))) : wp (putL i d (.int k)) ρ Q := by
  refine ⟨_, _, ?_, h⟩
  unfold putL
  rw [e]
  show (match ixN xs.length k with
    | some j => some (Fl.nx, ρ.set i (.o (.lst (xs.set j d))))
    | none => none) = _
  rw [hj]
theorem wp_setIt {i : Nat} {m n : M D} {Q : Fl → Rho → Prop} (h : wp m ρ fun d ρ1 => wp (ownM i) ρ1 fun _ ρ2 => wp n ρ2 fun k ρ3 => wp (putL i d k) ρ3 Q) : wp (setItM i m n) ρ Q := wp_bnd (wp_mono h fun _ _ q => wp_bnd (wp_mono q fun _ _ q => wp_bnd q))
theorem wp_augIt {i : Nat} {f : Int → Int → Int} {m n : M D} {Q : Fl → Rho → Prop} (h : wp (ownM i) ρ fun _ ρ2 => wp n ρ2 fun k ρ3 => wp (augIt i f k m) ρ3 Q) : wp (augItM i f n m) ρ Q := wp_bnd (wp_mono h fun _ _ q => wp_bnd q)
theorem wp_augIt' {i : Nat} {f : Int → Int → Int} {xs : List D} {k a : Int} {m : M D} {Q : Fl → Rho → Prop} (e : ρ[i]? = some (.o (.lst xs))) (ha : atI xs k = some (.int a)) (h : wp m ρ fun d ρ3 => ∃ b, d = .int b ∧ wp (putL i (.int (f a b)) (.int k)) ρ3 Q) : wp (augIt i f (.int k) m) ρ Q := by
  obtain ⟨d, ρ1, h1, b, rfl, y, ρ2, h2, q⟩ := h
  refine ⟨y, ρ2, ?_, q⟩
  unfold augIt
  rw [e]
  show (match atI xs k with
    | some (.int a) => bnd m (fun d => match d with
      | .int b => putL i (.int (f a b)) (.int k)
      | _ => fun _ => none) ρ
    | _ => none) = _
  rw [ha]
  exact (bnd_eq h1).trans h2
/-! loops -/
theorem wp_forM {m : M (List D)} {t : D → Rho → Option Rho} {b : MS} {Q : Fl → Rho → Prop} (h : wp m ρ fun xs ρ1 => wp (forL t b xs) ρ1 Q) : wp (forM m t b) ρ Q := wp_bnd h
theorem wp_forL {xs : List D} {t : D → Rho → Option Rho} {b : MS} {Q : Fl → Rho → Prop} (I : Nat → Rho → Prop) (h0 : I 0 ρ) (hs : ∀ (i : Nat) (x : D) (ρ : Rho), xs[i]? = some x → I i ρ → ∃ ρ1, t x ρ = some ρ1 ∧ wp b ρ1 (lopK (fun ρ' => I (i + 1) ρ') Q)) (hd : ∀ ρ, I xs.length ρ → Q .nx ρ) : wp (forL t b xs) ρ Q := by
  induction xs generalizing I ρ with
  | nil => exact wp_ret (hd ρ h0)
  | cons x xs ih =>
    obtain ⟨ρ1, ht, f, ρ2, hb, q⟩ := hs 0 x ρ rfl h0
    have tl : ∀ ρ3, I 1 ρ3 → wp (forL t b xs) ρ3 Q := fun ρ3 h3 => ih (I := fun i ρ => I (i + 1) ρ) h3 (fun i y ρ hi hI => hs (i + 1) y ρ (by simpa using hi) hI) (fun ρ h => hd ρ h)
    have e : forL t b (x :: xs) ρ = (match f with
      | .nx => forL t b xs
      | .ct => forL t b xs
      | .bk => ret .nx
      | .rt r => ret (.rt r)) ρ2 := by
      show (match t x ρ with
        | some ρ1 => bnd b (fun fl => match fl with
          | .nx => forL t b xs
          | .ct => forL t b xs
          | .bk => ret .nx
          | .rt r => ret (.rt r)) ρ1
        | none => none) = _
      rw [ht]
      exact bnd_eq hb
    unfold wp
    rw [e]
    cases f with
    | nx => exact tl ρ2 q
    | ct => exact tl ρ2 q
    | bk => exact ⟨_, _, rfl, q⟩
    | rt r => exact ⟨_, _, rfl, q⟩
theorem wp_while {c : M Bool} {b : MS} {Q : Fl → Rho → Prop} (I : Nat → Rho → Prop) (n : Nat) (h0 : I n ρ) (hs : ∀ n ρ, I n ρ → wp c ρ fun k ρ1 => (k = true → wp b ρ1 (lopK (fun ρ' => ∃ m, m < n ∧ I m ρ') Q)) ∧ (k = false → Q .nx ρ1)) : wp (whileM c b) ρ Q := by
  induction n using Nat.strongRecOn generalizing ρ with
  | ind n ih =>
    rw [whileM_eq]
    refine wp_bnd (wp_mono (hs n ρ h0) fun k ρ1 q => ?_)
    cases k with
    | false => exact wp_ret (q.2 rfl)
    | true =>
      refine wp_bnd (wp_mono (q.1 rfl) fun f ρ2 q => ?_)
      cases f with
      | nx => obtain ⟨m, hm, hi⟩ := q; exact ih m hm hi
      | ct => obtain ⟨m, hm, hi⟩ := q; exact ih m hm hi
      | bk => exact wp_ret q
      | rt r => exact wp_ret q
/-! comprehensions -/
theorem wp_lc {m : M (List D)} {vs : List Nat} {t : D → Rho → Option Rho} {c : M Bool} {e : M D} {Q : Own → Rho → Prop} (h : wp m ρ fun xs ρ1 => wp (lcL vs t c e xs) (wipeR ρ1 vs) fun ds ρ2 => fitS ds.length = true ∧ Q (.lst ds) ρ2) : wp (lcM m vs t c e) ρ Q := by
  refine wp_bnd (wp_mono h fun xs ρ1 q => wp_bnd ⟨_, _, rfl, wp_bnd (wp_mono q fun ds ρ2 q => ?_)⟩)
  rw [if_pos q.1]
  exact wp_ret q.2
/-- by an invariant over (turn, what is made so far, the slots) -/
theorem wp_lcL {xs : List D} {vs : List Nat} {t : D → Rho → Option Rho} {c : M Bool} {e : M D} {Q : List D → Rho → Prop} (I : Nat → List D → Rho → Prop) (h0 : I 0 [] ρ)
    (hs : ∀ (i : Nat) (x : D) (acc : List D) (ρ : Rho), xs[i]? = some x → I i acc ρ → ∃ ρ1, t x ρ = some ρ1 ∧ wp c ρ1 fun k ρ2 => (k = true → wp e ρ2 fun d ρ3 => I (i + 1) (acc ++ [d]) (wipeR ρ3 vs)) ∧ (k = false → I (i + 1) acc (wipeR ρ2 vs)))
    (hd : ∀ acc ρ, I xs.length acc ρ → Q acc ρ) : wp (lcL vs t c e xs) ρ Q := by
  suffices key : ∀ (ys : List D) (j : Nat) (acc : List D) (ρ : Rho), xs.drop j = ys → j ≤ xs.length → I j acc ρ → wp (lcL vs t c e ys) ρ fun ds ρ' => Q (acc ++ ds) ρ' by
    have := key xs 0 [] ρ rfl (Nat.zero_le _) h0
    exact this
  intro ys
  induction ys with
  | nil =>
    intro j acc ρ hj hl hI
    have e : j = xs.length := by
      have := congrArg List.length hj
      rw [List.length_drop] at this
      simp at this
      omega
    subst e
    exact wp_ret (by rw [List.append_nil]; exact hd acc ρ hI)
  | cons y ys ih =>
    intro j acc ρ hj hl hI
    have hlt : j < xs.length := by
      have := congrArg List.length hj
      rw [List.length_drop, List.length_cons] at this
      omega
    have hy : xs[j]? = some y ∧ xs.drop (j + 1) = ys := by
      rw [List.drop_eq_getElem_cons hlt] at hj
      injection hj with a b
      exact ⟨by rw [List.getElem?_eq_getElem hlt, a], b⟩
    obtain ⟨ρ1, ht, k, ρ2, hc, q1, q2⟩ := hs j y acc ρ hy.1 hI
    have eq : lcL vs t c e (y :: ys) ρ = (if k then bnd e fun d => bnd (wipeM vs) fun _ => bnd (lcL vs t c e ys) fun ds => ret (d :: ds) else bnd (wipeM vs) fun _ => lcL vs t c e ys) ρ2 := by
      show (match t y ρ with
        | some ρ1 => bnd c (fun k => if k then bnd e fun d => bnd (wipeM vs) fun _ => bnd (lcL vs t c e ys) fun ds => ret (d :: ds) else bnd (wipeM vs) fun _ => lcL vs t c e ys) ρ1
        | none => none) = _
      rw [ht]
      exact bnd_eq hc
    unfold wp
    rw [eq]
    cases k with
    | false =>
      refine wp_bnd (m := wipeM vs) (f := fun _ => lcL vs t c e ys) ⟨(), _, rfl, ?_⟩
      exact ih (j + 1) acc _ hy.2 hlt (q2 rfl)
    | true =>
      obtain ⟨d, ρ3, he, q⟩ := q1 rfl
      refine wp_bnd ⟨d, ρ3, he, wp_bnd ⟨(), _, rfl, wp_bnd (wp_mono (ih (j + 1) (acc ++ [d]) _ hy.2 hlt q) fun ds ρ4 q => wp_ret ?_)⟩⟩
      rw [List.append_assoc] at q
      exact q
/-- without a test: the i-th made is what the i-th item gives -/
theorem wp_lcT {xs : List D} {vs : List Nat} {t : D → Rho → Option Rho} {e : M D} {Q : List D → Rho → Prop} (I : Nat → List D → Rho → Prop) (h0 : I 0 [] ρ)
    (hs : ∀ (i : Nat) (x : D) (acc : List D) (ρ : Rho), xs[i]? = some x → acc.length = i → I i acc ρ → ∃ ρ1, t x ρ = some ρ1 ∧ wp e ρ1 fun d ρ3 => I (i + 1) (acc ++ [d]) (wipeR ρ3 vs))
    (hd : ∀ acc ρ, acc.length = xs.length → I xs.length acc ρ → Q acc ρ) : wp (lcL vs t (ret true) e xs) ρ Q := by
  refine wp_lcL (fun i acc ρ => acc.length = i ∧ I i acc ρ) ⟨rfl, h0⟩ ?_ (fun acc ρ h => hd acc ρ h.1 h.2)
  rintro i x acc ρ hx ⟨hl, hI⟩
  obtain ⟨ρ1, ht, h⟩ := hs i x acc ρ hx hl hI
  refine ⟨ρ1, ht, wp_ret ⟨fun _ => wp_mono h fun d ρ3 q => ⟨?_, q⟩, fun h => by cases h⟩⟩
  rw [List.length_append, hl]
  rfl
theorem wp_it {m : M D} {Q : List D → Rho → Prop} (h : wp m ρ fun d ρ1 => uop itemsD (some d) fun xs => Q xs ρ1) : wp (itM m) ρ Q := by
  obtain ⟨d, ρ1, h1, y, xs, e1, e2, q⟩ := h
  cases e1
  refine ⟨xs, ρ1, (bnd_eq h1).trans ?_, q⟩
  unfold lft
  rw [e2]
theorem wp_scr {i : Nat} {ns : List Int} {Q : List D → Rho → Prop} (e : ρ[i]? = some (.s ns)) (h : Q (ns.map PyData.int) ρ) : wp (scrM i) ρ Q := ⟨_, _, by unfold scrM; rw [e], h⟩
theorem wp_rng1 {m : M (List D)} {Q : List D → Rho → Prop} (h : wp m ρ fun ds ρ1 => ∃ n, ds = [.int n] ∧ -(2 ^ 62) ≤ n ∧ n < 2 ^ 62 ∧ Q (rngL 0 n.toNat) ρ1) : wp (rng1M m) ρ Q := by
  obtain ⟨ds, ρ1, h1, n, rfl, h2, h3, q⟩ := h
  refine ⟨_, ρ1, (bnd_eq h1).trans ?_, q⟩
  show (if decide (-(2 ^ 62) ≤ n) && decide (n < 2 ^ 62) then ret (rngL 0 n.toNat) else fun _ => none) ρ1 = _
  rw [if_pos (by rw [decide_eq_true h2, decide_eq_true h3]; rfl)]
  rfl
theorem wp_rng2 {m : M (List D)} {Q : List D → Rho → Prop} (h : wp m ρ fun ds ρ1 => ∃ a n, ds = [.int a, .int n] ∧ (-(2 ^ 62) ≤ a ∧ a < 2 ^ 62 ∧ -(2 ^ 62) ≤ n ∧ n < 2 ^ 62) ∧ Q (rngL a (n - a).toNat) ρ1) : wp (rng2M m) ρ Q := by
  obtain ⟨ds, ρ1, h1, a, n, rfl, ⟨h2, h3, h4, h5⟩, q⟩ := h
  refine ⟨_, ρ1, (bnd_eq h1).trans ?_, q⟩
  show (if decide (-(2 ^ 62) ≤ a) && decide (a < 2 ^ 62) && decide (-(2 ^ 62) ≤ n) && decide (n < 2 ^ 62) then ret (rngL a (n - a).toNat) else fun _ => none) ρ1 = _
  rw [if_pos (by rw [decide_eq_true h2, decide_eq_true h3, decide_eq_true h4, decide_eq_true h5]; rfl)]
  rfl
theorem rngL_get {a : Int} {n i : Nat} {x : D} (h : (rngL a n)[i]? = some x) : i < n ∧ x = .int (a + i) := by
  unfold rngL at h
  rw [List.getElem?_map] at h
  cases hr : (List.range n)[i]? with
  | none => rw [hr] at h; cases h
  | some j =>
    rw [hr] at h
    obtain ⟨hi, hj⟩ := List.getElem?_eq_some_iff.mp hr
    rw [List.length_range] at hi
    rw [List.getElem_range] at hj
    subst hj
    exact ⟨hi, (Option.some.inj h).symm⟩
theorem rngL_len {a : Int} {n : Nat} : (rngL a n).length = n := by unfold rngL; rw [List.length_map, List.length_range]
/-! own lists' methods -/
theorem wp_app {i : Nat} {m : M D} {Q : D → Rho → Prop} (h : wp (ownLM i) ρ fun _ ρ1 => wp m ρ1 fun d ρ2 => wp (pushL i d) ρ2 Q) : wp (appM i m) ρ Q := wp_bnd (wp_mono h fun _ _ q => wp_bnd q)
theorem wp_push {i : Nat} {xs : List D} {Q : D → Rho → Prop} (e : ρ[i]? = some (.o (.lst xs))) (hz : xs.length < sizeLine) (h : Q .none (ρ.set i (.o (.lst (xs ++ [d]))))) : wp (pushL i d) ρ Q := by
  refine ⟨_, _, ?_, h⟩
  unfold pushL
  rw [e]
  show (if decide (xs.length < sizeLine) then some (PyData.none, ρ.set i (.o (.lst (xs ++ [d])))) else none) = _
  rw [if_pos (decide_eq_true hz)]
theorem wp_popAt {i : Nat} {m : M D} {Q : D → Rho → Prop} (h : wp (ownLM i) ρ fun _ ρ1 => wp m ρ1 fun d ρ2 => wp (popL i d) ρ2 Q) : wp (popAtM i m) ρ Q := wp_bnd (wp_mono h fun _ _ q => wp_bnd q)
theorem wp_popL {i j : Nat} {k : Int} {xs : List D} {y : D} {Q : D → Rho → Prop} (e : ρ[i]? = some (.o (.lst xs))) (h1 : -(2 ^ 63) ≤ k) (h2 : k < 2 ^ 63) (hj : seqIndex? k xs.length = some j) (hy : xs[j]? = some y) (h : Q y (ρ.set i (.o (.lst (xs.eraseIdx j))))) : wp (popL i (.int k)) ρ Q := by
  refine ⟨_, _, ?_, h⟩
  unfold popL
  rw [e]
  show (if decide (-(2 ^ 63) ≤ k) && decide (k < 2 ^ 63) then (match seqIndex? k xs.length with
    | some j => (match xs[j]? with
      | some y => some (y, ρ.set i (.o (.lst (xs.eraseIdx j))))
      | none => none)
    | none => none) else none) = _
  rw [if_pos (by rw [decide_eq_true h1, decide_eq_true h2]; rfl), hj]
  show (match xs[j]? with
      | some y => some (y, ρ.set i (.o (.lst (xs.eraseIdx j))))
      | none => none) = _
  rw [hy]
/-! defs -/
theorem fw_def {nsl np : Nat} {pr : List Nat} {m : MS} {args : List Sl} {R : Sl → List Sl → Prop} (hl : args.length = np) (h : wp m (args ++ List.replicate (nsl - np) .u) (defK pr np R)) : fw (defM nsl np pr m) args R := by
  obtain ⟨f, ρ1, h1, q⟩ := h
  unfold fw defM
  rw [if_pos hl, h1]
  cases f with
  | nx => exact ⟨_, _, rfl, q⟩
  | rt r =>
    cases r with
    | v d => exact ⟨_, _, rfl, q⟩
    | o b => exact ⟨_, _, rfl, q⟩
    | _ => exact q.elim
  | _ => exact q.elim
end
theorem mulFit_l {i j : Int} (h : i.natAbs < 2 ^ 64) : mulFit i j = true := by unfold mulFit; rw [decide_eq_true h]; rfl
theorem mulFit_r {i j : Int} (h : j.natAbs < 2 ^ 64) : mulFit i j = true := by unfold mulFit; rw [decide_eq_true h, Bool.or_true]; rfl
theorem ex_int {i : Int} {P : Int → Prop} (h : P i) : ∃ b, PyData.int i = PyData.int b ∧ P b := ⟨_, rfl, h⟩
theorem ex_rng1 {i : Int} {P : Int → Prop} (h1 : -(2 ^ 62) ≤ i) (h2 : i < 2 ^ 62) (h : P i) : ∃ n, [PyData.int i] = [PyData.int n] ∧ -(2 ^ 62) ≤ n ∧ n < 2 ^ 62 ∧ P n := ⟨_, rfl, h1, h2, h⟩
theorem ex_rng2 {i j : Int} {P : Int → Int → Prop} (h1 : -(2 ^ 62) ≤ i) (h2 : i < 2 ^ 62) (h3 : -(2 ^ 62) ≤ j) (h4 : j < 2 ^ 62) (h : P i j) : ∃ a n, [PyData.int i, PyData.int j] = [PyData.int a, PyData.int n] ∧ (-(2 ^ 62) ≤ a ∧ a < 2 ^ 62 ∧ -(2 ^ 62) ≤ n ∧ n < 2 ^ 62) ∧ P a n := ⟨_, _, rfl, ⟨h1, h2, h3, h4⟩, h⟩
/-! by what the operands are -/
section
variable {i j : Int} {a b : Str} {xs ys : List D} {K : D → Prop} {x y d : D}
theorem bop_add_ii (h : K (.int (i + j))) : bop addD (some (.int i)) (some (.int j)) K := ⟨_, _, _, rfl, rfl, rfl, h⟩
theorem bop_add_ss (hz : a.length + b.length ≤ sizeLine) (h : K (.str (a ++ b))) : bop addD (some (.str a)) (some (.str b)) K := ⟨_, _, _, rfl, rfl, (by show (if fitS (a.length + b.length) = true then some (PyData.str (a ++ b)) else none) = _; exact if_pos (decide_eq_true hz)), h⟩
theorem bop_add_tt (hz : xs.length + ys.length ≤ sizeLine) (h : K (.tuple (xs ++ ys))) : bop addD (some (.tuple xs)) (some (.tuple ys)) K := ⟨_, _, _, rfl, rfl, (by show (if fitS (xs.length + ys.length) = true then some (PyData.tuple (xs ++ ys)) else none) = _; exact if_pos (decide_eq_true hz)), h⟩
theorem bop_add_ll (hz : xs.length + ys.length ≤ sizeLine) (h : K (.list (xs ++ ys))) : bop addD (some (.list xs)) (some (.list ys)) K := ⟨_, _, _, rfl, rfl, (by show (if fitS (xs.length + ys.length) = true then some (PyData.list (xs ++ ys)) else none) = _; exact if_pos (decide_eq_true hz)), h⟩
theorem bop_sub (h : K (.int (i - j))) : bop subD (some (.int i)) (some (.int j)) K := ⟨_, _, _, rfl, rfl, rfl, h⟩
theorem bop_mul (hz : mulFit i j = true) (h : K (.int (i * j))) : bop mulD (some (.int i)) (some (.int j)) K := ⟨_, _, _, rfl, rfl, (by show (if mulFit i j = true then some (PyData.int (i * j)) else none) = _; exact if_pos hz), h⟩
theorem bop_fdiv (hz : divFit j = true) (h : K (.int (i / j))) : bop fdivD (some (.int i)) (some (.int j)) K := ⟨_, _, _, rfl, rfl, (by show (if divFit j = true then some (PyData.int (i / j)) else none) = _; exact if_pos hz), h⟩
theorem bop_mod (hz : 0 < j) (h : K (.int (i % j))) : bop modD (some (.int i)) (some (.int j)) K := ⟨_, _, _, rfl, rfl, (by show (if decide (0 < j) = true then some (PyData.int (i % j)) else none) = _; exact if_pos (decide_eq_true hz)), h⟩
theorem bop_pow (hz : powFit i j = true) (h : K (.int (i ^ j.toNat))) : bop powD (some (.int i)) (some (.int j)) K := ⟨_, _, _, rfl, rfl, (by show (if powFit i j = true then some (PyData.int (i ^ j.toNat)) else none) = _; exact if_pos hz), h⟩
theorem bop_shl (hz : powFit i j = true) (h : K (.int (i * 2 ^ j.toNat))) : bop shlD (some (.int i)) (some (.int j)) K := ⟨_, _, _, rfl, rfl, (by show (if powFit i j = true then some (PyData.int (i * 2 ^ j.toNat)) else none) = _; exact if_pos hz), h⟩
theorem bop_cmp {p : Int → Int → Bool} (h : K (.bool (p i j))) : bop (cmpD p) (some (.int i)) (some (.int j)) K := ⟨_, _, _, rfl, rfl, rfl, h⟩
theorem bop_eq (hx : SeqAt.shaped x = true) (hy : SeqAt.shaped y = true) (h : K (.bool (PyData.eqv x y))) : bop eqD (some x) (some y) K := ⟨_, _, _, rfl, rfl, by unfold eqD; rw [hx, hy]; rfl, h⟩
theorem bop_ne (hx : SeqAt.shaped x = true) (hy : SeqAt.shaped y = true) (h : K (.bool (!PyData.eqv x y))) : bop neD (some x) (some y) K := ⟨_, _, _, rfl, rfl, by unfold neD; rw [hx, hy]; rfl, h⟩
theorem bop_eq_ii (h : K (.bool (decide (i = j)))) : bop eqD (some (.int i)) (some (.int j)) K := bop_eq rfl rfl (by unfold PyData.eqv; exact h)
theorem bop_ne_ii (h : K (.bool (!decide (i = j)))) : bop neD (some (.int i)) (some (.int j)) K := bop_ne rfl rfl (by unfold PyData.eqv; exact h)
theorem shaped_str (h : PyData.strOk a = true) : SeqAt.shaped (.str a) = true := by simp [SeqAt.shaped, PyData.canLay0, PyData.depth, h]
theorem bop_eq_ss (ha : PyData.strOk a = true) (hb : PyData.strOk b = true) (h : K (.bool (decide (a = b)))) : bop eqD (some (.str a)) (some (.str b)) K := bop_eq (shaped_str ha) (shaped_str hb) (by unfold PyData.eqv; exact h)
theorem bop_ne_ss (ha : PyData.strOk a = true) (hb : PyData.strOk b = true) (h : K (.bool (!decide (a = b)))) : bop neD (some (.str a)) (some (.str b)) K := bop_ne (shaped_str ha) (shaped_str hb) (by unfold PyData.eqv; exact h)
theorem bop_ixT (e : atI xs i = some d) (h : K d) : bop ixD (some (.tuple xs)) (some (.int i)) K := ⟨_, _, _, rfl, rfl, e, h⟩
theorem bop_ixL (e : atI xs i = some d) (h : K d) : bop ixD (some (.list xs)) (some (.int i)) K := ⟨_, _, _, rfl, rfl, e, h⟩
theorem bop_isN {x : D} {b : Bool} (e : isNoneD x .none = some (.bool b)) (h : K (.bool b)) : bop isNoneD (some x) (some .none) K := ⟨_, _, _, rfl, rfl, e, h⟩
theorem bop_notN {x : D} {b : Bool} (e : notNoneD x .none = some (.bool b)) (h : K (.bool b)) : bop notNoneD (some x) (some .none) K := ⟨_, _, _, rfl, rfl, e, h⟩
theorem bop_is {α : Type} {f : D → D → Option α} {z : α} {K : α → Prop} (e : f x y = some z) (h : K z) : bop f (some x) (some y) K := ⟨_, _, _, rfl, rfl, e, h⟩
theorem uop_is {α : Type} {f : D → Option α} {z : α} {K : α → Prop} (e : f x = some z) (h : K z) : uop f (some x) K := ⟨_, _, rfl, e, h⟩
theorem uop_abs {n : Int} {K : D → Prop} (h : K (.int n.natAbs)) : uop absD (some (.int n)) K := uop_is (show absD (.int n) = some (.int (if n < 0 then -n else n)) from rfl) (by
  rw [show (if n < 0 then -n else n) = (n.natAbs : Int) by split <;> omega]
  exact h)
theorem atI_of {xs : List D} {n : Nat} (h : xs[n]? = some d) : atI xs (n : Int) = some d := atI_nat h
end
section
variable {k : Rho → Prop} {Q : Fl → Rho → Prop} {ρ : Rho} {R : Sl → List Sl → Prop} {pr : List Nat} {np : Nat} {d : D} {b : Own} {xs : List D}
theorem seqK_nx (h : k ρ) : seqK k Q .nx ρ := h
theorem seqK_rt {r : Sl} (h : Q (.rt r) ρ) : seqK k Q (.rt r) ρ := h
theorem seqK_bk (h : Q .bk ρ) : seqK k Q .bk ρ := h
theorem seqK_ct (h : Q .ct ρ) : seqK k Q .ct ρ := h
theorem lopK_nx (h : k ρ) : lopK k Q .nx ρ := h
theorem lopK_ct (h : k ρ) : lopK k Q .ct ρ := h
theorem lopK_bk (h : Q .nx ρ) : lopK k Q .bk ρ := h
theorem lopK_rt {r : Sl} (h : Q (.rt r) ρ) : lopK k Q (.rt r) ρ := h
theorem defK_nx (h : R (.v .none) (outs pr np ρ)) : defK pr np R .nx ρ := h
theorem defK_v (h : R (.v d) (outs pr np ρ)) : defK pr np R (.rt (.v d)) ρ := h
theorem defK_o (h : R (.o b) (outs pr np ρ)) : defK pr np R (.rt (.o b)) ρ := h
theorem valK_v {Q : D → Rho → Prop} (h : Q d ρ) : valK Q (.v d) ρ := h
theorem valK_o {Q : D → Rho → Prop} (h : Q (.list xs) ρ) : valK Q (.o (.lst xs)) ρ := h
theorem ownK_o {Q : Own → Rho → Prop} (h : Q b ρ) : ownK Q (.o b) ρ := h
theorem tstK_b {Q : Bool → Rho → Prop} {b : Bool} (h : Q b ρ) : tstK Q (.bool b) ρ := h
theorem partK_i {Q : Option Int → Rho → Prop} {i : Int} (h : Q (some i) ρ) : partK Q (.int i) ρ := h
theorem frzK_l {Q : D → Rho → Prop} (h : Q (.list xs) ρ) : frzK Q (.lst xs) ρ := h
theorem callK_go {f : Fn} {Q : Sl → Rho → Prop} {rs : List Rf} {args : List Sl} (ha : argsR ρ rs = some args) (nd : (slotsR rs).Nodup) (h : fw f args fun r as => Q r (backR rs as ρ)) : callK f Q rs ρ := ⟨args, ha, nd, h⟩
end
end Fx
/-! Fx: numbers and rows of numbers -/
namespace Fx
open PySem PySem.Spec PyProof.Rows L2
/-- sizes -/
def Bd (k : Nat) (i : Int) : Prop := i.natAbs < 2 ^ k
theorem Bd.div {k : Nat} {j : Int} (h : Bd k j) (h0 : 0 < j) (hk : k ≤ 9000) : divFit j = true := by
  have k0 : 0 < k := by
    cases k with
    | zero => have : j.natAbs < 1 := h; omega
    | succ k => exact Nat.succ_pos k
  unfold divFit
  rw [decide_eq_true h0, decide_eq_true (Nat.lt_of_lt_of_le (PySem.Flt.log2_lt_of k0 h) hk)]
  rfl
theorem Bd.mul {k l : Nat} {i j : Int} (hi : Bd k i) (hj : Bd l j) (h : k + l ≤ 900000) : mulFit i j = true := by
  have a : i.natAbs.log2 < k + 1 := PySem.Flt.log2_lt_of (Nat.succ_pos k) (Nat.lt_of_lt_of_le hi (Nat.pow_le_pow_right (by decide) (Nat.le_succ k)))
  have b : j.natAbs.log2 < l + 1 := PySem.Flt.log2_lt_of (Nat.succ_pos l) (Nat.lt_of_lt_of_le hj (Nat.pow_le_pow_right (by decide) (Nat.le_succ l)))
  unfold mulFit
  rw [show decide (i.natAbs.log2 + j.natAbs.log2 < 1000000) = true from decide_eq_true (by omega), Bool.or_true]
theorem Bd.mono {k l : Nat} {i : Int} (h : Bd k i) (hl : k ≤ l) : Bd l i := Nat.lt_of_lt_of_le h (Nat.pow_le_pow_right (by decide) hl)
theorem Bd.neg {k : Nat} {i : Int} (h : Bd k i) : Bd k (-i) := by unfold Bd; rw [Int.natAbs_neg]; exact h
theorem Bd.of_le {k : Nat} {i j : Int} (h : Bd k i) (hl : j.natAbs ≤ i.natAbs) : Bd k j := Nat.lt_of_le_of_lt hl h
theorem Bd.mulB {k l : Nat} {i j : Int} (hi : Bd k i) (hj : Bd l j) : Bd (k + l) (i * j) := by
  unfold Bd; rw [Int.natAbs_mul, Nat.pow_add]; exact Nat.mul_lt_mul'' hi hj
theorem Bd.addB {k : Nat} {i j : Int} (hi : Bd k i) (hj : Bd k j) : Bd (k + 1) (i + j) := by
  unfold Bd at *
  have := Int.natAbs_add_le i j
  rw [Nat.pow_succ]
  omega
theorem Bd.subB {k : Nat} {i j : Int} (hi : Bd k i) (hj : Bd k j) : Bd (k + 1) (i - j) := by
  rw [Int.sub_eq_add_neg]; exact hi.addB hj.neg
theorem Bd.natAbs {k : Nat} {i : Int} (h : Bd k i) : Bd k (i.natAbs : Int) := h
theorem gcd_step (c d : Int) : Int.gcd d (c - c / d * d) = Int.gcd c d := by
  have h : c - c / d * d = c % d := by
    have := Int.emod_add_mul_ediv c d
    rw [Int.mul_comm d] at this
    omega
  rw [h, Int.gcd_comm]
  have e1 : Int.gcd (c % d) d ∣ Int.gcd c d := by
    apply Int.dvd_gcd
    · have a : ((Int.gcd (c % d) d : Nat) : Int) ∣ d := Int.gcd_dvd_right ..
      have b : ((Int.gcd (c % d) d : Nat) : Int) ∣ c % d := Int.gcd_dvd_left ..
      have := Int.dvd_add b (Int.dvd_trans a (Int.dvd_mul_right d (c / d)))
      rw [Int.emod_add_mul_ediv] at this
      exact this
    · exact Int.gcd_dvd_right ..
  have e2 : Int.gcd c d ∣ Int.gcd (c % d) d := by
    apply Int.dvd_gcd
    · have a : ((Int.gcd c d : Nat) : Int) ∣ d := Int.gcd_dvd_right ..
      have b : ((Int.gcd c d : Nat) : Int) ∣ c := Int.gcd_dvd_left ..
      rw [← h]
      exact Int.dvd_sub b (Int.dvd_trans a (Int.dvd_mul_left (c / d) d))
    · exact Int.gcd_dvd_right ..
  exact Nat.dvd_antisymm e1 e2
/-- p/q is n/d in lowest terms -/
def Low (n d p q : Int) : Prop := 0 < q ∧ Int.gcd p q = 1 ∧ p * d = n * q ∧ p.natAbs ≤ n.natAbs ∧ q.natAbs ≤ d.natAbs
theorem low_pos {n d : Int} (hd : 0 < d) : Low n d (n / (Int.gcd n d : Nat)) (d / (Int.gcd n d : Nat)) := by
  have g0 : 0 < Int.gcd n d := Int.gcd_pos_of_ne_zero_right n (Int.ne_of_gt hd)
  have g0' : (0 : Int) < (Int.gcd n d : Nat) := by omega
  have gn : ((Int.gcd n d : Nat) : Int) ∣ n := Int.gcd_dvd_left ..
  have gd : ((Int.gcd n d : Nat) : Int) ∣ d := Int.gcd_dvd_right ..
  refine ⟨Int.ediv_pos_of_pos_of_dvd hd (Int.le_of_lt g0') gd, Int.gcd_ediv_gcd_ediv_gcd g0, ?_, Int.natAbs_ediv_le_natAbs .., Int.natAbs_ediv_le_natAbs ..⟩
  have a := Int.ediv_mul_cancel gn
  have b := Int.ediv_mul_cancel gd
  generalize n / (Int.gcd n d : Nat) = p at *
  generalize d / (Int.gcd n d : Nat) = q at *
  generalize ((Int.gcd n d : Nat) : Int) = g at *
  subst a; subst b
  rw [Int.mul_assoc, Int.mul_comm g q]
/-- in lowest terms there is but one -/
theorem low_uniq {p q p' q' : Int} (hq : 0 < q) (hq' : 0 < q') (h1 : Int.gcd p q = 1) (h2 : Int.gcd p' q' = 1) (e : p * q' = p' * q) : p = p' ∧ q = q' := by
  have a : q ∣ q' := by
    have : q ∣ p * q' := ⟨p', by rw [e, Int.mul_comm]⟩
    have h := Nat.Coprime.dvd_of_dvd_mul_left (k := q.natAbs) (m := p.natAbs) (n := q'.natAbs) (by rw [Nat.coprime_comm]; exact h1) (by rw [← Int.natAbs_mul]; exact Int.natAbs_dvd_natAbs.mpr this)
    exact Int.natAbs_dvd_natAbs.mp h
  have b : q' ∣ q := by
    have : q' ∣ p' * q := ⟨p, by rw [← e, Int.mul_comm]⟩
    have h := Nat.Coprime.dvd_of_dvd_mul_left (k := q'.natAbs) (m := p'.natAbs) (n := q.natAbs) (by rw [Nat.coprime_comm]; exact h2) (by rw [← Int.natAbs_mul]; exact Int.natAbs_dvd_natAbs.mpr this)
    exact Int.natAbs_dvd_natAbs.mp h
  have c : q = q' := Int.dvd_antisymm (by omega) (by omega) a b
  subst c
  exact ⟨Int.eq_of_mul_eq_mul_right (Int.ne_of_gt hq) e, rfl⟩
/-- p/q is n/d in lowest terms; sizes apart -/
def Fr (n d p q : Int) : Prop := 0 < q ∧ Int.gcd p q = 1 ∧ p * d = n * q
theorem Low.fr {n d p q : Int} (h : Low n d p q) : Fr n d p q := ⟨h.1, h.2.1, h.2.2.1⟩
/-- a state of the draws -/
def Dst (b : Own) : Prop := ∃ (cells : List Int) (i f s : Int), b = .lst [.list (cells.map .int), .int i, .int f, .int s] ∧ 0 ≤ i ∧ 0 ≤ f ∧ 0 ≤ s
/-- equal fractions -/
theorem fr_sub {p1 q1 p3 q3 p4 q4 n1 d1 n3 d3 : Int} (h1 : p1 * d1 = n1 * q1) (h3 : p3 * d3 = n3 * q3) (h4 : p4 * (q1 * q3) = (p1 * q3 - p3 * q1) * q4) (q1p : 0 < q1) (q3p : 0 < q3) : p4 * (d1 * d3) = (n1 * d3 - n3 * d1) * q4 := by
  have hq : 0 < q1 * q3 := Int.mul_pos q1p q3p
  apply Int.eq_of_mul_eq_mul_right (Int.ne_of_gt hq)
  grind
theorem fr_add {p1 q1 p3 q3 p4 q4 n1 d1 n3 d3 : Int} (h1 : p1 * d1 = n1 * q1) (h3 : p3 * d3 = n3 * q3) (h4 : p4 * (q1 * q3) = (p1 * q3 + p3 * q1) * q4) (q1p : 0 < q1) (q3p : 0 < q3) : p4 * (d1 * d3) = (n1 * d3 + n3 * d1) * q4 := by
  have hq : 0 < q1 * q3 := Int.mul_pos q1p q3p
  apply Int.eq_of_mul_eq_mul_right (Int.ne_of_gt hq)
  grind
theorem fr_mul {p1 q1 p3 q3 p4 q4 n1 d1 n3 d3 : Int} (h1 : p1 * d1 = n1 * q1) (h3 : p3 * d3 = n3 * q3) (h4 : p4 * (q1 * q3) = (p1 * p3) * q4) (q1p : 0 < q1) (q3p : 0 < q3) : p4 * (d1 * d3) = (n1 * n3) * q4 := by
  have hq : 0 < q1 * q3 := Int.mul_pos q1p q3p
  apply Int.eq_of_mul_eq_mul_right (Int.ne_of_gt hq)
  grind
theorem fr_lt {p q n d p' q' n' d' : Int} (h : p * d = n * q) (h' : p' * d' = n' * q') (hq : 0 < q) (hq' : 0 < q') (hd : 0 < d) (hd' : 0 < d') : p * q' < p' * q ↔ n * d' < n' * d := by
  have a : 0 < d * d' := Int.mul_pos hd hd'
  have b : 0 < q * q' := Int.mul_pos hq hq'
  rw [← Int.mul_lt_mul_right a, ← Int.mul_lt_mul_right (a := q * q') b (b := n * d')]
  have e1 : p * q' * (d * d') = n * d' * (q * q') := by grind
  have e2 : p' * q * (d * d') = n' * d * (q * q') := by grind
  rw [e1, e2]
theorem sum_abs {B : Nat} : ∀ {l : List Int}, (∀ v ∈ l, v.natAbs ≤ B) → l.sum.natAbs ≤ l.length * B
  | [], _ => by simp
  | v :: l, h => by
    have a := h v List.mem_cons_self
    have b := sum_abs (l := l) fun w hw => h w (List.mem_cons_of_mem _ hw)
    rw [List.sum_cons, List.length_cons, Nat.succ_mul]
    have := Int.natAbs_add_le v l.sum
    omega
theorem Bd.sum {k j : Nat} {l : List Int} (h : ∀ v ∈ l, Bd k v) (hl : l.length < 2 ^ j) : Bd (j + k) l.sum := by
  have a := sum_abs (B := 2 ^ k) fun v hv => Nat.le_of_lt (h v hv)
  unfold Bd
  rw [Nat.pow_add]
  exact Nat.lt_of_le_of_lt a (Nat.mul_lt_mul_of_pos_right hl (Nat.two_pow_pos k))
theorem Bd.nat {k n : Nat} (h : n < 2 ^ k) : Bd k (n : Int) := by unfold Bd; rw [Int.natAbs_natCast]; exact h
theorem sum_sq (c t : Int) : ∀ l : List Int, (l.map fun v => (c * v - t) * (c * v - t)).sum = c * c * (l.map fun v => v * v).sum - 2 * c * t * l.sum + l.length * t * t
  | [] => by simp
  | v :: l => by
    have := sum_sq c t l
    simp only [List.map_cons, List.sum_cons, List.length_cons]
    rw [this]
    grind
theorem uop_sumL {l : List Int} {K : D → Prop} (h : K (.int l.sum)) : uop sumD (some (.list (l.map PyData.int))) K := uop_is (show (intsOf (l.map PyData.int)).map _ = _ by rw [intsOf_map]; rfl) h
theorem uop_sumT {l : List Int} {K : D → Prop} (h : K (.int l.sum)) : uop sumD (some (.tuple (l.map PyData.int))) K := uop_is (show (intsOf (l.map PyData.int)).map _ = _ by rw [intsOf_map]; rfl) h
theorem bestL {f : List Int → Int} {l : List Int} {K : D → Prop} (h0 : l ≠ []) (h : K (.int (f l))) : uop (bestD f) (some (.list (l.map PyData.int))) K := by
  cases l with
  | nil => exact absurd rfl h0
  | cons n ns => exact uop_is (show (match intsOf ((n :: ns).map PyData.int) with
    | some (n :: ns) => some (PyData.int (f (n :: ns)))
    | _ => none) = _ by rw [intsOf_map]) h
theorem bestT {f : List Int → Int} {l : List Int} {K : D → Prop} (h0 : l ≠ []) (h : K (.int (f l))) : uop (bestD f) (some (.tuple (l.map PyData.int))) K := by
  cases l with
  | nil => exact absurd rfl h0
  | cons n ns => exact uop_is (show (match intsOf ((n :: ns).map PyData.int) with
    | some (n :: ns) => some (PyData.int (f (n :: ns)))
    | _ => none) = _ by rw [intsOf_map]) h
theorem cutG_from {α : Type} (xs : List α) (a : Nat) : cutG xs (some (a : Int)) none = xs.drop a := by
  unfold cutG
  rw [HT.sIx_nat, HT.sIx_none]
  rw [List.take_of_length_le (by rw [List.length_drop]; exact Nat.le_refl _)]
  by_cases h : a ≤ xs.length
  · rw [Nat.min_eq_left h]
  · rw [Nat.min_eq_right (by omega), List.drop_length, List.drop_of_length_le (by omega)]
theorem cutG_to {α : Type} (xs : List α) (b : Nat) : cutG xs none (some (b : Int)) = xs.take b := by
  unfold cutG
  rw [HT.sIx_nat, HT.sIx_none, List.drop_zero, Nat.sub_zero]
  by_cases h : b ≤ xs.length
  · rw [Nat.min_eq_left h]
  · rw [Nat.min_eq_right (by omega), List.take_length, List.take_of_length_le (by omega)]
theorem bop_mul_li {xs : List D} {k : Int} {K : D → Prop} (h1 : -(2 ^ 63) ≤ k) (h2 : k < 2 ^ 63) (hz : xs.length * k.toNat ≤ sizeLine) (h : K (.list (List.replicate k.toNat xs).flatten)) : bop mulD (some (.list xs)) (some (.int k)) K := bop_is (show (if decide (-(2 ^ 63) ≤ k) && decide (k < 2 ^ 63) && fitS (xs.length * k.toNat) then some (PyData.list (List.replicate k.toNat xs).flatten) else none) = _ by
  rw [if_pos]
  rw [decide_eq_true h1, decide_eq_true h2]
  exact decide_eq_true hz) h
theorem rep_map {α β : Type} (f : α → β) (n : Nat) (l : List α) : (List.replicate n (l.map f)).flatten = ((List.replicate n l).flatten).map f := by
  rw [List.map_flatten, List.map_replicate]
theorem rep_mem {α : Type} {n : Nat} {l : List α} {x : α} (h : x ∈ (List.replicate n l).flatten) : x ∈ l := by
  obtain ⟨m, hm, hx⟩ := List.mem_flatten.mp h
  rw [List.eq_of_mem_replicate hm] at hx
  exact hx
theorem rep_len {α : Type} (n : Nat) (l : List α) : (List.replicate n l).flatten.length = n * l.length := by
  induction n with
  | zero => simp
  | succ n ih => rw [List.replicate_succ, List.flatten_cons, List.length_append, ih, Nat.succ_mul, Nat.add_comm]
theorem uop_cutL {xs : List D} {lo hi : Option Int} {K : D → Prop} (h : K (.list (cutG xs lo hi))) : uop (fun x => slD x lo hi) (some (.list xs)) K := uop_is rfl h
theorem uop_cutT {xs : List D} {lo hi : Option Int} {K : D → Prop} (h : K (.tuple (cutG xs lo hi))) : uop (fun x => slD x lo hi) (some (.tuple xs)) K := uop_is rfl h
theorem mapI_get {l : List Int} {i : Nat} {x : D} (h : (l.map PyData.int)[i]? = some x) : ∃ v, l[i]? = some v ∧ x = .int v ∧ v ∈ l := by
  rw [List.getElem?_map] at h
  obtain ⟨v, hv, rfl⟩ := Option.map_eq_some_iff.mp h
  exact ⟨v, hv, rfl, List.mem_of_getElem? hv⟩
theorem take_snoc {α β : Type} {l : List α} {f : α → β} {i : Nat} {v : α} (h : l[i]? = some v) : (l.take i).map f ++ [f v] = (l.take (i + 1)).map f := by
  rw [List.take_add_one, h, List.map_append]
  rfl
theorem lenFit {α : Type} {l : List α} (h : l.length ≤ 16000000) : fitS l.length = true := decide_eq_true (by show l.length ≤ 2 ^ 24; omega)
/-! what can be asked for == -/
def Shp (k : Nat) (x : D) : Prop := x.canLay0 = true ∧ x.depth ≤ k
theorem Shp.shaped {k : Nat} {x : D} (h : Shp k x) (hk : k ≤ 64) : SeqAt.shaped x = true := by
  unfold SeqAt.shaped
  rw [h.1, decide_eq_true (Nat.le_trans h.2 hk)]
  rfl
theorem Shp.int (k : Nat) (i : Int) : Shp k (.int i) := ⟨rfl, Nat.zero_le _⟩
theorem Shp.bool (k : Nat) (i : Bool) : Shp k (.bool i) := ⟨rfl, Nat.zero_le _⟩
theorem Shp.none (k : Nat) : Shp k .none := ⟨rfl, Nat.zero_le _⟩
theorem Shp.str (k : Nat) {a : Str} (h : PyData.strOk a = true) : Shp k (.str a) := ⟨by simp [PyData.canLay0, h], Nat.zero_le _⟩
theorem Shp.all {k : Nat} : ∀ {xs : List D}, (∀ x ∈ xs, Shp k x) → PyData.canLayAll0 xs = true ∧ PyData.depthAll xs ≤ k
  | [], _ => ⟨rfl, Nat.zero_le _⟩
  | x :: xs, h => by
    have a := h x List.mem_cons_self
    have b := Shp.all (xs := xs) fun y hy => h y (List.mem_cons_of_mem _ hy)
    constructor
    · rw [PyData.canLayAll0, a.1, b.1]; rfl
    · rw [PyData.depthAll]; exact Nat.max_le.mpr ⟨a.2, b.2⟩
theorem Shp.tup {k : Nat} {xs : List D} (h : ∀ x ∈ xs, Shp k x) : Shp (k + 1) (.tuple xs) := by
  have := Shp.all h
  exact ⟨by rw [PyData.canLay0]; exact this.1, by rw [PyData.depth]; exact Nat.succ_le_succ this.2⟩
theorem Shp.lst {k : Nat} {xs : List D} (h : ∀ x ∈ xs, Shp k x) : Shp (k + 1) (.list xs) := by
  have := Shp.all h
  exact ⟨by rw [PyData.canLay0]; exact this.1, by rw [PyData.depth]; exact Nat.succ_le_succ this.2⟩
theorem Shp.mono {k l : Nat} {x : D} (h : Shp k x) (hl : k ≤ l) : Shp l x := ⟨h.1, Nat.le_trans h.2 hl⟩
theorem Shp.refl {k : Nat} {x : D} (h : Shp k x) : PyData.eqv x x = true := PySem.SeqAt.eqv_refl x h.1
theorem bop_eq_same {k : Nat} {x : D} {K : D → Prop} (hs : Shp k x) (hk : k ≤ 64) (h : K (.bool true)) : bop eqD (some x) (some x) K := bop_eq (hs.shaped hk) (hs.shaped hk) (by rw [hs.refl]; exact h)
theorem bop_ne_same {k : Nat} {x : D} {K : D → Prop} (hs : Shp k x) (hk : k ≤ 64) (h : K (.bool false)) : bop neD (some x) (some x) K := bop_ne (hs.shaped hk) (hs.shaped hk) (by rw [hs.refl]; exact h)
theorem boolsOf_true (n : Nat) : boolsOf (List.replicate n (.bool true)) = some (List.replicate n true) := by
  induction n with
  | zero => rfl
  | succ n ih =>
    rw [List.replicate_succ, List.replicate_succ]
    show (boolsOf (List.replicate n (.bool true))).map _ = _
    rw [ih]
    rfl
theorem uop_allT {n : Nat} {K : D → Prop} (h : K (.bool true)) : uop allD (some (.list (List.replicate n (.bool true)))) K := uop_is (show (boolsOf (List.replicate n (.bool true))).map _ = some (.bool true) by
  rw [boolsOf_true]
  show some (PyData.bool ((List.replicate n true).all id)) = _
  rw [List.all_replicate]
  cases n <;> rfl) h
theorem rep_snoc {α : Type} (n : Nat) (x : α) : List.replicate n x ++ [x] = List.replicate (n + 1) x := List.replicate_succ'.symm
/-! fractions -/
def frac (n d : Int) : Int × Int := if d < 0 then (-n / (Int.gcd n d : Nat), -d / (Int.gcd n d : Nat)) else (n / (Int.gcd n d : Nat), d / (Int.gcd n d : Nat))
def frD (f : Int × Int) : D := .tuple [.int f.1, .int f.2]
theorem frac_low {n d : Int} (h : d ≠ 0) : Low n d (frac n d).1 (frac n d).2 := by
  unfold frac
  split
  · rename_i h0
    have := low_pos (n := -n) (d := -d) (by omega)
    rw [Int.gcd_neg, Int.neg_gcd] at this
    obtain ⟨a, b, c, e, f⟩ := this
    refine ⟨a, b, ?_, ?_, ?_⟩
    · rw [Int.mul_neg, Int.neg_mul] at c
      exact Int.neg_inj.mp c
    · rw [Int.natAbs_neg n] at e; exact e
    · rw [Int.natAbs_neg d] at f; exact f
  · exact low_pos (by omega)
theorem fr_uniq {n d p q p' q' : Int} (hd : d ≠ 0) (h : Fr n d p q) (h' : Fr n d p' q') : p = p' ∧ q = q' := by
  refine low_uniq h.1 h'.1 h.2.1 h'.2.1 ?_
  have e1 := h.2.2
  have e2 := h'.2.2
  apply Int.eq_of_mul_eq_mul_right hd
  grind
theorem Fr.eq {n d p q : Int} (hd : d ≠ 0) (h : Fr n d p q) : (.tuple [.int p, .int q] : D) = frD (frac n d) := by
  have := fr_uniq hd h (frac_low hd).fr
  unfold frD
  rw [this.1, this.2]
/-- a fraction in lowest terms -/
structure Frc (k : Nat) (f : Int × Int) : Prop where
  pos : 0 < f.2
  low : Int.gcd f.1 f.2 = 1
  b1 : Bd k f.1
  b2 : Bd k f.2
theorem Frc.mono {k l : Nat} {f : Int × Int} (h : Frc k f) (hl : k ≤ l) : Frc l f := ⟨h.pos, h.low, h.b1.mono hl, h.b2.mono hl⟩
theorem frac_frc {k : Nat} {n d : Int} (hd : d ≠ 0) (B1 : Bd k n) (B2 : Bd k d) : Frc k (frac n d) := by
  have := frac_low (n := n) hd
  exact ⟨this.1, this.2.1, B1.of_le this.2.2.2.1, B2.of_le this.2.2.2.2⟩
theorem Frc.self {k : Nat} {f : Int × Int} (h : Frc k f) : frac f.1 f.2 = f := by
  have a : Fr f.1 f.2 f.1 f.2 := ⟨h.pos, h.low, rfl⟩
  have := fr_uniq (Int.ne_of_gt h.pos) a (frac_low (Int.ne_of_gt h.pos)).fr
  rw [Prod.ext_iff]
  exact ⟨this.1.symm, this.2.symm⟩
theorem frD_shp (f : Int × Int) : Shp 1 (frD f) := Shp.tup (k := 0) fun x hx => by
  rcases List.mem_cons.mp hx with rfl | hx
  · exact Shp.int _ _
  · rw [List.mem_singleton.mp hx]; exact Shp.int _ _
theorem frDs_shp (l : List (Int × Int)) : ∀ x ∈ l.map frD, Shp 1 x := fun x hx => by
  obtain ⟨f, _, rfl⟩ := List.mem_map.mp hx
  exact frD_shp f
def addF (a b : Int × Int) : Int × Int := frac (a.1 * b.2 + b.1 * a.2) (a.2 * b.2)
def subF (a b : Int × Int) : Int × Int := frac (a.1 * b.2 - b.1 * a.2) (a.2 * b.2)
def mulF (a b : Int × Int) : Int × Int := frac (a.1 * b.1) (a.2 * b.2)
def divF (a b : Int × Int) : Int × Int := frac (a.1 * b.2) (a.2 * b.1)
theorem Frc.add {k : Nat} {a b : Int × Int} (ha : Frc k a) (hb : Frc k b) : Frc (2 * k + 1) (addF a b) := frac_frc (Int.ne_of_gt (Int.mul_pos ha.pos hb.pos)) (((ha.b1.mulB hb.b2).addB (hb.b1.mulB ha.b2)).mono (by omega)) ((ha.b2.mulB hb.b2).mono (by omega))
theorem Frc.sub {k : Nat} {a b : Int × Int} (ha : Frc k a) (hb : Frc k b) : Frc (2 * k + 1) (subF a b) := frac_frc (Int.ne_of_gt (Int.mul_pos ha.pos hb.pos)) (((ha.b1.mulB hb.b2).subB (hb.b1.mulB ha.b2)).mono (by omega)) ((ha.b2.mulB hb.b2).mono (by omega))
theorem Frc.mul {k : Nat} {a b : Int × Int} (ha : Frc k a) (hb : Frc k b) : Frc (2 * k + 1) (mulF a b) := frac_frc (Int.ne_of_gt (Int.mul_pos ha.pos hb.pos)) ((ha.b1.mulB hb.b1).mono (by omega)) ((ha.b2.mulB hb.b2).mono (by omega))
theorem Frc.div {k : Nat} {a b : Int × Int} (ha : Frc k a) (hb : Frc k b) (h0 : b.1 ≠ 0) : Frc (2 * k + 1) (divF a b) := frac_frc (Int.mul_ne_zero (Int.ne_of_gt ha.pos) h0) ((ha.b1.mulB hb.b2).mono (by omega)) ((ha.b2.mulB hb.b1).mono (by omega))
theorem Frc.zero {k : Nat} (hk : 0 < k) : Frc k (0, 1) := ⟨by decide, rfl, Nat.two_pow_pos k, Nat.one_lt_two_pow (by omega)⟩
end Fx
/-! Fx: more built-ins -/
namespace Fx
open PySem PySem.Spec PyProof.Rows L2
def ii2 (g : Int → Int → Int) : D → D → Option D
  | .int i, .int j => some (.int (g i j))
  | _, _ => none
def b2M (f : D → D → Option D) (m n : M D) : M D := bnd m fun x => bnd n fun y => lft (f x y)
def min2M (m n : M D) : M D := b2M (ii2 fun i j => if j < i then j else i) m n
def max2M (m n : M D) : M D := b2M (ii2 fun i j => if j > i then j else i) m n
theorem b2_some {g : Int → Int → Int} {m n : M D} {ρ ρ' : Rho} {z : D} (h : b2M (ii2 g) m n ρ = some (z, ρ')) : ∃ i j ρ1, m ρ = some (.int i, ρ1) ∧ n ρ1 = some (.int j, ρ') ∧ z = .int (g i j) := by
  obtain ⟨x, ρ1, h1, h⟩ := bnd_some h
  obtain ⟨y, ρ2, h2, h⟩ := bnd_some h
  unfold lft at h
  cases x with
  | int i =>
    cases y with
    | int j => cases h; exact ⟨i, j, ρ1, h1, h2, rfl⟩
    | _ => cases h
  | _ => cases h
section
variable {X : Cx} {a b : Expr} {pos p : Pos} {m n : M D}
theorem v_min2 (hc : X.calm = true) (hg : Gl X "min") (hm : X.mg "min" = none) (ha : PE X a (rdV X.K m)) (hb : PE X b (rdV X.K n))
    (hsa : starEach (a :: [b]) X.env = (false, eval a X.env) :: starEach [b] X.env := by rfl) (hsb : starEach [b] X.env = (false, eval b X.env) :: starEach [] X.env := by rfl) (hpl : (backTo pos (starEach [b] X.env)).any (·.1) = false := by rfl) : PE X (.Call (.Name "min" p) [a, b] [] pos) (rdV X.K (min2M m n)) := by
  refine pe_imp (pe_callB (call_min2 hc) hg hm boot_min (pa_cons ha (pa_cons hb pa_nil hsb) hsa) (by decide) (by decide) hsa hpl) fun σ H Q h => ?_
  obtain ⟨F, G, ρ, d, ρ', ok, hm, q⟩ := h
  obtain ⟨i, j, ρ1, h1, h2, rfl⟩ := b2_some hm
  refine ⟨F, G, ρ, _, ρ1, ok, h1, fun v F1 H1 s1 ok1 r1 => ⟨F1, G, ρ1, _, ρ', ok1, h2, fun w F2 H2 s2 ok2 r2 => ⟨i, j, ?_, ?_⟩⟩⟩
  · rw [show v = V.int i from r1, show w = V.int j from r2]
  · exact q _ F2 H2 (s1.trans s2) ok2 rfl
theorem v_max2 (hc : X.calm = true) (hg : Gl X "max") (hm : X.mg "max" = none) (ha : PE X a (rdV X.K m)) (hb : PE X b (rdV X.K n))
    (hsa : starEach (a :: [b]) X.env = (false, eval a X.env) :: starEach [b] X.env := by rfl) (hsb : starEach [b] X.env = (false, eval b X.env) :: starEach [] X.env := by rfl) (hpl : (backTo pos (starEach [b] X.env)).any (·.1) = false := by rfl) : PE X (.Call (.Name "max" p) [a, b] [] pos) (rdV X.K (max2M m n)) := by
  refine pe_imp (pe_callB (call_max2 hc) hg hm boot_max (pa_cons ha (pa_cons hb pa_nil hsb) hsa) (by decide) (by decide) hsa hpl) fun σ H Q h => ?_
  obtain ⟨F, G, ρ, d, ρ', ok, hm, q⟩ := h
  obtain ⟨i, j, ρ1, h1, h2, rfl⟩ := b2_some hm
  refine ⟨F, G, ρ, _, ρ1, ok, h1, fun v F1 H1 s1 ok1 r1 => ⟨F1, G, ρ1, _, ρ', ok1, h2, fun w F2 H2 s2 ok2 r2 => ⟨i, j, ?_, ?_⟩⟩⟩
  · rw [show v = V.int i from r1, show w = V.int j from r2]
  · exact q _ F2 H2 (s1.trans s2) ok2 rfl
end
theorem wp_min2 {m n : M D} {ρ : Rho} {Q : D → Rho → Prop} (h : wp m ρ fun x ρ1 => wp n ρ1 fun y ρ2 => ∃ i j, x = .int i ∧ y = .int j ∧ Q (.int (if j < i then j else i)) ρ2) : wp (min2M m n) ρ Q := by
  obtain ⟨x, ρ1, h1, y, ρ2, h2, i, j, rfl, rfl, q⟩ := h
  exact ⟨_, ρ2, (bnd_eq h1).trans ((bnd_eq h2).trans rfl), q⟩
theorem wp_max2 {m n : M D} {ρ : Rho} {Q : D → Rho → Prop} (h : wp m ρ fun x ρ1 => wp n ρ1 fun y ρ2 => ∃ i j, x = .int i ∧ y = .int j ∧ Q (.int (if j > i then j else i)) ρ2) : wp (max2M m n) ρ Q := by
  obtain ⟨x, ρ1, h1, y, ρ2, h2, i, j, rfl, rfl, q⟩ := h
  exact ⟨_, ρ2, (bnd_eq h1).trans ((bnd_eq h2).trans rfl), q⟩
theorem ex_int2 {i j : Int} {P : Int → Int → Prop} (h : P i j) : ∃ a b, PyData.int i = PyData.int a ∧ PyData.int j = PyData.int b ∧ P a b := ⟨_, _, rfl, rfl, h⟩
end Fx
/-! Fx: dicts with tuples as keys; list(range) -/
namespace Fx
open PySem PySem.Spec PyProof.Rows L2
def keysD : List D → Option (List Key)
  | [] => some []
  | .int i :: ds => (keysD ds).map fun ks => Sum.inl i :: ks
  | .str s :: ds => (keysD ds).map fun ks => Sum.inr s :: ks
  | _ :: _ => none
theorem keys_vs {K : Kf} {F : Hp} : ∀ {xs : List D} {ks : List Key} {vs : List V}, keysD xs = some ks → Rps K F xs vs → vs = ks.map kV
  | [], ks, vs, h, r => by cases h; exact r
  | x :: xs, ks, vs, h, r => by
    obtain ⟨v, r', rfl, h1, h2⟩ := r
    cases x with
    | int i =>
      cases hr : keysD xs with
      | none => simp [keysD, hr] at h
      | some ks' =>
        simp [keysD, hr] at h
        subst h
        rw [keys_vs hr h2, show v = V.int i from h1]
        rfl
    | str s =>
      cases hr : keysD xs with
      | none => simp [keysD, hr] at h
      | some ks' =>
        simp [keysD, hr] at h
        subst h
        rw [keys_vs hr h2, show v = V.str s from h1]
        rfl
    | _ => simp [keysD] at h
def getG {κ α : Type} [DecidableEq κ] (kvs : List (κ × α)) (k : κ) : Option α := (kvs.find? fun kv => decide (kv.1 = k)).map fun kv => kv.2
def putG {κ α : Type} [DecidableEq κ] (kvs : List (κ × α)) (k : κ) (v : α) : List (κ × α) :=
  if (kvs.any fun kv => decide (kv.1 = k)) = true then kvs.map (fun kv => if kv.1 = k then (kv.1, v) else kv) else kvs ++ [(k, v)]
/-- the same keys, and values that stand for the data -/
def Two {κ : Type} (K : Kf) (F : Hp) (kvs : List (κ × D)) (ws : List (κ × V)) : Prop := ws.map (·.1) = kvs.map (·.1) ∧ Rps K F (kvs.map (·.2)) (ws.map (·.2))
section
variable {κ : Type} [DecidableEq κ] {K : Kf} {F : Hp}
theorem Two.get : ∀ {kvs : List (κ × D)} {ws : List (κ × V)} {k : κ} {d : D}, Two K F kvs ws → getG kvs k = some d → ∃ v, valV ws k = some v ∧ Rp K F d v
  | [], ws, k, d, h, g => by cases g
  | (k0, d0) :: kvs, ws, k, d, ⟨h1, h2⟩, g => by
    cases ws with
    | nil => cases h1
    | cons w ws =>
      obtain ⟨w0, v0⟩ := w
      injection h1 with e1 e2
      cases (show w0 = k0 from e1)
      obtain ⟨v, r, e3, h3, h4⟩ := h2
      injection e3 with e4 e5
      cases (show v0 = v from e4)
      cases (show _ = r from e5)
      unfold getG at g
      unfold valV
      rw [List.find?_cons] at g ⊢
      by_cases hk : k0 = k
      · rw [decide_eq_true hk] at g ⊢
        cases g
        exact ⟨_, rfl, h3⟩
      · rw [decide_eq_false hk] at g ⊢
        exact Two.get (kvs := kvs) (ws := ws) ⟨e2, h4⟩ g
theorem any_keys {α : Type} (k : κ) : ∀ (kvs : List (κ × α)), (kvs.any fun kv => decide (kv.1 = k)) = (kvs.map (·.1)).any fun x => decide (x = k)
  | [] => rfl
  | kv :: kvs => by rw [List.any_cons, List.map_cons, List.any_cons, any_keys k kvs]
theorem Two.repl {k : κ} {d : D} {v : V} (r : Rp K F d v) : ∀ {kvs : List (κ × D)} {ws : List (κ × V)}, Two K F kvs ws → Two K F (kvs.map fun kv => if kv.1 = k then (kv.1, d) else kv) (ws.map fun kv => if kv.1 = k then (kv.1, v) else kv)
  | [], ws, ⟨h1, h2⟩ => by
    cases ws with
    | nil => exact ⟨rfl, rfl⟩
    | cons w ws => cases h1
  | (k0, d0) :: kvs, ws, ⟨h1, h2⟩ => by
    cases ws with
    | nil => cases h1
    | cons w ws =>
      obtain ⟨w0, v0⟩ := w
      injection h1 with e1 e2
      cases (show w0 = k0 from e1)
      obtain ⟨v', r', e3, h3, h4⟩ := h2
      injection e3 with e4 e5
      cases (show v0 = v' from e4)
      cases (show _ = r' from e5)
      have ih := Two.repl (k := k) (d := d) r (kvs := kvs) (ws := ws) ⟨e2, h4⟩
      by_cases hk : k0 = k
      · constructor
        · simp only [List.map_cons, if_pos hk]
          rw [ih.1]
        · simp only [List.map_cons, if_pos hk]
          exact ⟨_, _, rfl, r, ih.2⟩
      · constructor
        · simp only [List.map_cons, if_neg hk]
          rw [ih.1]
        · simp only [List.map_cons, if_neg hk]
          exact ⟨_, _, rfl, h3, ih.2⟩
theorem Two.put {kvs : List (κ × D)} {ws : List (κ × V)} {k : κ} {d : D} {v : V} (h : Two K F kvs ws) (r : Rp K F d v) : Two K F (putG kvs k d) (putK ws k v) := by
  unfold putG putK
  rw [any_keys k kvs, any_keys k ws, h.1]
  split
  · exact h.repl r
  · constructor
    · rw [List.map_append, List.map_append, h.1]
      rfl
    · rw [List.map_append, List.map_append]
      exact h.2.append ⟨v, [], rfl, r, rfl⟩
theorem putG_same {α : Type} (kvs : List (κ × α)) (k : κ) (v : α) : getG (putG kvs k v) k = some v := by
  unfold putG
  split
  · rename_i h
    induction kvs with
    | nil => cases h
    | cons kv kvs ih =>
      unfold getG
      rw [List.map_cons, List.find?_cons]
      by_cases hk : kv.1 = k
      · rw [if_pos hk, decide_eq_true hk]; rfl
      · rw [if_neg hk, decide_eq_false hk]
        rw [List.any_cons, decide_eq_false hk, Bool.false_or] at h
        exact ih h
  · rename_i h
    unfold getG
    rw [List.find?_append, List.find?_eq_none.mpr (by
      intro x hx e
      exact h (List.any_eq_true.mpr ⟨x, hx, e⟩))]
    simp
theorem putG_other {α : Type} {kvs : List (κ × α)} {k k' : κ} {v : α} (hk : k' ≠ k) : getG (putG kvs k v) k' = getG kvs k' := by
  unfold putG
  split
  · rename_i h
    clear h
    induction kvs with
    | nil => rfl
    | cons kv kvs ih =>
      unfold getG at ih ⊢
      rw [List.map_cons, List.find?_cons, List.find?_cons]
      by_cases h1 : kv.1 = k
      · rw [if_pos h1]
        have h2 : kv.1 ≠ k' := fun e => hk (e.symm.trans h1)
        rw [decide_eq_false h2]
        exact ih
      · rw [if_neg h1]
        by_cases h2 : kv.1 = k'
        · rw [decide_eq_true h2]
        · rw [decide_eq_false h2]; exact ih
  · unfold getG
    rw [List.find?_append]
    cases kvs.find? fun kv => decide (kv.1 = k') with
    | some x => rfl
    | none => simp [Ne.symm hk]
theorem putG_len {α : Type} (kvs : List (κ × α)) (k : κ) (v : α) : (putG kvs k v).length ≤ kvs.length + 1 := by
  unfold putG
  split
  · rw [List.length_map]; omega
  · rw [List.length_append]; exact Nat.le_refl _
end
def newTM : M Own := ret (.dt [])
def getT (i : Nat) (xs : List D) : M D := fun ρ => match ρ[i]?, keysD xs with
  | some (.o (.dt kvs)), some ks => (getG kvs ks).map fun d => (d, ρ)
  | _, _ => none
def dgetM (i : Nat) (m : M (List D)) : M D := bnd (ownM i) fun _ => bnd m fun xs => if fitS xs.length then getT i xs else fun _ => none
def putT (i : Nat) (d : D) (xs : List D) : MS := fun ρ => match ρ[i]?, keysD xs with
  | some (.o (.dt kvs)), some ks => if decide (kvs.length < sizeLine) then some (.nx, ρ.set i (.o (.dt (putG kvs ks d)))) else none
  | _, _ => none
def dputM (i : Nat) (m : M D) (n : M (List D)) : MS := bnd m fun d => bnd (ownM i) fun _ => bnd n fun xs => if fitS xs.length then putT i d xs else fun _ => none
def listrng2M (m n : M D) : M Own := bnd m fun x => bnd n fun y => fun ρ => match x, y with
  | .int a, .int b => if decide (-(2 ^ 62) ≤ a) && decide (a < 2 ^ 62) && decide (-(2 ^ 62) ≤ b) && decide (b < 2 ^ 62) && decide ((b - a).toNat ≤ 2 ^ 24) then some (.lst (rngL a (b - a).toNat), ρ) else none
  | _, _ => none
def listrng1M (m : M D) : M Own := listrng2M (cM (.int 0)) m
section
variable {X : Cx} {e a b : Expr} {es : List Expr} {pos p : Pos}
theorem n_newT : PE X (.Dict [] [] pos) (rdN X.K newTM) := by
  refine pe_imp pe_dnewT fun σ H Q h => ?_
  obtain ⟨F, G, ρ, d, ρ', ok, hm, q⟩ := h
  cases hm
  intro p hp
  obtain ⟨ok2, n⟩ := ok.fresh (o := .dT []) hp
  exact q p F _ (Same.refl F) ok2 n ⟨[], upd_same, rfl, rfl⟩
theorem v_dget (i : Nat) {x : Str} {m : M (List D)} {px p1 : Pos} {x1 : Nat} (hu : X.A.units + 64 < cLine) (ha : PA X es (rdA X.K m)) (hN : X.N[i]? = some x := by rfl) (hv : Vis X.env.scope x := by first | exact Or.inl rfl | exact Or.inr (Or.inl rfl) | exact Or.inr (Or.inr rfl)) (hd : (x == ("__debug__" : Str)) = false := by decide)
    (hcd : (x == ("__classdict__" : Str)) = false := by decide) (hs : NoSl (.Tuple es x1 p1) := by intro _ _; rfl) : PE X (.Subscript (.Name x px) (.Tuple es x1 p1) pos) (rdV X.K (dgetM i m)) := by
  refine pe_imp (pe_dget (by omega) (pe_var (i := i) hN hv hd hcd) (pe_tup ha) hs) fun σ H Q h => ?_
  obtain ⟨F, G, ρ, d, ρ', ok, hm, q⟩ := h
  obtain ⟨u, ρ1, h1, h2⟩ := bnd_some hm
  obtain ⟨rfl, b, hb⟩ := own_some h1
  obtain ⟨xs, ρ2, h3, h4⟩ := bnd_some h2
  obtain ⟨p, hp, _, _, _⟩ := ok.own i b hb
  by_cases hz : fitS xs.length = true
  · rw [if_pos hz] at h4
    refine ⟨.ref p, hp, F, G, ρ1, xs, ρ2, ok, h3, fun vs F1 H1 s1 ok1 r1 => ⟨by rw [r1.length]; exact of_decide_eq_true hz, fun kp hkp => ?_⟩⟩
    obtain ⟨s2, ok2⟩ := ok1.alloc (o := .tup vs) hkp
    unfold getT at h4
    split at h4
    · rename_i kvs ks hx hk
      obtain ⟨q', hq, f2, g2, ws, h7, h8, h9⟩ := ok2.own i _ hx
      rw [hp] at hq
      cases hq
      cases hg : getG kvs ks with
      | none => rw [hg] at h4; cases h4
      | some d' =>
        rw [hg] at h4
        cases h4
        obtain ⟨v, hv1, hv2⟩ := Two.get (kvs := kvs) (ws := ws) ⟨h8, h9⟩ hg
        refine ⟨p, v, rfl, ?_, q v _ _ (s1.trans s2) ok2 hv2⟩
        rw [← hv1]
        exact DGet.t h7 (by rw [← keys_vs hk r1]; exact upd_same)
    · cases h4
  · rw [if_neg hz] at h4
    cases h4
theorem s_dput (i : Nat) {x : Str} {m : M D} {n : M (List D)} {pr : List Nat} {px p1 p2 : Pos} {x1 : Nat} (hu : X.A.units + 64 < cLine) (he : PE X e (rdV X.K m)) (ha : PA X es (rdA X.K n)) (hN : X.N[i]? = some x := by rfl) (hv : Vis X.env.scope x := by first | exact Or.inl rfl | exact Or.inr (Or.inl rfl) | exact Or.inr (Or.inr rfl)) (hd : (x == ("__debug__" : Str)) = false := by decide)
    (hcd : (x == ("__classdict__" : Str)) = false := by decide) (hs : swapsWith e (some (.Subscript (.Name x px) (.Tuple es x1 p1) p2)) pos.line X.env = pure false := by rfl) : PS X (.Assign [.Subscript (.Name x px) (.Tuple es x1 p1) p2] e pos) (rdS X.K pr (dputM i m n)) := ps_imp (ps_dput (by omega) (pe_var (i := i) hN hv hd hcd) (pe_tup ha) he hs) fun E σ H h => by
  obtain ⟨F, G, ρ, fl, ρ', ok, hm, w⟩ := h
  obtain ⟨d, ρ1, h1, h2⟩ := bnd_some hm
  obtain ⟨u, ρ2, h3, h4⟩ := bnd_some h2
  obtain ⟨rfl, b, hb⟩ := own_some h3
  obtain ⟨xs, ρ3, h5, h6⟩ := bnd_some h4
  refine ⟨F, G, ρ, d, ρ2, ok, h1, fun v F1 H1 s1 ok1 r1 => ?_⟩
  obtain ⟨p, hp, _, _, _⟩ := ok1.own i b hb
  by_cases hz : fitS xs.length = true
  · rw [if_pos hz] at h6
    refine ⟨.ref p, hp, F1, G, ρ2, xs, ρ3, ok1, h5, fun vs F2 H2 s2 ok2 r2 => ⟨by rw [r2.length]; exact of_decide_eq_true hz, fun kp hkp => ?_⟩⟩
    obtain ⟨s3, ok3⟩ := ok2.alloc (o := .tup vs) hkp
    unfold putT at h6
    split at h6
    · rename_i kvs ks hx hk
      split at h6
      · rename_i hl
        cases h6
        obtain ⟨q', hq, f2, g2, ws, h7, h8, h9⟩ := ok3.own i _ hx
        rw [hp] at hq
        cases hq
        have hlen : ws.length = kvs.length := by
          have := congrArg List.length h8
          rw [List.length_map, List.length_map] at this
          exact this
        have T := Two.put (kvs := kvs) (ws := ws) (k := ks) ⟨h8, h9⟩ (Rp.mono (s2.trans s3) _ _ r1)
        refine ⟨p, _, rfl, DPut.t h7 (by rw [← keys_vs hk r2]; exact upd_same) (by rw [hlen]; exact of_decide_eq_true hl), ?_⟩
        exact w σ _ _ (s1.trans (s2.trans s3)) (ok3.turn hx hp ⟨_, upd_same, T.1, T.2⟩) Pr.refl
      · cases h6
    · cases h6
  · rw [if_neg hz] at h6
    cases h6
theorem rng_rps {K : Kf} {F : Hp} (a n : Int) : Rps K F (rngL a (n - a).toNat) (rgV a n) := by
  unfold rgV rngL
  have : ∀ l : List Nat, Rps K F (l.map fun i => PyData.int (a + (i : Nat))) (l.map fun i => V.int (a + (i : Nat))) := by
    intro l
    induction l with
    | nil => rfl
    | cons x l ih => exact ⟨_, _, rfl, rfl, ih⟩
  exact this _
theorem n_listrng2 {m n : M D} {p2 pos2 : Pos} (hc : X.calm = true) (hg : Gl X "list") (hm : X.mg "list" = none) (hg2 : Gl X "range") (hm2 : X.mg "range" = none) (ha : PE X a (rdV X.K m)) (hb : PE X b (rdV X.K n))
    (na : starEach [a, b] X.env = (false, eval a X.env) :: starEach [b] X.env := by rfl) (nb : starEach [b] X.env = (false, eval b X.env) :: starEach [] X.env := by rfl) (hp : (backTo pos2 (starEach [b] X.env)).any (·.1) = false := by rfl)
    (nr : starEach [.Call (.Name "range" p2) [a, b] [] pos2] X.env = (false, eval (.Call (.Name "range" p2) [a, b] [] pos2) X.env) :: starEach [] X.env := by rfl) : PE X (.Call (.Name "list" p) [.Call (.Name "range" p2) [a, b] [] pos2] [] pos) (rdN X.K (listrng2M m n)) := by
  refine pe_imp (pe_listRg hc hg hm (prg_2 hg2 hm2 ha hb na nb hp) nr) fun σ H Q h => ?_
  obtain ⟨F, G, ρ, o, ρ', ok, hm, q⟩ := h
  obtain ⟨x, ρ1, h1, h2⟩ := bnd_some hm
  obtain ⟨y, ρ2, h3, h4⟩ := bnd_some h2
  split at h4
  · rename_i i j
    split at h4
    · rename_i hz
      cases h4
      rw [Bool.and_eq_true, Bool.and_eq_true, Bool.and_eq_true, Bool.and_eq_true] at hz
      refine ⟨F, G, ρ, _, ρ1, ok, h1, fun v F1 H1 s1 ok1 r1 => ⟨F1, G, ρ1, _, ρ', ok1, h3, fun w F2 H2 s2 ok2 r2 => ⟨i, j, r1, r2, ⟨of_decide_eq_true hz.1.1.1.1, of_decide_eq_true hz.1.1.1.2, of_decide_eq_true hz.1.1.2, of_decide_eq_true hz.1.2, of_decide_eq_true hz.2⟩, fun p hp => ?_⟩⟩⟩
      obtain ⟨ok3, n⟩ := ok2.fresh (o := .lst (rgV i j)) hp
      exact q p F2 _ (s1.trans s2) ok3 n ⟨_, upd_same, rng_rps i j⟩
    · cases h4
  · cases h4
theorem n_listrng1 {n : M D} {p2 pos2 : Pos} (hc : X.calm = true) (hg : Gl X "list") (hm : X.mg "list" = none) (hg2 : Gl X "range") (hm2 : X.mg "range" = none) (hb : PE X b (rdV X.K n))
    (nb : starEach [b] X.env = (false, eval b X.env) :: starEach [] X.env := by rfl)
    (nr : starEach [.Call (.Name "range" p2) [b] [] pos2] X.env = (false, eval (.Call (.Name "range" p2) [b] [] pos2) X.env) :: starEach [] X.env := by rfl) : PE X (.Call (.Name "list" p) [.Call (.Name "range" p2) [b] [] pos2] [] pos) (rdN X.K (listrng1M n)) := by
  refine pe_imp (pe_listRg hc hg hm (prg_1 hg2 hm2 hb nb) nr) fun σ H Q h => ?_
  obtain ⟨F, G, ρ, o, ρ', ok, hm, q⟩ := h
  have hm : listrng2M (cM (.int 0)) n ρ = some (o, ρ') := hm
  unfold listrng2M at hm
  obtain ⟨x, ρ1, h1, h2⟩ := bnd_some hm
  cases h1
  obtain ⟨y, ρ2, h3, h4⟩ := bnd_some h2
  split at h4
  · rename_i i j e1
    cases e1
    split at h4
    · rename_i hz
      cases h4
      rw [Bool.and_eq_true, Bool.and_eq_true, Bool.and_eq_true, Bool.and_eq_true] at hz
      refine ⟨F, G, ρ, _, ρ', ok, h3, fun w F2 H2 s2 ok2 r2 => ⟨j, r2, ⟨of_decide_eq_true hz.1.1.1.1, of_decide_eq_true hz.1.1.1.2, of_decide_eq_true hz.1.1.2, of_decide_eq_true hz.1.2, of_decide_eq_true hz.2⟩, fun p hp => ?_⟩⟩
      obtain ⟨ok3, n⟩ := ok2.fresh (o := .lst (rgV 0 j)) hp
      exact q p F2 _ s2 ok3 n ⟨_, upd_same, rng_rps 0 j⟩
    · cases h4
  · cases h4
end
/-! what they give -/
section
variable {ρ : Rho} {i : Nat}
theorem wp_newT {Q : Own → Rho → Prop} (h : Q (.dt []) ρ) : wp newTM ρ Q := ⟨_, ρ, rfl, h⟩
theorem wp_dget {m : M (List D)} {Q : D → Rho → Prop} (h : wp (ownM i) ρ fun _ ρ1 => wp m ρ1 fun xs ρ2 => ∃ kvs ks d, ρ2[i]? = some (.o (.dt kvs)) ∧ keysD xs = some ks ∧ fitS xs.length = true ∧ getG kvs ks = some d ∧ Q d ρ2) : wp (dgetM i m) ρ Q := by
  obtain ⟨u, ρ1, h1, xs, ρ2, h2, kvs, ks, d, e1, e2, e3, e4, q⟩ := h
  refine ⟨d, ρ2, (bnd_eq h1).trans ((bnd_eq h2).trans ?_), q⟩
  show (if fitS xs.length = true then getT i xs else fun _ => none) ρ2 = _
  rw [if_pos e3]
  unfold getT
  rw [e1, e2]
  show (getG kvs ks).map _ = _
  rw [e4]
  rfl
theorem wp_dput {m : M D} {n : M (List D)} {Q : Fl → Rho → Prop} (h : wp m ρ fun d ρ1 => wp (ownM i) ρ1 fun _ ρ2 => wp n ρ2 fun xs ρ3 => ∃ kvs ks, ρ3[i]? = some (.o (.dt kvs)) ∧ keysD xs = some ks ∧ fitS xs.length = true ∧ kvs.length < sizeLine ∧ Q .nx (ρ3.set i (.o (.dt (putG kvs ks d))))) : wp (dputM i m n) ρ Q := by
  obtain ⟨d, ρ1, h1, u, ρ2, h2, xs, ρ3, h3, kvs, ks, e1, e2, e3, e4, q⟩ := h
  refine ⟨_, _, (bnd_eq h1).trans ((bnd_eq h2).trans ((bnd_eq h3).trans ?_)), q⟩
  show (if fitS xs.length = true then putT i d xs else fun _ => none) ρ3 = _
  rw [if_pos e3]
  unfold putT
  rw [e1, e2]
  show (if decide (kvs.length < sizeLine) = true then _ else none) = _
  rw [if_pos (decide_eq_true e4)]
theorem wp_listrng2 {m n : M D} {Q : Own → Rho → Prop} (h : wp m ρ fun x ρ1 => wp n ρ1 fun y ρ2 => ∃ a b, x = .int a ∧ y = .int b ∧ (-(2 ^ 62) ≤ a ∧ a < 2 ^ 62 ∧ -(2 ^ 62) ≤ b ∧ b < 2 ^ 62 ∧ (b - a).toNat ≤ 2 ^ 24) ∧ Q (.lst (rngL a (b - a).toNat)) ρ2) : wp (listrng2M m n) ρ Q := by
  obtain ⟨x, ρ1, h1, y, ρ2, h2, a, b, rfl, rfl, ⟨e1, e2, e3, e4, e5⟩, q⟩ := h
  refine ⟨_, ρ2, (bnd_eq h1).trans ((bnd_eq h2).trans ?_), q⟩
  show (if decide (-(2 ^ 62) ≤ a) && decide (a < 2 ^ 62) && decide (-(2 ^ 62) ≤ b) && decide (b < 2 ^ 62) && decide ((b - a).toNat ≤ 2 ^ 24) then _ else none) = _
  rw [if_pos]
  rw [decide_eq_true e1, decide_eq_true e2, decide_eq_true e3, decide_eq_true e4, decide_eq_true e5]
  rfl
theorem wp_listrng1 {n : M D} {Q : Own → Rho → Prop} (h : wp n ρ fun y ρ2 => ∃ b, y = .int b ∧ (-(2 ^ 62) ≤ b ∧ b < 2 ^ 62 ∧ (b - 0).toNat ≤ 2 ^ 24) ∧ Q (.lst (rngL 0 (b - 0).toNat)) ρ2) : wp (listrng1M n) ρ Q := by
  refine wp_listrng2 (wp_c (wp_mono h ?_))
  rintro y ρ2 ⟨b, rfl, ⟨e3, e4, e5⟩, q⟩
  exact ⟨0, b, rfl, rfl, ⟨by decide, by decide, e3, e4, e5⟩, q⟩
end
end Fx
/-! Fx: texts -/
namespace Fx
open PySem PySem.Spec PyProof.Rows L2
def strsOf : List D → Option (List Str)
  | [] => some []
  | .str s :: ds => (strsOf ds).map fun ns => s :: ns
  | _ :: _ => none
theorem strsOf_eq : ∀ {ds : List D} {ns : List Str}, strsOf ds = some ns → ds = ns.map PyData.str
  | [], ns, h => by cases h; rfl
  | .str s :: ds, ns, h => by
    cases hr : strsOf ds with
    | none => simp [strsOf, hr] at h
    | some ms =>
      simp [strsOf, hr] at h
      subst h
      rw [strsOf_eq hr]
      rfl
  | .int _ :: _, _, h => by simp [strsOf] at h
  | .none :: _, _, h => by simp [strsOf] at h
  | .bool _ :: _, _, h => by simp [strsOf] at h
  | .list _ :: _, _, h => by simp [strsOf] at h
  | .tuple _ :: _, _, h => by simp [strsOf] at h
  | .dict _ :: _, _, h => by simp [strsOf] at h
theorem strsOf_map (ns : List Str) : strsOf (ns.map PyData.str) = some ns := by
  induction ns with
  | nil => rfl
  | cons n ns ih => show (strsOf (ns.map PyData.str)).map _ = _; rw [ih]; rfl
/-- a sign in a text; a text in a row of texts -/
def inB : D → D → Option Bool
  | .str s, .str z => match s.cps.toList with
    | [c] => some (decide (c ∈ z.cps.toList))
    | _ => none
  | .str s, .list ys => (strsOf ys).map fun zs => zs.any fun z => decide (z = s)
  | .str s, .tuple ys => (strsOf ys).map fun zs => zs.any fun z => decide (z = s)
  | _, _ => none
def inD (x y : D) : Option D := (inB x y).map PyData.bool
def notInD (x y : D) : Option D := (inB x y).map fun b => .bool (!b)
theorem inV_strs (s : Str) (zs : List Str) : inV (.str s) (zs.map V.str) = zs.any fun z => decide (z = s) := by
  unfold inV
  induction zs with
  | nil => rfl
  | cons z zs ih =>
    rw [List.map_cons, List.any_cons, List.any_cons, ih]
    congr 1
theorem flat_strs (zs : List Str) : (zs.map V.str).all flatV = true := by
  induction zs with
  | nil => rfl
  | cons z zs ih => rw [List.map_cons, List.all_cons, ih]; rfl
section
variable {K : Kf}
def rInS (K : Kf) (n : Bool) : R2 := fun x y H Q => (∃ (c : Nat) (z : Str), x = .str ⟨#[c]⟩ ∧ y = .str z ∧ Q (.bl (if n then !decide (c ∈ z.cps.toList) else decide (c ∈ z.cps.toList))) H) ∨ rIn K n x y H Q
theorem op_inS {X : Cx} : OpR X (compareOp .In) (rInS X.K false) := OpR.or op_in_sign op_in_seq
theorem op_ninS {X : Cx} : OpR X (compareOp .NotIn) (rInS X.K true) := OpR.or op_notIn_sign op_notIn_seq
theorem in_gen {F G H : Hp} {σ : L2.St} {ρ : Rho} {x y : D} {v w : V} {Q : VK} {b n : Bool} (ok : Ok K F G H σ ρ) (hx : Vw K F H v x) (hy : Vw K F H w y) (hf : inB x y = some b) (q : Q (.bl (if n then !b else b)) H) : rInS K n v w H Q := by
  unfold inB at hf
  split at hf
  · rename_i s z
    have e1 := hx.str
    have e2 := hy.str
    subst e1 e2
    split at hf
    · rename_i c hc
      cases hf
      refine .inl ⟨c, z, ?_, rfl, q⟩
      congr 1
      cases s with
      | mk a =>
        congr 1
        exact Array.toList_inj.mp hc
    · cases hf
  · rename_i s ys
    have e1 := hx.str
    subst e1
    obtain ⟨zs, hz, hb⟩ := Option.map_eq_some_iff.mp hf
    obtain ⟨p, vs, rfl, h1, h2⟩ := hy.list ok.sub
    rw [strsOf_eq hz] at h2
    rw [Rps.strs.mp h2] at h1
    refine .inr ⟨p, zs.map V.str, rfl, .inl (SqL.of h1), rfl, flat_strs zs, ?_⟩
    rw [inV_strs, hb]
    exact q
  · rename_i s ys
    have e1 := hx.str
    subst e1
    obtain ⟨zs, hz, hb⟩ := Option.map_eq_some_iff.mp hf
    obtain ⟨p, vs, rfl, h1, _, h2⟩ := hy.tuple ok.sub
    rw [strsOf_eq hz] at h2
    rw [Rps.strs.mp h2] at h1
    refine .inr ⟨p, zs.map V.str, rfl, .inr h1, rfl, flat_strs zs, ?_⟩
    rw [inV_strs, hb]
    exact q
  · cases hf
theorem opd_in : OpD K inD (rInS K false) := by
  intro F G H σ ρ x y d v w Q ok hx hy hf q
  obtain ⟨b, hb, rfl⟩ := Option.map_eq_some_iff.mp hf
  exact in_gen ok hx hy hb (q _ F H (Same.refl F) ok rfl)
theorem opd_nin : OpD K notInD (rInS K true) := by
  intro F G H σ ρ x y d v w Q ok hx hy hf q
  obtain ⟨b, hb, rfl⟩ := Option.map_eq_some_iff.mp hf
  exact in_gen ok hx hy hb (q _ F H (Same.refl F) ok rfl)
end
section
variable {X : Cx} {a b : Expr} {ma mb : M Rf} {pos : Pos}
theorem v_in (ha : PE X a (rdB X.K ma)) (hb : PE X b (rdB X.K mb)) (hm : behindInMarks .In b = false := by rfl) : PE X (.Compare a [.In] [b] pos) (rdV X.K (binM inD ma mb)) := v_cmp op_inS opd_in ha hb hm
theorem v_notin (ha : PE X a (rdB X.K ma)) (hb : PE X b (rdB X.K mb)) (hm : behindInMarks .NotIn b = false := by rfl) : PE X (.Compare a [.NotIn] [b] pos) (rdV X.K (binM notInD ma mb)) := v_cmp op_ninS opd_nin ha hb hm
theorem t_in (ha : PE X a (rdB X.K ma)) (hb : PE X b (rdB X.K mb)) (hm : behindInMarks .In b = false := by rfl) : PT X (.Compare a [.In] [b] pos) (rdT X.K (tstM (binM inD ma mb))) := t_cmp op_inS opd_in ha hb hm
theorem t_notin (ha : PE X a (rdB X.K ma)) (hb : PE X b (rdB X.K mb)) (hm : behindInMarks .NotIn b = false := by rfl) : PT X (.Compare a [.NotIn] [b] pos) (rdT X.K (tstM (binM notInD ma mb))) := t_cmp op_ninS opd_nin ha hb hm
def splitD : D → D → Option D
  | .str s, .str z => if (z.length == 0) = false ∧ s.length + 2 ≤ sizeLine then some (.list ((Txt.split s z).map PyData.str)) else none
  | _, _ => none
def joinD : D → D → Option D
  | .str s, .list ys => match strsOf ys with
    | some zs => if (zs.map (·.length)).sum + zs.length * s.length ≤ 16777216 then some (.str (Txt.join s zs)) else none
    | none => none
  | .str s, .tuple ys => match strsOf ys with
    | some zs => if (zs.map (·.length)).sum + zs.length * s.length ≤ 16777216 then some (.str (Txt.join s zs)) else none
    | none => none
  | _, _ => none
theorem look_str {ρ : Rho} {r : Rf} {s : Str} (h : look ρ r = some (.str s)) : r = .val (.str s) := by
  cases r with
  | val d => cases h; rfl
  | slot i =>
    have h : (match ρ[i]? with
      | some (.o (.lst xs)) => some (PyData.list xs)
      | _ => none) = some (PyData.str s) := h
    split at h <;> cases h
theorem v_split {apos : Pos} (ha : PE X a (rdB X.K ma)) (hb : PE X b (rdB X.K mb)) (hs : starEach [b] X.env = [(false, eval b X.env)] := by rfl) (hbase : attributeBase a "split" X.env (eval a X.env) = eval a X.env := by rfl) (hline : (apos.endLine == pos.line) = true := by rfl) :
    PE X (.Call (.Attribute a "split" apos) [b] [] pos) (rdV X.K (binM splitD ma mb)) := by
  refine pe_imp (pe_split ha hb hs hbase hline) fun σ H Q h => ?_
  obtain ⟨F, G, ρ, d, ρ', ok, hm, q⟩ := h
  obtain ⟨r, ρ1, s, x, y, h1, h2, e1, e2, e3⟩ := binM_some hm
  unfold splitD at e3
  split at e3
  · rename_i u z
    split at e3
    · rename_i hz
      cases e3
      have er := look_str e1
      have es := look_str e2
      subst er es
      refine ⟨F, G, ρ, _, ρ1, ok, h1, fun v F1 H1 s1 ok1 r1 => ⟨⟨u, r1⟩, F1, G, ρ1, _, ρ', ok1, h2, fun w F2 H2 s2 ok2 r2 => ⟨u, z, r1, ?_, hz.1, hz.2, fun p hp => ?_⟩⟩⟩
      · rw [show w = V.str z from r2]
      · obtain ⟨s3, ok3⟩ := ok2.alloc (o := .lst ((Txt.split u z).map V.str)) hp
        exact q _ _ _ ((s1.trans s2).trans s3) ok3 ⟨p, _, rfl, upd_same, Rps.strs.mpr rfl⟩
    · cases e3
  · cases e3
theorem v_join {apos : Pos} (ha : PE X a (rdB X.K ma)) (hb : PE X b (rdB X.K mb)) (hs : starEach [b] X.env = [(false, eval b X.env)] := by rfl) (hbase : attributeBase a "join" X.env (eval a X.env) = eval a X.env := by rfl) (hline : (apos.endLine == pos.line) = true := by rfl) :
    PE X (.Call (.Attribute a "join" apos) [b] [] pos) (rdV X.K (binM joinD ma mb)) := by
  refine pe_imp (pe_join ha hb hs hbase hline) fun σ H Q h => ?_
  obtain ⟨F, G, ρ, d, ρ', ok, hm, q⟩ := h
  obtain ⟨r, ρ1, s, x, y, h1, h2, e1, e2, e3⟩ := binM_some hm
  unfold joinD at e3
  split at e3
  · rename_i u ys
    split at e3
    · rename_i zs hz
      split at e3
      · rename_i hl
        cases e3
        have er := look_str e1
        subst er
        refine ⟨F, G, ρ, _, ρ1, ok, h1, fun v F1 H1 s1 ok1 r1 => ⟨⟨u, r1⟩, F1, G, ρ1, _, ρ', ok1, h2, fun w F2 H2 s2 ok2 r2 => ?_⟩⟩
        obtain ⟨p, vs, rfl, g1, g2⟩ := (look_ok ok2 r2 e2).list ok2.sub
        rw [strsOf_eq hz] at g2
        rw [Rps.strs.mp g2] at g1
        exact ⟨u, p, zs, r1, rfl, .inl (SqL.of g1), hl, q _ F2 H2 (s1.trans s2) ok2 rfl⟩
      · cases e3
    · cases e3
  · rename_i u ys
    split at e3
    · rename_i zs hz
      split at e3
      · rename_i hl
        cases e3
        have er := look_str e1
        subst er
        refine ⟨F, G, ρ, _, ρ1, ok, h1, fun v F1 H1 s1 ok1 r1 => ⟨⟨u, r1⟩, F1, G, ρ1, _, ρ', ok1, h2, fun w F2 H2 s2 ok2 r2 => ?_⟩⟩
        obtain ⟨p, vs, rfl, g1, _, g2⟩ := (look_ok ok2 r2 e2).tuple ok2.sub
        rw [strsOf_eq hz] at g2
        rw [Rps.strs.mp g2] at g1
        exact ⟨u, p, zs, r1, rfl, .inr g1, hl, q _ F2 H2 (s1.trans s2) ok2 rfl⟩
      · cases e3
    · cases e3
  · cases e3
end
end Fx
/-! Fx: texts as lists of signs -/
namespace Fx
open PySem PySem.Spec PyProof.Rows L2
def mk (l : List Nat) : Str := ⟨l.toArray⟩
theorem mk_tl (s : Str) : mk s.cps.toList = s := by
  cases s with
  | mk a => unfold mk; rw [Array.toArray_toList]
theorem tl_mk (l : List Nat) : (mk l).cps.toList = l := rfl
theorem mk_len (l : List Nat) : (mk l).length = l.length := by
  show l.toArray.size = _
  rw [List.size_toArray]
theorem mk_add (a b : List Nat) : mk a ++ mk b = mk (a ++ b) := by
  show (⟨a.toArray ++ b.toArray⟩ : Str) = ⟨(a ++ b).toArray⟩
  rw [List.append_toArray]
theorem mk_inj {a b : List Nat} (h : mk a = mk b) : a = b := by
  have := congrArg (fun s : Str => s.cps.toList) h
  exact this
def OkL (l : List Nat) : Prop := ∀ c ∈ l, c < 0x110000
theorem OkL.app {a b : List Nat} (ha : OkL a) (hb : OkL b) : OkL (a ++ b) := fun c hc => (List.mem_append.mp hc).elim (ha c) (hb c)
theorem OkL.sub {a b : List Nat} (h : OkL b) (hs : ∀ c ∈ a, c ∈ b) : OkL a := fun c hc => h c (hs c hc)
theorem OkL.nil : OkL [] := fun c hc => by cases hc
theorem mk_ok {l : List Nat} (h : OkL l) : PyData.strOk (mk l) = true := by
  unfold PyData.strOk mk
  rw [List.all_toArray, List.all_eq_true]
  intro c hc
  exact decide_eq_true (h c hc)
section
variable {a b l : List Nat} {K : D → Prop}
theorem fit_mk (h : l.length ≤ 16000000) : fitS (mk l).length = true := by rw [mk_len]; exact lenFit h
theorem bop_add_mk (hz : a.length + b.length ≤ 16000000) (h : K (.str (mk (a ++ b)))) : bop addD (some (.str (mk a))) (some (.str (mk b))) K := bop_add_ss (by rw [mk_len, mk_len]; show _ ≤ 2 ^ 24; omega) (by rw [mk_add]; exact h)
theorem uop_len_mk (hz : l.length ≤ 16000000) (h : K (.int l.length)) : uop lenD (some (.str (mk l))) K := uop_is (show (if fitS (mk l).length then some (PyData.int (mk l).length) else none) = _ by rw [if_pos (fit_mk hz), mk_len]) h
theorem bop_ix_mk {i c : Nat} (hz : l.length ≤ 16000000) (hc : l[i]? = some c) (h : K (.str (mk [c]))) : bop ixD (some (.str (mk l))) (some (.int (i : Nat))) K := bop_is (show (if fitS (mk l).length then (atI (mk l).cps.toList (i : Int)).map (fun c => PyData.str ⟨#[c]⟩) else none) = _ by
  rw [if_pos (fit_mk hz), tl_mk, atI_nat hc]
  rfl) h
theorem cutS_mid {i j : Nat} (h1 : i ≤ j) (h2 : j ≤ l.length) : cutS (mk l) (some (i : Int)) (some (j : Int)) = mk ((l.drop i).take (j - i)) := by
  unfold cutS
  rw [HT.sIx_nat, HT.sIx_nat, mk_len, Nat.min_eq_left h2, Nat.min_eq_left (Nat.le_trans h1 h2)]
  rfl
theorem uop_cut_mk {i j : Nat} (hz : l.length ≤ 16000000) (h1 : i ≤ j) (h2 : j ≤ l.length) (h : K (.str (mk ((l.drop i).take (j - i))))) : uop (fun x => slD x (some (i : Int)) (some (j : Int))) (some (.str (mk l))) K := uop_is (show (if fitS (mk l).length then some (PyData.str (cutS (mk l) (some (i : Int)) (some (j : Int)))) else none) = _ by
  rw [if_pos (fit_mk hz), cutS_mid h1 h2]) h
theorem signs_mk : signs (mk l) = l.map fun c => PyData.str (mk [c]) := rfl
theorem bop_in_mk {c : Nat} (h : K (.bool (decide (c ∈ l)))) : bop inD (some (.str (mk [c]))) (some (.str (mk l))) K := bop_is rfl h
theorem bop_ne_mk (ha : OkL a) (hb : OkL b) (h : K (.bool (!decide (a = b)))) : bop neD (some (.str (mk a))) (some (.str (mk b))) K := bop_ne_ss (mk_ok ha) (mk_ok hb) (by
  rw [show decide (mk a = mk b) = decide (a = b) from by
    by_cases e : a = b
    · rw [decide_eq_true e, decide_eq_true (congrArg mk e)]
    · rw [decide_eq_false e, decide_eq_false fun h => e (mk_inj h)]]
  exact h)
theorem items_mk {K : List D → Prop} (h : K (l.map fun c => PyData.str (mk [c]))) : uop itemsD (some (.str (mk l))) K := uop_is rfl h
end
/-- the parts of a split -/
theorem parts_of {S : List Nat} : ∀ (ps : List (List Nat)), (ps.map List.length).sum ≤ (TL.joinL S ps).length ∧ ∀ p ∈ ps, ∀ c ∈ p, c ∈ TL.joinL S ps
  | [] => ⟨Nat.le_refl _, fun p hp => by cases hp⟩
  | [p] => ⟨by simp [TL.joinL], fun q hq c hc => by rw [List.mem_singleton.mp hq] at hc; exact hc⟩
  | p :: q :: r => by
    obtain ⟨h1, h2⟩ := parts_of (S := S) (q :: r)
    have e : TL.joinL S (p :: q :: r) = p ++ (S ++ TL.joinL S (q :: r)) := rfl
    constructor
    · rw [e, List.map_cons, List.sum_cons, List.length_append, List.length_append]
      omega
    · intro x hx c hc
      rw [e]
      rcases List.mem_cons.mp hx with rfl | hx
      · exact List.mem_append_left _ hc
      · exact List.mem_append_right _ (List.mem_append_right _ (h2 x hx c hc))
theorem joinL_len {S : List Nat} : ∀ (ps : List (List Nat)), (TL.joinL S ps).length ≤ (ps.map List.length).sum + ps.length * S.length ∧ ∀ c ∈ TL.joinL S ps, c ∈ S ∨ ∃ p ∈ ps, c ∈ p
  | [] => ⟨by simp [TL.joinL], fun c hc => by cases hc⟩
  | [p] => ⟨by simp [TL.joinL], fun c hc => .inr ⟨p, List.mem_singleton.mpr rfl, hc⟩⟩
  | p :: q :: r => by
    obtain ⟨h1, h2⟩ := joinL_len (S := S) (q :: r)
    have e : TL.joinL S (p :: q :: r) = p ++ (S ++ TL.joinL S (q :: r)) := rfl
    constructor
    · rw [e, List.map_cons, List.sum_cons, List.length_append, List.length_append, List.length_cons, Nat.succ_mul]
      omega
    · intro c hc
      rw [e] at hc
      rcases List.mem_append.mp hc with hc | hc
      · exact .inr ⟨p, List.mem_cons_self, hc⟩
      rcases List.mem_append.mp hc with hc | hc
      · exact .inl hc
      rcases h2 c hc with h | ⟨x, hx, hc⟩
      · exact .inl h
      · exact .inr ⟨x, List.mem_cons_of_mem _ hx, hc⟩
theorem split_facts (l z : List Nat) (hz : z ≠ []) : ∃ ps : List (List Nat), Txt.split (mk l) (mk z) = ps.map mk ∧ ps.length ≤ l.length + 2 ∧ (ps.map List.length).sum ≤ l.length ∧ ∀ p ∈ ps, ∀ c ∈ p, c ∈ l := by
  refine ⟨(Txt.split (mk l) (mk z)).map TL.tl, ?_, ?_, ?_⟩
  · rw [List.map_map]
    conv => lhs; rw [← List.map_id (Txt.split (mk l) (mk z))]
    exact List.map_congr_left fun s _ => (mk_tl s).symm
  · rw [List.length_map]
    have := PyProof.Rows.split_le (mk l) (mk z)
    rw [mk_len] at this
    exact this
  · have e := PySem.StrLaws.join_split (mk l) (mk z)
    have e := congrArg TL.tl e
    rw [TL.tl_join] at e
    have h := parts_of (S := TL.tl (mk z)) ((Txt.split (mk l) (mk z)).map TL.tl)
    rw [e] at h
    exact h
theorem join_facts (s : List Nat) (ps : List (List Nat)) : ∃ r, Txt.join (mk s) (ps.map mk) = mk r ∧ r.length ≤ (ps.map List.length).sum + ps.length * s.length ∧ ∀ c ∈ r, c ∈ s ∨ ∃ p ∈ ps, c ∈ p := by
  refine ⟨TL.joinL s ps, ?_, joinL_len ps⟩
  rw [TL.join_eq]
  have := TL.tl_join (mk s) (ps.map mk)
  rw [List.map_map, show TL.tl ∘ mk = id from rfl, List.map_id] at this
  rw [← mk_tl (Str.join (mk s) (ps.map mk))]
  exact congrArg mk this
theorem uop_split_mk {l z : List Nat} {K : D → Prop} (hz : z ≠ []) (hl : l.length ≤ 16000000) (h : ∀ ps : List (List Nat), ps.length ≤ l.length + 2 → (ps.map List.length).sum ≤ l.length → (∀ p ∈ ps, ∀ c ∈ p, c ∈ l) → K (.list (ps.map fun p => PyData.str (mk p)))) : bop splitD (some (.str (mk l))) (some (.str (mk z))) K := by
  obtain ⟨ps, e, h1, h2, h3⟩ := split_facts l z hz
  refine bop_is (z := .list ((Txt.split (mk l) (mk z)).map PyData.str)) ?_ ?_
  · show (if ((mk z).length == 0) = false ∧ (mk l).length + 2 ≤ sizeLine then some (PyData.list ((Txt.split (mk l) (mk z)).map PyData.str)) else none) = _
    rw [if_pos]
    refine ⟨?_, by rw [mk_len]; show _ ≤ 2 ^ 24; omega⟩
    rw [mk_len]
    cases z with
    | nil => exact absurd rfl hz
    | cons c z => rfl
  · rw [e, List.map_map]
    exact h ps h1 h2 h3
theorem bop_join_mk {s : List Nat} {ps : List (List Nat)} {K : D → Prop} (hl : (ps.map List.length).sum + ps.length * s.length ≤ 16000000) (h : ∀ r : List Nat, r.length ≤ (ps.map List.length).sum + ps.length * s.length → (∀ c ∈ r, c ∈ s ∨ ∃ p ∈ ps, c ∈ p) → K (.str (mk r))) : bop joinD (some (.str (mk s))) (some (.list (ps.map fun p => PyData.str (mk p)))) K := by
  obtain ⟨r, e, h1, h2⟩ := join_facts s ps
  have em : (ps.map fun p => PyData.str (mk p)) = (ps.map mk).map PyData.str := by rw [List.map_map]; rfl
  rw [em]
  refine bop_is (z := .str (mk r)) ?_ (h r h1 h2)
  show (match strsOf ((ps.map mk).map PyData.str) with
    | some zs => if (zs.map fun z : Str => z.length).sum + zs.length * (mk s).length ≤ 16777216 then some (PyData.str (Txt.join (mk s) zs)) else none
    | none => none) = _
  rw [strsOf_map]
  show (if ((ps.map mk).map fun z : Str => z.length).sum + (ps.map mk).length * (mk s).length ≤ 16777216 then some (PyData.str (Txt.join (mk s) (ps.map mk))) else none) = _
  rw [List.map_map, show ((fun x : Str => x.length) ∘ mk) = (List.length : List Nat → Nat) from funext mk_len, List.length_map, mk_len, if_pos (by omega), e]
end Fx
/-! Fx: xs[::-1], text.index -/
namespace Fx
open PySem PySem.Spec PyProof.Rows L2
def revD : D → Option D
  | .list xs => some (.list xs.reverse)
  | _ => none
def indexD : D → D → Option D
  | .str a, .str b => match Builtin.Str.occurrences a b 0 a.length 1 with
    | i :: _ => some (.int (i : Nat))
    | [] => none
  | _, _ => none
section
variable {X : Cx} {a b e : Expr} {m ma mb : M Rf} {pos : Pos}
theorem v_rev {k : Nat} {p1 p2 p3 : Pos} (he : PE X e (rdB X.K m)) : PE X (.Subscript e (.Slice none none (some (.UnaryOp .USub (.Constant (.int 1) k p1) p2)) p3) pos) (rdV X.K (b1M revD m)) := by
  refine pe_imp (pe_revL he) fun σ H Q h => ?_
  obtain ⟨F, G, ρ, d, ρ', ok, hm, q⟩ := h
  obtain ⟨r, y, h1, h2, h3⟩ := b1_some hm
  refine ⟨F, G, ρ, r, ρ', ok, h1, fun v F1 H1 s1 ok1 r1 => ?_⟩
  unfold revD at h3
  split at h3
  · rename_i xs
    cases h3
    obtain ⟨p, vs, rfl, g1, g2⟩ := (look_ok ok1 r1 h2).list ok1.sub
    refine ⟨p, vs, rfl, SqL.of g1, fun q' hq => ?_⟩
    obtain ⟨s2, ok2⟩ := ok1.alloc (o := .lst vs.reverse) hq
    exact q _ _ _ (s1.trans s2) ok2 ⟨q', _, rfl, upd_same, Rps.mono s2 _ _ (Rps.reverse g2)⟩
  · cases h3
theorem v_index {apos : Pos} (ha : PE X a (rdB X.K ma)) (hb : PE X b (rdB X.K mb)) (hs : starEach [b] X.env = [(false, eval b X.env)] := by rfl) (hbase : attributeBase a "index" X.env (eval a X.env) = eval a X.env := by rfl) (hline : (apos.endLine == pos.line) = true := by rfl) :
    PE X (.Call (.Attribute a "index" apos) [b] [] pos) (rdV X.K (binM indexD ma mb)) := by
  refine pe_imp (pe_m1 F.slot_str_index F.type_str_index mt_sindex ha hb hs hbase hline) fun σ H Q h => ?_
  obtain ⟨F, G, ρ, d, ρ', ok, hm, q⟩ := h
  obtain ⟨r, ρ1, s, x, y, h1, h2, e1, e2, e3⟩ := binM_some hm
  unfold indexD at e3
  split at e3
  · rename_i u z
    split at e3
    · rename_i i rest hz
      cases e3
      have er := look_str e1
      have es := look_str e2
      subst er es
      refine ⟨F, G, ρ, _, ρ1, ok, h1, fun v F1 H1 s1 ok1 r1 => ⟨⟨u, r1⟩, F1, G, ρ1, _, ρ', ok1, h2, fun w F2 H2 s2 ok2 r2 => ⟨u, z, i, rest, r1, ?_, hz, ?_⟩⟩⟩
      · rw [show w = V.str z from r2]
      · exact q _ _ _ (s1.trans s2) ok2 rfl
    · cases e3
  · cases e3
end
end Fx
namespace K05
open PySem PySem.Spec PyProof.Rows L2 Fx
def k_FIGURES : D := (.str "0123456789")
def k_LETTERS : D := (.str "abcdefghijklmnopqrstuvwxyz")
def k_RESERVED : D := (.tuple [(.str "model"), (.str "streams"), (.str "resource"), (.str "store"), (.str "belt"), (.str "counter"), (.str "process"), (.str "plan"), (.str "for"), (.str "of"), (.str "length"), (.str "room"), (.str "at"), (.str "cycle"), (.str "hold"), (.str "mark"), (.str "add"), (.str "drop"), (.str "put"), (.str "take"), (.str "load"), (.str "unload"), (.str "interrupt"), (.str "stop"), (.str "end"), (.str "draw"), (.str "use"), (.str "rank"), (.str "patience"), (.str "else"), (.str "if"), (.str "free"), (.str "queue"), (.str "loop"), (.str "guard"), (.str "handle")])
/-- is_name (text, sign) -/
noncomputable def b_is_name : MS := seqM (iteM (orM (notM (chainM (fun i j => decide (i ≤ j)) (fun i j => decide (i ≤ j)) (cM (.int 1)) (b1M lenD (refM 0)) (cM (.int 8)))) (orM (tstM (binM inD (refM 0) (valM (cM k_RESERVED)))) (tstM (binM notInD (valM (binM ixD (refM 0) (valM (cM (.int 0))))) (valM (cM k_LETTERS)))))) (retM (cM (.bool false))) (skipM)) (retM (b1M allD (valM (frzM (lcM (itM (getM 0)) [1] (nameT 1) (ret true) (blM (orM (tstM (binM inD (refM 1) (valM (cM k_LETTERS)))) (tstM (binM inD (refM 1) (valM (cM k_FIGURES)))))))))))
noncomputable def m_is_name : Fn := defM 2 1 [] b_is_name
theorem u_is_name {a0 : Sl} {R : Sl → List Sl → Prop} (h : wp b_is_name [a0, .u] (defK [] 1 R)) : fw m_is_name [a0] R := fw_def rfl h
/-- _law_begin (script, cell) -/
noncomputable def b__law_begin : MS := retNM (lstM (consM (frzM (lcM (scrM 0) [1] (nameT 1) (ret true) (b1M intD (refM 1)))) (consM (cM (.int 0)) (consM (cM (.int 0)) (consM (cM (.int 7)) (nilM))))))
noncomputable def m__law_begin : Fn := defM 2 1 [0] b__law_begin
theorem u__law_begin {a0 : Sl} {R : Sl → List Sl → Prop} (h : wp b__law_begin [a0, .u] (defK [0] 1 R)) : fw m__law_begin [a0] R := fw_def rfl h
/-- _law_draw (d, many, found, size, cell) -/
noncomputable def b__law_draw : MS := seqM (iteM (tstM (binM gtD (valM (binM ixD (refM 0) (valM (cM (.int 2))))) (valM (cM (.int 0))))) (seqM (asgM (binM ixD (refM 0) (valM (cM (.int 2)))) (nameT 2)) (seqM (setItM 0 (binM fdivD (refM 2) (refM 1)) (cM (.int 2))) (retM (binM modD (valM (b1M intD (refM 2))) (refM 1))))) (skipM)) (seqM (asgM (cM (.int 0)) (nameT 3)) (seqM (iteM (tstM (binM ltD (valM (binM ixD (refM 0) (valM (cM (.int 1))))) (valM (b1M lenD (valM (binM ixD (refM 0) (valM (cM (.int 0))))))))) (seqM (asgM (binM ixD (valM (binM ixD (refM 0) (valM (cM (.int 0))))) (valM (binM ixD (refM 0) (valM (cM (.int 1)))))) (nameT 4)) (asgM (binM addD (valM (binM mulD (valM (cM (.int 2))) (valM (b1M absD (refM 4))))) (valM (b1M intD (valM (binM ltD (refM 4) (valM (cM (.int 0)))))))) (nameT 3))) (skipM)) (seqM (augItM 0 (fun i j => i + j) (cM (.int 1)) (cM (.int 1))) (seqM (iteM (tstM (binM geD (refM 3) (valM (binM mulD (valM (cM (.int 2))) (valM (binM powD (valM (cM (.int 10))) (valM (cM (.int 18))))))))) (seqM (asgM (binM modD (valM (b1M intD (valM (binM fdivD (refM 3) (valM (cM (.int 2))))))) (valM (binM shlD (valM (cM (.int 1))) (valM (cM (.int 6000)))))) (nameT 2)) (seqM (setItM 0 (binM fdivD (refM 2) (refM 1)) (cM (.int 2))) (retM (binM modD (valM (b1M intD (refM 2))) (refM 1))))) (skipM)) (seqM (setItM 0 (binM modD (valM (b1M intD (valM (binM addD (valM (binM addD (valM (binM addD (valM (binM mulD (valM (binM ixD (refM 0) (valM (cM (.int 3))))) (valM (cM (.int 48271))))) (valM (binM mulD (valM (binM modD (valM (b1M intD (refM 3))) (valM (cM (.int 2147483629))))) (valM (cM (.int 16807))))))) (valM (binM mulD (valM (binM ixD (refM 0) (valM (cM (.int 1))))) (valM (cM (.int 69621))))))) (valM (cM (.int 11))))))) (valM (cM (.int 2147483647)))) (cM (.int 3))) (retM (binM modD (valM (b1M intD (valM (binM fdivD (valM (binM ixD (refM 0) (valM (cM (.int 3))))) (valM (cM (.int 16))))))) (refM 1))))))))
noncomputable def m__law_draw : Fn := defM 5 2 [0] b__law_draw
theorem u__law_draw {a0 a1 : Sl} {R : Sl → List Sl → Prop} (h : wp b__law_draw [a0, a1, .u, .u, .u] (defK [0] 2 R)) : fw m__law_draw [a0, a1] R := fw_def rfl h
/-- _law_reserved (text) -/
noncomputable def b__law_reserved : MS := seqM (asgM (cM (.str "model streams resource store belt counter process plan for of length room at cycle hold mark add drop ")) (nameT 0)) (seqM (asgM (binM addD (refM 0) (valM (cM (.str "put take load unload interrupt stop end draw use rank patience else if free queue loop guard handle")))) (nameT 0)) (retM (binM splitD (refM 0) (valM (cM (.str " "))))))
noncomputable def m__law_reserved : Fn := defM 1 0 [] b__law_reserved
theorem u__law_reserved {R : Sl → List Sl → Prop} (h : wp b__law_reserved [.u] (defK [] 0 R)) : fw m__law_reserved [] R := fw_def rfl h
/-- _law_signs (text) -/
noncomputable def b__law_signs : MS := seqM (asgM (cM (.str " !\"#$&'()*+,-./0123456789:;<=>?@ABCDEFGHIJKLMNOPQRSTUVWXYZ[\\]^_`")) (nameT 0)) (retM (binM addD (refM 0) (valM (cM (.str "abcdefghijklmnopqrstuvwxyz{|}~\n")))))
noncomputable def m__law_signs : Fn := defM 1 0 [] b__law_signs
theorem u__law_signs {R : Sl → List Sl → Prop} (h : wp b__law_signs [.u] (defK [] 0 R)) : fw m__law_signs [] R := fw_def rfl h
/-- _law_pick (d, row) -/
noncomputable def b__law_pick : MS := retM (binM ixD (refM 1) (valM (valS (callM m__law_draw (consC (argM 0) (consC (valM (b1M lenD (refM 1))) (nilC)))))))
noncomputable def m__law_pick : Fn := defM 2 2 [0] b__law_pick
theorem u__law_pick {a0 a1 : Sl} {R : Sl → List Sl → Prop} (h : wp b__law_pick [a0, a1] (defK [0] 2 R)) : fw m__law_pick [a0, a1] R := fw_def rfl h
/-- _law_is_name (text, sign) -/
noncomputable def b__law_is_name : MS := seqM (iteM (orM (tstM (binM ltD (valM (b1M lenD (refM 0))) (valM (cM (.int 1))))) (orM (tstM (binM gtD (valM (b1M lenD (refM 0))) (valM (cM (.int 8))))) (orM (tstM (binM inD (refM 0) (valM (valS (callM m__law_reserved nilC))))) (tstM (binM notInD (valM (binM ixD (refM 0) (valM (cM (.int 0))))) (valM (cM (.str "abcdefghijklmnopqrstuvwxyz")))))))) (retM (cM (.bool false))) (skipM)) (retM (binM eqD (valM (b1M lenD (valM (frzM (lcM (itM (getM 0)) [1] (nameT 1) (tstM (binM notInD (refM 1) (valM (cM (.str "abcdefghijklmnopqrstuvwxyz0123456789"))))) (getM 1)))))) (valM (cM (.int 0)))))
noncomputable def m__law_is_name : Fn := defM 2 1 [] b__law_is_name
theorem u__law_is_name {a0 : Sl} {R : Sl → List Sl → Prop} (h : wp b__law_is_name [a0, .u] (defK [] 1 R)) : fw m__law_is_name [a0] R := fw_def rfl h
/-- _law_raw (d, size, text, signs, k) -/
noncomputable def b__law_raw : MS := seqM (asgM (cM (.str "")) (nameT 2)) (seqM (asgM (valS (callM m__law_signs nilC)) (nameT 3)) (seqM (forM (rng1M (consM (getM 1) (nilM))) (nameT 4) (asgM (binM addD (refM 2) (valM (valS (callM m__law_pick (consC (argM 0) (consC (valM (getM 3)) (nilC))))))) (nameT 2))) (retM (getM 2))))
noncomputable def m__law_raw : Fn := defM 5 2 [0] b__law_raw
theorem u__law_raw {a0 a1 : Sl} {R : Sl → List Sl → Prop} (h : wp b__law_raw [a0, a1, .u, .u, .u] (defK [0] 2 R)) : fw m__law_raw [a0, a1] R := fw_def rfl h
/-- _law_plain_word (d, size, text, k) -/
noncomputable def b__law_plain_word : MS := seqM (asgM (valS (callM m__law_pick (consC (argM 0) (consC (valM (cM (.str "abcdefghijklmnopqrstuvwxyz"))) (nilC))))) (nameT 2)) (seqM (forM (rng1M (consM (binM subD (refM 1) (valM (cM (.int 1)))) (nilM))) (nameT 3) (asgM (binM addD (refM 2) (valM (valS (callM m__law_pick (consC (argM 0) (consC (valM (cM (.str "abcdefghijklmnopqrstuvwxyz0123456789"))) (nilC))))))) (nameT 2))) (retM (getM 2)))
noncomputable def m__law_plain_word : Fn := defM 4 2 [0] b__law_plain_word
theorem u__law_plain_word {a0 a1 : Sl} {R : Sl → List Sl → Prop} (h : wp b__law_plain_word [a0, a1, .u, .u] (defK [0] 2 R)) : fw m__law_plain_word [a0, a1] R := fw_def rfl h
/-- _law_bent (d, text, at, way) -/
noncomputable def b__law_bent : MS := seqM (asgM (valS (callM m__law_draw (consC (argM 0) (consC (valM (b1M lenD (refM 1))) (nilC))))) (nameT 2)) (seqM (asgM (valS (callM m__law_draw (consC (argM 0) (consC (valM (cM (.int 3))) (nilC))))) (nameT 3)) (seqM (iteM (tstM (binM eqD (refM 3) (valM (cM (.int 0))))) (retM (binM addD (valM (slM slD (refM 1) (noM) (partM (getM 2)))) (valM (slM slD (refM 1) (partM (binM addD (refM 2) (valM (cM (.int 1))))) (noM))))) (skipM)) (seqM (iteM (tstM (binM eqD (refM 3) (valM (cM (.int 1))))) (retM (binM addD (valM (binM addD (valM (slM slD (refM 1) (noM) (partM (getM 2)))) (valM (valS (callM m__law_raw (consC (argM 0) (consC (valM (cM (.int 1))) (nilC)))))))) (valM (slM slD (refM 1) (partM (getM 2)) (noM))))) (skipM)) (retM (binM addD (valM (binM addD (valM (slM slD (refM 1) (noM) (partM (getM 2)))) (valM (valS (callM m__law_raw (consC (argM 0) (consC (valM (cM (.int 1))) (nilC)))))))) (valM (slM slD (refM 1) (partM (binM addD (refM 2) (valM (cM (.int 1))))) (noM))))))))
noncomputable def m__law_bent : Fn := defM 4 2 [0] b__law_bent
theorem u__law_bent {a0 a1 : Sl} {R : Sl → List Sl → Prop} (h : wp b__law_bent [a0, a1, .u, .u] (defK [0] 2 R)) : fw m__law_bent [a0, a1] R := fw_def rfl h
/-- _law_strings (d, found, name, word, capitals) -/
noncomputable def b__law_strings : MS := seqM (setNM 1 (lstM (consM (valS (callM m__law_raw (consC (argM 0) (consC (valM (valS (callM m__law_draw (consC (argM 0) (consC (valM (cM (.int 13))) (nilC)))))) (nilC))))) (consM (valS (callM m__law_plain_word (consC (argM 0) (consC (valM (binM addD (valM (cM (.int 1))) (valM (valS (callM m__law_draw (consC (argM 0) (consC (valM (cM (.int 11))) (nilC)))))))) (nilC))))) (nilM))))) (seqM (asgM (valS (callM m__law_plain_word (consC (argM 0) (consC (valM (binM addD (valM (cM (.int 1))) (valM (valS (callM m__law_draw (consC (argM 0) (consC (valM (cM (.int 8))) (nilC)))))))) (nilC))))) (nameT 2)) (seqM (setNM 1 (binM catO (refM 1) (valM (frzM (lstM (consM (getM 2) (consM (valS (callM m__law_bent (consC (argM 0) (consC (valM (getM 2)) (nilC))))) (nilM)))))))) (seqM (asgM (valS (callM m__law_plain_word (consC (argM 0) (consC (valM (binM addD (valM (cM (.int 7))) (valM (valS (callM m__law_draw (consC (argM 0) (consC (valM (cM (.int 3))) (nilC)))))))) (nilC))))) (nameT 2)) (seqM (setNM 1 (binM catO (refM 1) (valM (frzM (lstM (consM (getM 2) (consM (valS (callM m__law_bent (consC (argM 0) (consC (valM (getM 2)) (nilC))))) (consM (slM slD (refM 2) (noM) (partM (cM (.int 8)))) (nilM))))))))) (seqM (asgM (valS (callM m__law_pick (consC (argM 0) (consC (valM (valS (callM m__law_reserved nilC))) (nilC))))) (nameT 3)) (seqM (setNM 1 (binM catO (refM 1) (valM (frzM (lstM (consM (getM 3) (consM (slM slD (refM 3) (noM) (partM (unM negD (cM (.int 1))))) (consM (binM addD (refM 3) (valM (valS (callM m__law_raw (consC (argM 0) (consC (valM (cM (.int 1))) (nilC))))))) (consM (binM addD (valM (valS (callM m__law_raw (consC (argM 0) (consC (valM (cM (.int 1))) (nilC)))))) (refM 3)) (nilM)))))))))) (seqM (asgM (cM (.str "ABCDEFGHIJKLMNOPQRSTUVWXYZ")) (nameT 4)) (seqM (dropM (appM 1 (binM addD (valM (binM ixD (refM 4) (valM (binM indexD (valM (cM (.str "abcdefghijklmnopqrstuvwxyz"))) (valM (binM ixD (refM 3) (valM (cM (.int 0))))))))) (valM (slM slD (refM 3) (partM (cM (.int 1))) (noM)))))) (retM (binM addD (refM 1) (valM (valS (callM m__law_reserved nilC)))))))))))))
noncomputable def m__law_strings : Fn := defM 5 1 [0] b__law_strings
theorem u__law_strings {a0 : Sl} {R : Sl → List Sl → Prop} (h : wp b__law_strings [a0, .u, .u, .u, .u] (defK [0] 1 R)) : fw m__law_strings [a0] R := fw_def rfl h
/-- law (script, d, strings, text, told) -/
noncomputable def b_law : MS := seqM (setNM 1 (ownS (callM m__law_begin (consC (argM 0) (nilC))))) (seqM (asgM (valS (callM m__law_strings (consC (argM 1) (nilC)))) (nameT 2)) (seqM (forM (itM (binM addD (refM 2) (valM (b1M revD (refM 2))))) (nameT 3) (seqM (asgM (valS (callM m_is_name (consC (valM (getM 3)) (nilC)))) (nameT 4)) (iteM (orM (notM (truM (valM (blM (isiM "bool" (refM 4)))))) (tstM (binM neD (refM 4) (valM (valS (callM m__law_is_name (consC (valM (getM 3)) (nilC)))))))) (retM (cM (.bool false))) (skipM)))) (retM (cM (.bool true)))))
noncomputable def m_law : Fn := defM 5 1 [0] b_law
theorem u_law {a0 : Sl} {R : Sl → List Sl → Prop} (h : wp b_law [a0, .u, .u, .u, .u] (defK [0] 1 R)) : fw m_law [a0] R := fw_def rfl h
end K05
section
open PySem PySem.Spec PyProof.Rows L2 Fx
set_option maxHeartbeats 4000000
-- one step by the form of the mirror
local macro_rules | `(tactic| walk_at "fx1") => `(tactic| with_reducible first
  | refine wp_seq ?_ | refine wp_ite ?_ | refine wp_asgN ?_ | refine wp_rt ?_ | refine wp_val ?_ | refine wp_c ?_ | refine wp_bin ?_ | refine wp_tst ?_ | refine wp_valS ?_ | refine wp_call ?_
  | refine wp_consC ?_ | refine wp_nilC ?_ | refine wp_consA ?_ | refine wp_nilA ?_ | refine wp_tup ?_ | refine wp_lst ?_ | refine wp_frz ?_ | refine wp_b1 ?_ | refine wp_un ?_ | refine wp_par ?_ | refine wp_skip ?_
  | refine wp_setN ?_ | refine wp_rtN ?_ | refine wp_drop ?_ | refine wp_and ?_ | refine wp_or ?_ | refine wp_not ?_ | refine wp_bl ?_ | refine wp_tru ?_ | refine wp_isi ?_ | refine wp_chain ?_ | refine wp_sl ?_ | refine wp_no ?_ | refine wp_part ?_
  | refine wp_ownS ?_ | refine wp_asg ?_ | refine wp_setIt ?_ | refine wp_augIt ?_ | refine wp_forM ?_ | refine wp_lc ?_ | refine wp_it ?_ | refine wp_rng1 ?_ | refine wp_rng2 ?_ | refine wp_app ?_ | refine wp_popAt ?_ | refine wp_ret ?_ | refine wp_min2 ?_ | refine wp_max2 ?_ | refine wp_newT ?_ | refine wp_dget ?_ | refine wp_dput ?_ | refine wp_listrng2 ?_ | refine wp_listrng1 ?_
  | refine seqK_nx ?_ | refine seqK_rt ?_ | refine seqK_bk ?_ | refine seqK_ct ?_ | refine lopK_nx ?_ | refine lopK_ct ?_ | refine lopK_bk ?_ | refine lopK_rt ?_ | refine defK_v ?_ | refine defK_o ?_ | refine defK_nx ?_ | refine valK_v ?_ | refine valK_o ?_ | refine ownK_o ?_ | refine tstK_b ?_ | refine partK_i ?_ | refine frzK_l ?_)
-- a name: what its slot holds
local macro_rules | `(tactic| walk_at "fx2") => `(tactic| first
  | ((with_reducible show wp (getM _) _ _); first | refine wp_get rfl ?_ | refine wp_getO rfl ?_)
  | ((with_reducible show wp (refM _) _ _); first | refine wp_ref rfl ?_ | refine wp_refO rfl ?_)
  | ((with_reducible show wp (argM _) _ _); first | refine wp_arg rfl ?_ | refine wp_argO rfl ?_ | refine wp_argS rfl ?_)
  | ((with_reducible show wp (scrM _) _ _); refine wp_scr rfl ?_)
  | ((with_reducible show wp (ownM _) _ _); refine wp_own rfl ?_)
  | ((with_reducible show wp (ownLM _) _ _); refine wp_ownL rfl ?_)
  | ((with_reducible show wp (retOM _) _ _); refine wp_rtO rfl ?_)
  | ((with_reducible show wp (putL _ _ _) _ _); refine wp_putL rfl rfl ?_)
  | ((with_reducible show wp (augIt _ _ _ _) _ _); refine wp_augIt' rfl rfl ?_)
  | ((with_reducible show wp (augM _ _ _) _ _); refine wp_aug rfl ?_)
  | ((with_reducible show wp (pushL _ _) _ _); refine wp_push rfl (by first | walk_at "fit" | (dsimp only [List.length]; decide)) ?_))
local macro_rules | `(tactic| walk_at "fit") => `(tactic| first | assumption | decide | omega)
local macro_rules | `(tactic| walk_at "fitm") => `(tactic| first | assumption | exact mulFit_l (by decide) | exact mulFit_r (by decide))
local macro_rules | `(tactic| walk_at "sh") => `(tactic| first | assumption | rfl | decide)
-- an operation
local macro_rules | `(tactic| walk_at "fx3") => `(tactic| first
  | ((with_reducible show bop addD _ _ _); first | refine bop_add_ii ?_ | refine bop_add_tt (by first | walk_at "fit" | (dsimp only [List.length]; decide)) ?_ | refine bop_add_ll (by first | walk_at "fit" | (dsimp only [List.length]; decide)) ?_ | refine bop_add_ss (by walk_at "fit") ?_)
  | ((with_reducible show bop subD _ _ _); refine bop_sub ?_)
  | ((with_reducible show bop mulD _ _ _); refine bop_mul (by walk_at "fitm") ?_)
  | ((with_reducible show bop fdivD _ _ _); refine bop_fdiv (by walk_at "fit") ?_)
  | ((with_reducible show bop modD _ _ _); refine bop_mod (by walk_at "fit") ?_)
  | ((with_reducible show bop powD _ _ _); refine bop_pow (by walk_at "fit") ?_)
  | ((with_reducible show bop shlD _ _ _); refine bop_shl (by walk_at "fit") ?_)
  | ((with_reducible show bop (cmpD _) _ _ _); refine bop_cmp ?_)
  | ((with_reducible show bop eqD _ _ _); first | refine bop_eq_ii ?_ | refine bop_eq_ss (by walk_at "sh") (by walk_at "sh") ?_ | refine bop_eq (by walk_at "sh") (by walk_at "sh") ?_)
  | ((with_reducible show bop neD _ _ _); first | refine bop_ne_ii ?_ | refine bop_ne_ss (by walk_at "sh") (by walk_at "sh") ?_ | refine bop_ne (by walk_at "sh") (by walk_at "sh") ?_)
  | ((with_reducible show bop ixD _ _ _); first | refine bop_ixT rfl ?_ | refine bop_ixL rfl ?_ | refine bop_ixT (by assumption) ?_ | refine bop_ixL (by assumption) ?_)
  | ((with_reducible show bop isNoneD _ _ _); refine bop_isN rfl ?_)
  | ((with_reducible show bop notNoneD _ _ _); refine bop_notN rfl ?_)
  | ((with_reducible show uop negD _ _); refine uop_is rfl ?_)
  | ((with_reducible show uop lenD _ _); refine uop_is rfl ?_)
  | ((with_reducible show uop absD _ _); refine uop_abs ?_)
  | ((with_reducible show uop intD _ _); refine uop_is rfl ?_)
  | ((with_reducible show uop truD _ _); refine uop_is rfl ?_)
  | ((with_reducible show uop itemsD _ _); refine uop_is rfl ?_)
  | ((with_reducible show uop tupleD _ _); refine uop_is rfl ?_)
  | ((with_reducible show uop listO _ _); refine uop_is rfl ?_))
local macro_rules | `(tactic| walk_at "nd") => `(tactic| first | exact List.nodup_nil | exact List.nodup_singleton _ | decide | (dsimp only [slotsR]; decide))
local macro_rules | `(tactic| walk_at "fs") => `(tactic| first | rfl | (dsimp only [List.length]; decide) | walk_at "fit")
local macro_rules | `(tactic| walk_at "fx4") => `(tactic| first
  | ((with_reducible show callK _ _ _ _); refine callK_go rfl (by walk_at "nd") ?_)
  | (with_reducible refine ex_int ?_)
  | (with_reducible refine ex_int2 ?_)
  | ((with_reducible show ∃ n, [PyData.int _] = [PyData.int n] ∧ _); refine ex_rng1 (by omega) (by omega) ?_)
  | ((with_reducible show ∃ a n, [PyData.int _, PyData.int _] = [PyData.int a, PyData.int n] ∧ _); refine ex_rng2 (by omega) (by omega) (by omega) (by omega) ?_)
  | ((with_reducible show fitS _ = true ∧ _); refine ⟨by walk_at "fs", ?_⟩))
local macro_rules | `(tactic| walk_at "nf") => `(tactic| dsimp only [backR, List.set, wipeR])
local macro_rules | `(tactic| walk_at "fx") => `(tactic| first | walk_at "fx1" | walk_at "fx2" | walk_at "fx3" | walk_at "fx4")
local macro_rules | `(tactic| walk_at "fxs") => `(tactic| repeat walk_at "fx")
-- up to a test that has more behind it
local macro_rules | `(tactic| walk_at "fxj") => `(tactic| repeat ((fail_if_success (with_reducible show wp (seqM (iteM _ _ _) _) _ _)); walk_at "fx"))
-- the same, up to a while
local macro_rules | `(tactic| walk_at "fxw") => `(tactic| repeat ((fail_if_success (with_reducible show wp (seqM (iteM _ _ _) _) _ _)); (fail_if_success (with_reducible show wp (seqM (whileM _ _) _) _ _)); walk_at "fx"))
namespace K05
theorem begin_ok (ns : List Int) (hl : ns.length ≤ 63) (R : Sl → List Sl → Prop) (h : ∀ b, Dst b → R (.o b) [.s ns]) : fw m__law_begin [.s ns] R := by
  refine u__law_begin ?_
  unfold b__law_begin
  walk_at "fxs"
  walk_at "nf"
  refine wp_lcT (fun i acc ρ => ρ = [.s ns, .u] ∧ acc = (ns.take i).map PyData.int) ⟨rfl, rfl⟩ ?_ ?_
  · rintro i x acc ρ hx - ⟨rfl, rfl⟩
    rw [List.getElem?_map] at hx
    obtain ⟨n, hn, rfl⟩ := Option.map_eq_some_iff.mp hx
    refine ⟨_, rfl, ?_⟩
    walk_at "fxs"
    refine ⟨rfl, ?_⟩
    rw [List.take_add_one, hn, List.map_append]
    rfl
  · rintro acc ρ hacc ⟨rfl, rfl⟩
    refine ⟨?_, ?_⟩
    · rw [hacc, List.length_map]; exact decide_eq_true (by show ns.length ≤ 2 ^ 24; omega)
    · walk_at "fxs"
      refine h _ ⟨ns.take (ns.map PyData.int).length, 0, 0, 7, rfl, by decide, by decide, by decide⟩
theorem draw_ok (b : Own) (hb : Dst b) (n : Int) (h0 : 0 < n) (hn : n < 2 ^ 100) (R : Sl → List Sl → Prop) (h : ∀ r b', 0 ≤ r → r < n → Dst b' → R (.v (.int r)) [.o b', .u]) : fw m__law_draw [.o b, .v (.int n)] R := by
  obtain ⟨cells, i, f, s, rfl, hi, hf, hs⟩ := hb
  refine u__law_draw ?_
  unfold b__law_draw
  have dn : divFit n = true := Bd.div (k := 100) (by unfold Bd; omega) h0 (by decide)
  have p6 : (0 : Int) < 1 * 2 ^ (6000 : Int).toNat := by rw [Int.one_mul]; exact Int.pow_pos (by decide)
  have out : ∀ a : Int, 0 ≤ a % n ∧ a % n < n := fun a => ⟨Int.emod_nonneg _ (Int.ne_of_gt h0), Int.emod_lt_of_pos _ h0⟩
  walk_at "fxs"
  constructor
  · intro hc
    walk_at "fxs"
    exact h _ _ (out _).1 (out _).2 ⟨cells, i, f / n, s, rfl, hi, Int.ediv_nonneg hf (Int.le_of_lt h0), hs⟩
  · intro hc
    walk_at "fxj"
    refine wp_cut (fun ρ => ∃ (z : Int) (x : Sl), 0 ≤ z ∧ ρ = [.o (.lst [.list (cells.map .int), .int i, .int f, .int s]), .v (.int n), .u, .v (.int z), x]) ?_ ?_
    · walk_at "fxs"
      constructor
      · intro hlt
        have hlt : i < (cells.map PyData.int).length := of_decide_eq_true hlt
        rw [List.length_map] at hlt
        obtain ⟨j, rfl⟩ := Int.eq_ofNat_of_zero_le hi
        have hj : j < cells.length := by omega
        have hg : atI (cells.map PyData.int) (j : Int) = some (.int cells[j]) := atI_of (by rw [List.getElem?_map, List.getElem?_eq_getElem hj]; rfl)
        walk_at "fxs"
        refine ⟨_, _, ?_, rfl⟩
        split <;> omega
      · intro _
        walk_at "fxs"
        exact ⟨0, _, by decide, rfl⟩
    · rintro ρ ⟨z, x, hz, rfl⟩
      walk_at "fxs"
      constructor
      · intro _
        walk_at "fxs"
        exact h _ _ (out _).1 (out _).2 ⟨cells, _, _, s, rfl, by omega, Int.ediv_nonneg (Int.emod_nonneg _ (Int.ne_of_gt p6)) (Int.le_of_lt h0), hs⟩
      · intro _
        walk_at "fxs"
        exact h _ _ (out _).1 (out _).2 ⟨cells, _, f, _, rfl, by omega, hf, Int.emod_nonneg _ (by decide)⟩
theorem pick_ok (b : Own) (hb : Dst b) (xs : List D) (h0 : xs ≠ []) (hn : xs.length < 2 ^ 100) (R : Sl → List Sl → Prop) (h : ∀ x b', x ∈ xs → Dst b' → R (.v x) [.o b', .u]) : fw m__law_pick [.o b, .v (.list xs)] R := by
  refine u__law_pick ?_
  unfold b__law_pick
  walk_at "fxs"
  have h1 : 0 < xs.length := List.length_pos_iff.mpr h0
  refine draw_ok _ hb _ (by omega) (by omega) _ fun r b h1 h2 hb => ?_
  walk_at "nf"
  obtain ⟨j, rfl⟩ := Int.eq_ofNat_of_zero_le h1
  have hj : j < xs.length := by omega
  have hg : atI xs (j : Int) = some xs[j] := atI_of (List.getElem?_eq_getElem hj)
  walk_at "fxs"
  exact h _ _ (List.getElem_mem hj) hb
/-- rows of texts -/
def txD (ls : List (List Nat)) : List D := ls.map fun l => PyData.str (mk l)
theorem lit (s : Str) : PyData.str s = PyData.str (mk s.cps.toList) := by rw [mk_tl]
theorem pickS_ok (b : Own) (hb : Dst b) (l : List Nat) (h0 : l ≠ []) (hn : l.length ≤ 100000) (R : Sl → List Sl → Prop) (h : ∀ c b', c ∈ l → Dst b' → R (.v (.str (mk [c]))) [.o b', .u]) : fw m__law_pick [.o b, .v (.str (mk l))] R := by
  refine u__law_pick ?_
  unfold b__law_pick
  have h1 : 0 < l.length := List.length_pos_iff.mpr h0
  walk_at "fxs"
  refine uop_len_mk (by omega) ?_
  walk_at "fxs"
  refine draw_ok _ hb _ (by omega) (by omega) _ fun r b h1 h2 hb => ?_
  walk_at "nf"
  obtain ⟨j, rfl⟩ := Int.eq_ofNat_of_zero_le h1
  have hj : j < l.length := by omega
  walk_at "fxs"
  refine bop_ix_mk (by omega) (List.getElem?_eq_getElem hj) ?_
  walk_at "fxs"
  exact h _ _ (List.getElem_mem hj) hb
/-- all the signs of the law -/
def sgL : List Nat := ((Str.ofString " !\"#$&'()*+,-./0123456789:;<=>?@ABCDEFGHIJKLMNOPQRSTUVWXYZ[\\]^_`") ++ (Str.ofString "abcdefghijklmnopqrstuvwxyz{|}~\n")).cps.toList
theorem sg_ok : OkL sgL := by
  have : sgL.all (fun c => decide (c < 0x110000)) = true := by decide +kernel
  intro c hc
  exact of_decide_eq_true (List.all_eq_true.mp this c hc)
theorem sg_len : sgL.length ≤ 1000 ∧ sgL ≠ [] := by
  have a : decide (sgL.length ≤ 1000) = true := by decide +kernel
  have b : decide (0 < sgL.length) = true := by decide +kernel
  exact ⟨of_decide_eq_true a, List.length_pos_iff.mp (of_decide_eq_true b)⟩
theorem signs_ok (R : Sl → List Sl → Prop) (h : R (.v (.str (mk sgL))) []) : fw m__law_signs [] R := by
  refine u__law_signs ?_
  unfold b__law_signs
  walk_at "fxs"
  rw [lit]
  exact h
theorem one_ok {c : Nat} {l : List Nat} (h : OkL l) (hc : c ∈ l) : OkL [c] := fun d hd => by rw [List.mem_singleton.mp hd]; exact h c hc
theorem raw_ok (b : Own) (hb : Dst b) (n : Int) (n0 : 0 ≤ n) (n1 : n ≤ 1000) (R : Sl → List Sl → Prop) (h : ∀ (t : List Nat) b', t.length ≤ n.toNat → OkL t → Dst b' → R (.v (.str (mk t))) [.o b', .u]) : fw m__law_raw [.o b, .v (.int n)] R := by
  have e0 : (PyData.str (Str.ofString "")) = .str (mk []) := rfl
  refine u__law_raw ?_
  unfold b__law_raw
  rw [e0]
  walk_at "fxs"
  refine signs_ok _ ?_
  walk_at "nf"; walk_at "fxs"
  refine wp_forL (fun i ρ => ∃ (b : Own) (t : List Nat) (x : Sl), Dst b ∧ t.length ≤ i ∧ OkL t ∧ ρ = [.o b, .v (.int n), .v (.str (mk t)), .v (.str (mk sgL)), x]) ⟨b, [], _, hb, Nat.zero_le _, OkL.nil, rfl⟩ ?_ ?_
  · rintro i x ρ hx ⟨b, t, y, hb, ht, ho, rfl⟩
    obtain ⟨hi, rfl⟩ := rngL_get hx
    refine ⟨_, rfl, ?_⟩
    walk_at "fxs"
    have := sg_len.1
    refine pickS_ok _ hb sgL sg_len.2 (by omega) _ fun c b hc hb => ?_
    walk_at "nf"; walk_at "fxs"
    refine bop_add_mk (by rw [List.length_singleton]; omega) ?_
    walk_at "fxs"
    exact ⟨b, _, _, hb, by rw [List.length_append, List.length_singleton]; omega, ho.app (one_ok sg_ok hc), rfl⟩
  · rintro ρ ⟨b, t, x, hb, ht, ho, rfl⟩
    rw [rngL_len] at ht
    walk_at "fxs"
    exact h t b (by omega) ho hb
def loL : List Nat := (Str.ofString "abcdefghijklmnopqrstuvwxyz").cps.toList
def fiL : List Nat := (Str.ofString "0123456789").cps.toList
def signOk (c : Nat) : Bool := decide (c ∈ loL) || decide (c ∈ fiL)
theorem sign_eq (c : Nat) : decide (c ∈ (Str.ofString "abcdefghijklmnopqrstuvwxyz0123456789").cps.toList) = signOk c := by
  have e : (Str.ofString "abcdefghijklmnopqrstuvwxyz0123456789").cps.toList = loL ++ fiL := by decide +kernel
  unfold signOk
  rw [e]
  simp only [List.mem_append, Bool.decide_or]
def resT : Str := (Str.ofString "model streams resource store belt counter process plan for of length room at cycle hold mark add drop ") ++ (Str.ofString "put take load unload interrupt stop end draw use rank patience else if free queue loop guard handle")
def resL : List Str := (["model", "streams", "resource", "store", "belt", "counter", "process", "plan", "for", "of", "length", "room", "at", "cycle", "hold", "mark", "add", "drop", "put", "take", "load", "unload", "interrupt", "stop", "end", "draw", "use", "rank", "patience", "else", "if", "free", "queue", "loop", "guard", "handle"] : List String).map Str.ofString
theorem res_eq : Txt.split resT (Str.ofString " ") = resL := by decide +kernel
theorem res_k : k_RESERVED = .tuple (resL.map PyData.str) := rfl
theorem reserved_ok (R : Sl → List Sl → Prop) (h : R (.v (.list (resL.map PyData.str))) []) : fw m__law_reserved [] R := by
  rw [← res_eq] at h
  refine u__law_reserved ?_
  unfold b__law_reserved
  refine wp_seq (wp_asgN (wp_c ?_))
  refine wp_seq (wp_asgN (wp_bin (wp_ref rfl (wp_val (wp_c (bop_add_ss (by decide +kernel) ?_))))))
  refine wp_rt (wp_bin (wp_ref rfl (wp_val (wp_c ?_))))
  refine bop_is (z := .list ((Txt.split resT (Str.ofString " ")).map PyData.str)) ?_ (defK_v h)
  show (if ((Str.ofString " ").length == 0) = false ∧ resT.length + 2 ≤ sizeLine then some (PyData.list ((Txt.split resT (Str.ofString " ")).map PyData.str)) else none) = _
  rw [if_pos]
  exact ⟨by decide +kernel, by decide +kernel⟩
def isRes (l : List Nat) : Bool := resL.any fun z => decide (z = mk l)
def hdOk : List Nat → Bool
  | [] => false
  | c :: _ => decide (c ∈ loL)
def good (l : List Nat) : Bool := decide (1 ≤ l.length) && decide (l.length ≤ 8) && !isRes l && hdOk l && l.all signOk
theorem hd_of {l : List Nat} (h : 1 ≤ l.length) : ∃ c, l[0]? = some c ∧ hdOk l = decide (c ∈ loL) := by
  cases l with
  | nil => exact absurd h (by decide)
  | cons c l => exact ⟨c, rfl, rfl⟩
theorem all_snoc {l : List Nat} {i : Nat} {c : Nat} (h : l[i]? = some c) (p : Nat → Bool) : ((l.take (i + 1)).all p) = ((l.take i).all p && p c) := by
  rw [List.take_add_one, h, List.all_append]
  congr 1
  show (p c && true) = p c
  rw [Bool.and_true]
theorem boolsOf_map (bs : List Bool) : boolsOf (bs.map PyData.bool) = some bs := by
  induction bs with
  | nil => rfl
  | cons b bs ih =>
    show (boolsOf (bs.map PyData.bool)).map _ = _
    rw [ih]
    rfl
theorem uop_all {bs : List Bool} {K : D → Prop} (h : K (.bool (bs.all id))) : uop allD (some (.list (bs.map PyData.bool))) K := uop_is (show (boolsOf (bs.map PyData.bool)).map _ = _ by rw [boolsOf_map]; rfl) h
theorem bop_in_res {l : List Nat} {K : D → Prop} (h : K (.bool (isRes l))) : bop inD (some (.str (mk l))) (some (.list (resL.map PyData.str))) K := bop_is (show ((strsOf (resL.map PyData.str)).map fun zs => zs.any fun z => decide (z = mk l)).map PyData.bool = _ by rw [strsOf_map]; rfl) h
theorem bop_in_resT {l : List Nat} {K : D → Prop} (h : K (.bool (isRes l))) : bop inD (some (.str (mk l))) (some (.tuple (resL.map PyData.str))) K := bop_is (show ((strsOf (resL.map PyData.str)).map fun zs => zs.any fun z => decide (z = mk l)).map PyData.bool = _ by rw [strsOf_map]; rfl) h
theorem is_name_ok (l : List Nat) (hl : l.length ≤ 1000) (R : Sl → List Sl → Prop) (h : R (.v (.bool (good l))) [.u]) : fw m_is_name [.v (.str (mk l))] R := by
  have fls : good l = false → R (.v (.bool false)) [.u] := fun e => by rw [e] at h; exact h
  refine u_is_name ?_
  unfold b_is_name
  rw [res_k]
  unfold k_LETTERS k_FIGURES
  generalize hr : resL.map PyData.str = rs at *
  walk_at "fxs"
  refine uop_len_mk (by omega) ?_
  walk_at "fxs"
  constructor
  · intro e
    have l1 : 1 ≤ l.length := by have := of_decide_eq_true e; omega
    walk_at "fxs"
    constructor
    · intro e
      walk_at "fxs"
      refine ⟨fun _ => ?_, fun e => by cases e⟩
      walk_at "fxs"
      refine fls ?_
      unfold good
      rw [decide_eq_false (p := l.length ≤ 8) (fun q => by rw [decide_eq_true (by omega)] at e; cases e), Bool.and_false]
      rfl
    intro e
    have l8 : l.length ≤ 8 := by
      by_cases q : (l.length : Int) ≤ 8
      · omega
      · rw [decide_eq_false q] at e; cases e
    walk_at "fxs"
    subst hr
    refine bop_in_resT ?_
    walk_at "fxs"
    constructor
    · intro e
      walk_at "fxs"
      refine ⟨fun _ => ?_, fun e => by cases e⟩
      walk_at "fxs"
      exact fls (by unfold good; rw [e, Bool.not_true, Bool.and_false]; rfl)
    intro r0
    walk_at "fxs"
    obtain ⟨c, hc, hh⟩ := hd_of l1
    refine bop_ix_mk (i := 0) (by omega) hc ?_
    walk_at "fxs"
    refine bop_is (z := .bool (!decide (c ∈ loL))) rfl ?_
    walk_at "fxs"
    constructor
    · intro e
      walk_at "fxs"
      rw [← hh] at e
      exact fls (by
        have hf : hdOk l = false := by
          cases g : hdOk l with
          | false => rfl
          | true => rw [g] at e; cases e
        simp [good, hf])
    intro e
    rw [← hh] at e
    have h1 : hdOk l = true := by cases g : hdOk l; rw [g] at e; cases e; rfl
    have hg : good l = l.all signOk := by unfold good; rw [decide_eq_true l1, decide_eq_true l8, r0, h1]; rfl
    rw [hg] at h
    walk_at "fxs"
    walk_at "nf"
    rw [signs_mk]
    refine wp_lcT (fun i acc ρ => acc = ((l.take i).map signOk).map PyData.bool ∧ ρ = [.v (.str (mk l)), .u]) ⟨rfl, rfl⟩ ?_ ?_
    · rintro i x acc ρ hx - ⟨rfl, rfl⟩
      rw [List.getElem?_map] at hx
      obtain ⟨c, hc, rfl⟩ := Option.map_eq_some_iff.mp hx
      refine ⟨_, rfl, ?_⟩
      have fin : ((l.take i).map signOk).map PyData.bool ++ [.bool (signOk c)] = ((l.take (i + 1)).map signOk).map PyData.bool := by
        rw [List.map_map, List.map_map]
        exact take_snoc (f := PyData.bool ∘ signOk) hc
      walk_at "fxs"
      refine bop_is (z := .bool (decide (c ∈ loL))) rfl ?_
      walk_at "fxs"
      constructor
      · intro e
        rw [show signOk c = true by unfold signOk; rw [e]; rfl] at fin
        exact ⟨fin, rfl⟩
      · intro e
        walk_at "fxs"
        refine bop_is (z := .bool (decide (c ∈ fiL))) rfl ?_
        walk_at "fxs"
        rw [show signOk c = decide (c ∈ fiL) by unfold signOk; rw [e]; rfl] at fin
        exact ⟨fin, rfl⟩
    · rintro acc ρ hacc ⟨rfl, rfl⟩
      rw [show (l.map fun c => PyData.str (mk [c])).length = l.length from List.length_map _, List.take_length]
      refine ⟨lenFit (by rw [List.length_map, List.length_map]; omega), ?_⟩
      walk_at "fxs"
      refine uop_all ?_
      walk_at "fxs"
      rw [List.all_map]
      exact h
  · intro e
    walk_at "fxs"
    refine ⟨fun _ => ?_, fun e => by cases e⟩
    walk_at "fxs"
    refine ⟨fun _ => ?_, fun e => by cases e⟩
    walk_at "fxs"
    exact fls (by unfold good; rw [decide_eq_false (by have := of_decide_eq_false e; omega)]; rfl)
theorem law_name_ok (l : List Nat) (hl : l.length ≤ 1000) (R : Sl → List Sl → Prop) (h : R (.v (.bool (good l))) [.u]) : fw m__law_is_name [.v (.str (mk l))] R := by
  have fls : good l = false → R (.v (.bool false)) [.u] := fun e => by rw [e] at h; exact h
  refine u__law_is_name ?_
  unfold b__law_is_name
  walk_at "fxs"
  refine uop_len_mk (by omega) ?_
  walk_at "fxs"
  constructor
  · intro e
    walk_at "fxs"
    refine ⟨fun _ => ?_, fun e => (by cases e)⟩
    walk_at "fxs"
    exact fls (by unfold good; rw [decide_eq_false (by have := of_decide_eq_true e; omega)]; rfl)
  intro e
  have l1 : 1 ≤ l.length := by have := of_decide_eq_false e; omega
  walk_at "fxs"
  refine uop_len_mk (by omega) ?_
  walk_at "fxs"
  constructor
  · intro e
    walk_at "fxs"
    refine ⟨fun _ => ?_, fun e => (by cases e)⟩
    walk_at "fxs"
    exact fls (by unfold good; rw [decide_eq_false (p := l.length ≤ 8) (by have := of_decide_eq_true e; omega), Bool.and_false]; rfl)
  intro e
  have l8 : l.length ≤ 8 := by have := of_decide_eq_false e; omega
  walk_at "fxs"
  refine reserved_ok _ ?_
  generalize hr : resL.map PyData.str = rs at *
  walk_at "nf"; walk_at "fxs"
  subst hr
  refine bop_in_res ?_
  walk_at "fxs"
  constructor
  · intro e
    walk_at "fxs"
    refine ⟨fun _ => ?_, fun e => (by cases e)⟩
    walk_at "fxs"
    exact fls (by unfold good; rw [e, Bool.not_true, Bool.and_false]; rfl)
  intro e
  have r0 := e
  walk_at "fxs"
  obtain ⟨c, hc, hh⟩ := hd_of l1
  refine bop_ix_mk (i := 0) (by omega) hc ?_
  walk_at "fxs"
  refine bop_is (z := .bool (!decide (c ∈ loL))) rfl ?_
  walk_at "fxs"
  constructor
  · intro e
    walk_at "fxs"
    rw [← hh] at e
    exact fls (by
        have hf : hdOk l = false := by
          cases g : hdOk l with
          | false => rfl
          | true => rw [g] at e; cases e
        simp [good, hf])
  intro e
  rw [← hh] at e
  have h1 : hdOk l = true := by cases g : hdOk l; rw [g] at e; cases e; rfl
  have hg : good l = l.all signOk := by unfold good; rw [decide_eq_true l1, decide_eq_true l8, r0, h1]; rfl
  rw [hg] at h
  walk_at "fxs"
  walk_at "nf"
  rw [signs_mk]
  refine wp_lcL (fun i acc ρ => (acc = []) = ((l.take i).all signOk = true) ∧ acc.length ≤ i ∧ ρ = [.v (.str (mk l)), .u]) ⟨by simp, Nat.zero_le _, rfl⟩ ?_ ?_
  · rintro i x acc ρ hx ⟨hA, hn, rfl⟩
    rw [List.getElem?_map] at hx
    obtain ⟨c, hc, rfl⟩ := Option.map_eq_some_iff.mp hx
    have ha := all_snoc hc signOk
    refine ⟨_, rfl, ?_⟩
    walk_at "fxs"
    refine bop_is (z := .bool (!decide (c ∈ (Str.ofString "abcdefghijklmnopqrstuvwxyz0123456789").cps.toList))) rfl ?_
    rw [sign_eq]
    walk_at "fxs"
    constructor
    · intro e
      have e : signOk c = false := by cases g : signOk c; rfl; rw [g] at e; cases e
      walk_at "fxs"
      refine ⟨?_, by rw [List.length_append, List.length_singleton]; omega, rfl⟩
      rw [ha, e, Bool.and_false]
      simp
    · intro e
      have e : signOk c = true := by cases g : signOk c; rw [g] at e; cases e; rfl
      refine ⟨?_, by omega, rfl⟩
      rw [ha, e, Bool.and_true]
      exact hA
  · rintro acc ρ ⟨hA, hn, rfl⟩
    rw [List.length_map, List.take_length] at hA
    rw [List.length_map] at hn
    refine ⟨lenFit (by omega), ?_⟩
    walk_at "fxs"
    rw [show decide ((acc.length : Int) = 0) = l.all signOk by
      cases g : l.all signOk with
      | true =>
        rw [g] at hA
        have : acc = [] := by rw [hA]
        subst this
        rfl
      | false =>
        rw [g] at hA
        have : ¬ acc = [] := by rw [hA]; decide
        have := List.length_pos_iff.mpr this
        exact decide_eq_false (by omega)]
    exact h
/-- a text to be asked -/
def GT (x : D) : Prop := ∃ t, x = .str (mk t) ∧ OkL t ∧ t.length ≤ 100
theorem cutS_sub (l : List Nat) (lo hi : Option Int) : ∃ q, cutS (mk l) lo hi = mk q ∧ q.length ≤ l.length ∧ ∀ c ∈ q, c ∈ l := by
  refine ⟨_, rfl, ?_, fun c hc => List.mem_of_mem_drop (List.mem_of_mem_take hc)⟩
  rw [List.length_take, List.length_drop]
  show min _ (l.length - _) ≤ l.length
  omega
theorem uop_cut_any {l : List Nat} {lo hi : Option Int} {K : D → Prop} (hz : l.length ≤ 16000000) (h : ∀ q, q.length ≤ l.length → (∀ c ∈ q, c ∈ l) → K (.str (mk q))) : uop (fun x => slD x lo hi) (some (.str (mk l))) K := by
  obtain ⟨q, e, h1, h2⟩ := cutS_sub l lo hi
  exact uop_is (show (if fitS (mk l).length then some (PyData.str (cutS (mk l) lo hi)) else none) = _ by rw [if_pos (fit_mk hz), e]) (h q h1 h2)
theorem bop_cat {xs ys : List D} {K : Own → Prop} (hz : xs.length + ys.length ≤ 16000000) (h : K (.lst (xs ++ ys))) : bop catO (some (.list xs)) (some (.list ys)) K := bop_is (show (if fitS (xs.length + ys.length) then some (Own.lst (xs ++ ys)) else none) = _ from if_pos (decide_eq_true (by show _ ≤ 2 ^ 24; omega))) h
def lfL : List Nat := (Str.ofString "abcdefghijklmnopqrstuvwxyz0123456789").cps.toList
theorem lo_ok : OkL loL ∧ loL ≠ [] ∧ loL.length ≤ 100 := by
  have a : loL.all (fun c => decide (c < 0x110000)) = true := by decide +kernel
  have b : decide (0 < loL.length) = true := by decide +kernel
  have c : decide (loL.length ≤ 100) = true := by decide +kernel
  exact ⟨fun d hd => of_decide_eq_true (List.all_eq_true.mp a d hd), List.length_pos_iff.mp (of_decide_eq_true b), of_decide_eq_true c⟩
theorem lf_ok : OkL lfL ∧ lfL ≠ [] ∧ lfL.length ≤ 100 := by
  have a : lfL.all (fun c => decide (c < 0x110000)) = true := by decide +kernel
  have b : decide (0 < lfL.length) = true := by decide +kernel
  have c : decide (lfL.length ≤ 100) = true := by decide +kernel
  exact ⟨fun d hd => of_decide_eq_true (List.all_eq_true.mp a d hd), List.length_pos_iff.mp (of_decide_eq_true b), of_decide_eq_true c⟩
theorem plain_ok (b : Own) (hb : Dst b) (n : Int) (n0 : 1 ≤ n) (n1 : n ≤ 20) (R : Sl → List Sl → Prop) (h : ∀ (t : List Nat) b', 1 ≤ t.length → t.length ≤ 20 → OkL t → Dst b' → R (.v (.str (mk t))) [.o b', .u]) : fw m__law_plain_word [.o b, .v (.int n)] R := by
  have e1 : (PyData.str (Str.ofString "abcdefghijklmnopqrstuvwxyz")) = .str (mk loL) := lit _
  have e2 : (PyData.str (Str.ofString "abcdefghijklmnopqrstuvwxyz0123456789")) = .str (mk lfL) := lit _
  have l2 := lo_ok.2.2
  have l3 := lf_ok.2.2
  refine u__law_plain_word ?_
  unfold b__law_plain_word
  rw [e1, e2]
  walk_at "fxs"
  refine pickS_ok _ hb loL lo_ok.2.1 (by omega) _ fun c b hc hb => ?_
  walk_at "nf"; walk_at "fxs"
  refine wp_forL (fun i ρ => ∃ (b : Own) (t : List Nat) (x : Sl), Dst b ∧ 1 ≤ t.length ∧ t.length ≤ i + 1 ∧ OkL t ∧ ρ = [.o b, .v (.int n), .v (.str (mk t)), x]) ⟨b, [c], _, hb, Nat.le_refl _, Nat.le_refl _, one_ok lo_ok.1 hc, rfl⟩ ?_ ?_
  · rintro i x ρ hx ⟨b, t, y, hb, h1, ht, ho, rfl⟩
    obtain ⟨hi, rfl⟩ := rngL_get hx
    refine ⟨_, rfl, ?_⟩
    walk_at "fxs"
    refine pickS_ok _ hb lfL lf_ok.2.1 (by omega) _ fun c b hc hb => ?_
    walk_at "nf"; walk_at "fxs"
    refine bop_add_mk (by rw [List.length_singleton]; omega) ?_
    walk_at "fxs"
    exact ⟨b, _, _, hb, by rw [List.length_append]; omega, by rw [List.length_append, List.length_singleton]; omega, ho.app (one_ok lf_ok.1 hc), rfl⟩
  · rintro ρ ⟨b, t, x, hb, h1, ht, ho, rfl⟩
    rw [rngL_len] at ht
    walk_at "fxs"
    exact h t b h1 (by omega) ho hb
theorem bent_ok (b : Own) (hb : Dst b) (t : List Nat) (t0 : 1 ≤ t.length) (t1 : t.length ≤ 30) (ho : OkL t) (R : Sl → List Sl → Prop) (h : ∀ x b', GT x → Dst b' → R (.v x) [.o b', .u]) : fw m__law_bent [.o b, .v (.str (mk t))] R := by
  refine u__law_bent ?_
  unfold b__law_bent
  walk_at "fxs"
  refine uop_len_mk (by omega) ?_
  walk_at "fxs"
  refine draw_ok _ hb _ (by omega) (by omega) _ fun at' b _ _ hb => ?_
  walk_at "nf"; walk_at "fxs"
  refine draw_ok _ hb _ (by omega) (by omega) _ fun way b _ _ hb => ?_
  walk_at "nf"; walk_at "fxs"
  have sub : ∀ q : List Nat, (∀ c ∈ q, c ∈ t) → OkL q := fun q hq => ho.sub hq
  constructor
  · intro _
    walk_at "fxs"
    refine uop_cut_any (by omega) fun q q1 q2 => ?_
    walk_at "fxs"
    refine uop_cut_any (by omega) fun r r1 r2 => ?_
    walk_at "fxs"
    refine bop_add_mk (by omega) ?_
    walk_at "fxs"
    exact h _ b ⟨_, rfl, (sub q q2).app (sub r r2), by rw [List.length_append]; omega⟩ hb
  intro _
  walk_at "fxs"
  constructor
  · intro _
    walk_at "fxs"
    refine uop_cut_any (by omega) fun q q1 q2 => ?_
    walk_at "fxs"
    refine raw_ok _ hb 1 (by decide) (by decide) _ fun w b w1 w2 hb => ?_
    have w1 : w.length ≤ 1 := w1
    walk_at "nf"; walk_at "fxs"
    refine bop_add_mk (by omega) ?_
    walk_at "fxs"
    refine uop_cut_any (by omega) fun r r1 r2 => ?_
    walk_at "fxs"
    refine bop_add_mk (by rw [List.length_append]; omega) ?_
    walk_at "fxs"
    exact h _ b ⟨_, rfl, ((sub q q2).app w2).app (sub r r2), by rw [List.length_append, List.length_append]; omega⟩ hb
  intro _
  walk_at "fxs"
  refine uop_cut_any (by omega) fun q q1 q2 => ?_
  walk_at "fxs"
  refine raw_ok _ hb 1 (by decide) (by decide) _ fun w b w1 w2 hb => ?_
  have w1 : w.length ≤ 1 := w1
  walk_at "nf"; walk_at "fxs"
  refine bop_add_mk (by omega) ?_
  walk_at "fxs"
  refine uop_cut_any (by omega) fun r r1 r2 => ?_
  walk_at "fxs"
  refine bop_add_mk (by rw [List.length_append]; omega) ?_
  walk_at "fxs"
  exact h _ b ⟨_, rfl, ((sub q q2).app w2).app (sub r r2), by rw [List.length_append, List.length_append]; omega⟩ hb
theorem occ_lo : (loL.all fun c => match Builtin.Str.occurrences (Str.ofString "abcdefghijklmnopqrstuvwxyz") (mk [c]) 0 (Str.ofString "abcdefghijklmnopqrstuvwxyz").length 1 with | i :: _ => decide (i < 26) | [] => false) = true := by decide +kernel
def caL : List Nat := (Str.ofString "ABCDEFGHIJKLMNOPQRSTUVWXYZ").cps.toList
theorem ca_ok : OkL caL ∧ caL.length = 26 := by
  have a : caL.all (fun c => decide (c < 0x110000)) = true := by decide +kernel
  have b : decide (caL.length = 26) = true := by decide +kernel
  exact ⟨fun d hd => of_decide_eq_true (List.all_eq_true.mp a d hd), of_decide_eq_true b⟩
theorem bop_idx {c : Nat} (hc : c ∈ loL) {K : D → Prop} (h : ∀ i : Nat, i < 26 → K (.int i)) : bop indexD (some (.str (Str.ofString "abcdefghijklmnopqrstuvwxyz"))) (some (.str (mk [c]))) K := by
  have := List.all_eq_true.mp occ_lo c hc
  cases e : Builtin.Str.occurrences (Str.ofString "abcdefghijklmnopqrstuvwxyz") (mk [c]) 0 (Str.ofString "abcdefghijklmnopqrstuvwxyz").length 1 with
  | nil => rw [e] at this; cases this
  | cons i r =>
    rw [e] at this
    refine bop_is (z := .int (i : Nat)) ?_ (h i (of_decide_eq_true this))
    show (match Builtin.Str.occurrences (Str.ofString "abcdefghijklmnopqrstuvwxyz") (mk [c]) 0 (Str.ofString "abcdefghijklmnopqrstuvwxyz").length 1 with
      | i :: _ => some (PyData.int (i : Nat))
      | [] => none) = _
    rw [e]
theorem res_p : (resL.all fun s => decide (2 ≤ s.length) && decide (s.length ≤ 9) && s.cps.toList.all (fun c => decide (c < 0x110000)) && (match s.cps.toList with | c :: _ => decide (c ∈ loL) | [] => false)) = true := by decide +kernel
theorem res_f {s : Str} (h : s ∈ resL) : ∃ l, s = mk l ∧ 2 ≤ l.length ∧ l.length ≤ 9 ∧ OkL l ∧ ∃ c, l[0]? = some c ∧ c ∈ loL := by
  have := List.all_eq_true.mp res_p s h
  rw [Bool.and_eq_true, Bool.and_eq_true, Bool.and_eq_true] at this
  obtain ⟨⟨⟨a, b⟩, c⟩, d⟩ := this
  have e : s.length = s.cps.toList.length := by show s.cps.size = _; rw [Array.length_toList]
  refine ⟨s.cps.toList, (mk_tl s).symm, by rw [← e]; exact of_decide_eq_true a, by rw [← e]; exact of_decide_eq_true b, fun z hz => of_decide_eq_true (List.all_eq_true.mp c z hz), ?_⟩
  cases q : s.cps.toList with
  | nil => rw [q] at d; cases d
  | cons x r => rw [q] at d; exact ⟨x, rfl, of_decide_eq_true d⟩
theorem res_len : resL.length ≤ 100 := by decide
theorem res_gt : ∀ x ∈ resL.map PyData.str, GT x := by
  intro x hx
  obtain ⟨s, hs, rfl⟩ := List.mem_map.mp hx
  obtain ⟨l, rfl, h1, h2, h3, _⟩ := res_f hs
  exact ⟨l, rfl, h3, by omega⟩
theorem strings_ok (b : Own) (hb : Dst b) (R : Sl → List Sl → Prop) (h : ∀ (xs : List D) b', xs.length ≤ 1000 → (∀ x ∈ xs, GT x) → Dst b' → R (.v (.list xs)) [.o b']) : fw m__law_strings [.o b] R := by
  have e1 : (PyData.str (Str.ofString "ABCDEFGHIJKLMNOPQRSTUVWXYZ")) = .str (mk caL) := lit _
  have rl := res_len
  refine u__law_strings ?_
  unfold b__law_strings
  rw [e1]
  walk_at "fxs"
  refine draw_ok _ hb _ (by decide) (by decide) _ fun n b n0 n1 hb => ?_
  walk_at "nf"; walk_at "fxs"
  refine raw_ok _ hb n n0 (by omega) _ fun s1 b k1 o1 hb => ?_
  walk_at "nf"; walk_at "fxs"
  refine draw_ok _ hb _ (by decide) (by decide) _ fun m b m0 m1 hb => ?_
  walk_at "nf"; walk_at "fxs"
  refine plain_ok _ hb (1 + m) (by omega) (by omega) _ fun s2 b _ k2 o2 hb => ?_
  walk_at "nf"; walk_at "fxs"
  refine draw_ok _ hb _ (by decide) (by decide) _ fun m b m0 m1 hb => ?_
  walk_at "nf"; walk_at "fxs"
  refine plain_ok _ hb (1 + m) (by omega) (by omega) _ fun s3 b j3 k3 o3 hb => ?_
  walk_at "nf"; walk_at "fxs"
  refine bent_ok _ hb s3 j3 (by omega) o3 _ fun x4 b g4 hb => ?_
  walk_at "nf"; walk_at "fxs"
  refine bop_cat (by show 2 + 2 ≤ 16000000; decide) ?_
  walk_at "fxs"
  refine draw_ok _ hb _ (by decide) (by decide) _ fun m b m0 m1 hb => ?_
  walk_at "nf"; walk_at "fxs"
  refine plain_ok _ hb (7 + m) (by omega) (by omega) _ fun s5 b j5 k5 o5 hb => ?_
  walk_at "nf"; walk_at "fxs"
  refine bent_ok _ hb s5 j5 (by omega) o5 _ fun x6 b g6 hb => ?_
  walk_at "nf"; walk_at "fxs"
  refine uop_cut_any (by omega) fun s7 k7 o7 => ?_
  walk_at "fxs"
  refine bop_cat (by show 4 + 3 ≤ 16000000; decide) ?_
  walk_at "fxs"
  refine reserved_ok _ ?_
  generalize hr : resL.map PyData.str = rs at *
  walk_at "nf"; walk_at "fxs"
  subst hr
  refine pick_ok _ hb _ (by intro e; cases e) (by rw [List.length_map]; omega) _ fun x b hx hb => ?_
  obtain ⟨s, hs, rfl⟩ := List.mem_map.mp hx
  obtain ⟨w, rfl, w1, w2, ow, c, hc, hcl⟩ := res_f hs
  generalize hr : resL.map PyData.str = rs at *
  walk_at "nf"; walk_at "fxs"
  refine uop_cut_any (by omega) fun s8 k8 o8 => ?_
  walk_at "fxs"
  refine raw_ok _ hb 1 (by decide) (by decide) _ fun v b v1 v2 hb => ?_
  have v1 : v.length ≤ 1 := v1
  walk_at "nf"; walk_at "fxs"
  refine bop_add_mk (by omega) ?_
  walk_at "fxs"
  refine raw_ok _ hb 1 (by decide) (by decide) _ fun u b u1 u2 hb => ?_
  have u1 : u.length ≤ 1 := u1
  walk_at "nf"; walk_at "fxs"
  refine bop_add_mk (by omega) ?_
  walk_at "fxs"
  refine bop_cat (by show 7 + 4 ≤ 16000000; decide) ?_
  walk_at "fxs"
  refine bop_ix_mk (i := 0) (by omega) hc ?_
  walk_at "fxs"
  refine bop_idx hcl fun i hi => ?_
  walk_at "fxs"
  have hca : i < caL.length := by rw [ca_ok.2]; exact hi
  refine bop_ix_mk (by rw [ca_ok.2]; decide) (List.getElem?_eq_getElem hca) ?_
  walk_at "fxs"
  refine uop_cut_any (by omega) fun s9 k9 o9 => ?_
  walk_at "fxs"
  refine bop_add_mk (by rw [List.length_singleton]; omega) ?_
  walk_at "fxs"
  refine wp_push rfl (by show 11 < 2 ^ 24; decide) ?_
  walk_at "fxs"
  refine reserved_ok _ ?_
  rw [hr]
  walk_at "nf"; walk_at "fxs"
  have hrl : rs.length ≤ 100 := by rw [← hr, List.length_map]; exact rl
  refine bop_add_ll (by show 12 + rs.length ≤ 2 ^ 24; omega) ?_
  walk_at "fxs"
  have hc1 : OkL [caL[i]] := one_ok ca_ok.1 (List.getElem_mem hca)
  have base : ∀ x ∈ ([.str (mk s1), .str (mk s2), .str (mk s3), x4, .str (mk s5), x6, .str (mk s7), .str (mk w), .str (mk s8), .str (mk (w ++ v)), .str (mk (u ++ w)), .str (mk ([caL[i]] ++ s9))] : List D), GT x := by
    intro x hx
    simp only [List.mem_cons, List.not_mem_nil, or_false] at hx
    rcases hx with rfl | rfl | rfl | rfl | rfl | rfl | rfl | rfl | rfl | rfl | rfl | rfl
    · exact ⟨_, rfl, o1, by omega⟩
    · exact ⟨_, rfl, o2, by omega⟩
    · exact ⟨_, rfl, o3, by omega⟩
    · exact g4
    · exact ⟨_, rfl, o5, by omega⟩
    · exact g6
    · exact ⟨_, rfl, o5.sub o7, by omega⟩
    · exact ⟨_, rfl, ow, by omega⟩
    · exact ⟨_, rfl, ow.sub o8, by omega⟩
    · exact ⟨_, rfl, ow.app v2, by rw [List.length_append]; omega⟩
    · exact ⟨_, rfl, u2.app ow, by rw [List.length_append]; omega⟩
    · exact ⟨_, rfl, hc1.app (ow.sub o9), by rw [List.length_append, List.length_singleton]; omega⟩
  refine h _ b (by rw [List.length_append]; show 12 + rs.length ≤ 1000; omega) ?_ hb
  intro x hx
  rcases List.mem_append.mp hx with hx | hx
  · exact base x hx
  · rw [← hr] at hx; exact res_gt x hx
theorem law_true (ns : List Int) (hl : ns.length ≤ 63) : ∃ as, m_law [.s ns] = some (.v (.bool true), as) := by
  suffices h : fw m_law [.s ns] (fun r _ => r = .v (.bool true)) by
    obtain ⟨r, as, e, rfl⟩ := h
    exact ⟨as, e⟩
  refine u_law ?_
  unfold b_law
  walk_at "fxs"
  refine begin_ok ns hl _ fun b hb => ?_
  walk_at "nf"; walk_at "fxs"
  refine strings_ok _ hb _ fun xs b hn hg hb => ?_
  walk_at "nf"; walk_at "fxs"
  refine uop_is (z := .list xs.reverse) rfl ?_
  walk_at "fxs"
  refine bop_add_ll (by rw [List.length_reverse]; show _ ≤ 2 ^ 24; omega) ?_
  walk_at "fxs"
  refine wp_forL (fun i ρ => ∃ (x y : Sl), ρ = [.s ns, .o b, .v (.list xs), x, y]) ⟨_, _, rfl⟩ ?_ ?_
  · rintro i x ρ hx ⟨y, z, rfl⟩
    have hm : x ∈ xs := by
      rcases List.mem_append.mp (List.mem_of_getElem? hx) with h | h
      · exact h
      · exact List.mem_reverse.mp h
    obtain ⟨t, rfl, _, ht⟩ := hg x hm
    refine ⟨_, rfl, ?_⟩
    walk_at "fxs"
    refine is_name_ok t (by omega) _ ?_
    walk_at "nf"; walk_at "fxs"
    refine uop_is rfl ?_
    walk_at "fxs"
    refine ⟨fun e => absurd (show false = true from e) (by decide), fun _ => ?_⟩
    walk_at "fxs"
    refine law_name_ok t (by omega) _ ?_
    walk_at "nf"; walk_at "fxs"
    rw [(Shp.bool 0 _).refl]
    refine ⟨fun e => (by cases e), fun _ => ?_⟩
    walk_at "fxs"
    exact ⟨_, _, rfl⟩
  · rintro ρ ⟨y, z, rfl⟩
    walk_at "fxs"
    rfl
end K05
end
namespace K05
open PySem PySem.Spec PyProof.Rows L2 Fx
def topS (i : Nat) : Stmt := PySem.Challenge.pw_meantrace_k05_names.main.body.getD i (.Pass ⟨0, 0, 0, 0⟩)
abbrev s_is_name : Stmt := topS 4
abbrev N_is_name : List Str := ["text", "sign"]
theorem sc_is_name : FnScope N_is_name ["text"] (defScope s_is_name) := ⟨rfl, rfl, rfl, by decide +kernel, rfl, by decide +kernel, by decide +kernel⟩
abbrev s__law_begin : Stmt := topS 6
abbrev N__law_begin : List Str := ["script", "cell"]
theorem sc__law_begin : FnScope N__law_begin ["script"] (defScope s__law_begin) := ⟨rfl, rfl, rfl, by decide +kernel, rfl, by decide +kernel, by decide +kernel⟩
abbrev s__law_draw : Stmt := topS 7
abbrev N__law_draw : List Str := ["d", "many", "found", "size", "cell"]
theorem sc__law_draw : FnScope N__law_draw ["d", "many"] (defScope s__law_draw) := ⟨rfl, rfl, rfl, by decide +kernel, rfl, by decide +kernel, by decide +kernel⟩
abbrev s__law_reserved : Stmt := topS 9
abbrev N__law_reserved : List Str := ["text"]
theorem sc__law_reserved : FnScope N__law_reserved [] (defScope s__law_reserved) := ⟨rfl, rfl, rfl, by decide +kernel, rfl, by decide +kernel, by decide +kernel⟩
abbrev s__law_signs : Stmt := topS 11
abbrev N__law_signs : List Str := ["text"]
theorem sc__law_signs : FnScope N__law_signs [] (defScope s__law_signs) := ⟨rfl, rfl, rfl, by decide +kernel, rfl, by decide +kernel, by decide +kernel⟩
abbrev s__law_pick : Stmt := topS 8
abbrev N__law_pick : List Str := ["d", "row"]
theorem sc__law_pick : FnScope N__law_pick ["d", "row"] (defScope s__law_pick) := ⟨rfl, rfl, rfl, by decide +kernel, rfl, by decide +kernel, by decide +kernel⟩
abbrev s__law_is_name : Stmt := topS 10
abbrev N__law_is_name : List Str := ["text", "sign"]
theorem sc__law_is_name : FnScope N__law_is_name ["text"] (defScope s__law_is_name) := ⟨rfl, rfl, rfl, by decide +kernel, rfl, by decide +kernel, by decide +kernel⟩
abbrev s__law_raw : Stmt := topS 12
abbrev N__law_raw : List Str := ["d", "size", "text", "signs", "k"]
theorem sc__law_raw : FnScope N__law_raw ["d", "size"] (defScope s__law_raw) := ⟨rfl, rfl, rfl, by decide +kernel, rfl, by decide +kernel, by decide +kernel⟩
abbrev s__law_plain_word : Stmt := topS 13
abbrev N__law_plain_word : List Str := ["d", "size", "text", "k"]
theorem sc__law_plain_word : FnScope N__law_plain_word ["d", "size"] (defScope s__law_plain_word) := ⟨rfl, rfl, rfl, by decide +kernel, rfl, by decide +kernel, by decide +kernel⟩
abbrev s__law_bent : Stmt := topS 14
abbrev N__law_bent : List Str := ["d", "text", "at", "way"]
theorem sc__law_bent : FnScope N__law_bent ["d", "text"] (defScope s__law_bent) := ⟨rfl, rfl, rfl, by decide +kernel, rfl, by decide +kernel, by decide +kernel⟩
abbrev s__law_strings : Stmt := topS 15
abbrev N__law_strings : List Str := ["d", "found", "name", "word", "capitals"]
theorem sc__law_strings : FnScope N__law_strings ["d"] (defScope s__law_strings) := ⟨rfl, rfl, rfl, by decide +kernel, rfl, by decide +kernel, by decide +kernel⟩
abbrev s_law : Stmt := topS 16
abbrev N_law : List Str := ["script", "d", "strings", "text", "told"]
theorem sc_law : FnScope N_law ["script"] (defScope s_law) := ⟨rfl, rfl, rfl, by decide +kernel, rfl, by decide +kernel, by decide +kernel⟩
section
variable {P : Program} {w : World} {K : Kf} {mg : Str → Option Value} {base : Heap}
set_option maxHeartbeats 4000000 in
theorem df_is_name (T : Tp K mg "is_name" s_is_name) (z_all : mg "all" = none) (z_len : mg "len" = none) (c_FIGURES : Kc K mg "FIGURES" k_FIGURES) (c_LETTERS : Kc K mg "LETTERS" k_LETTERS) (c_RESERVED : Kc K mg "RESERVED" k_RESERVED) : Df P w K mg base 1 "is_name" 1 m_is_name :=
  df_mk T sc_is_name rfl rfl (by decide) (fun _ _ _ _ _ _ us hl => match us, hl with | [_], _ => rfl) (fun f cdv A outer s H E hr => ss_cons (s_if (t_w (w_or (t_not (t_chain op_le op_le (v_int) (v_b1 call_len cbd_len (by rfl) z_len PySem.boot_len (b_name 0)) (v_int))) (w_or (t_in (b_name 0) (b_val (c_RESERVED.v (by rfl)))) (w_or1 (t_notin (b_val (v_ix (b_name 0) (b_val (v_int)))) (b_val (c_LETTERS.v (by rfl)))))))) (ss_one (s_ret (v_bl))) (ss_nil)) (ss_one (s_ret (v_b1 (cr_all rfl) cbd_all (by rfl) z_all boot_all (b_val (v_new (n_lc (n := 2) (vs := [1]) [("sign", 1)] rfl rfl rfl sc_is_name.nd (i_seq (v_name 0)) (blkOk_by (N := N_is_name) (sc := defScope s_is_name) (by decide +kernel)) (fun _ _ _ _ _ => g_name 1 (by decide +kernel) sc_is_name.nd rfl (.inl rfl)) (fun _ _ _ _ _ => ts_nil) (fun _ _ _ _ _ => v_or (v_bool (v_in (b_name 1) (b_val (c_LETTERS.v (by rfl))))) (v_one (v_bool (v_in (b_name 1) (b_val (c_FIGURES.v (by rfl))))))))))))))
set_option maxHeartbeats 4000000 in
theorem df__law_begin (T : Tp K mg "_law_begin" s__law_begin) (z_int : mg "int" = none) : Df P w K mg base 1 "_law_begin" 1 m__law_begin :=
  df_mk T sc__law_begin rfl rfl (by decide) (fun _ _ _ _ _ _ us hl => match us, hl with | [_], _ => rfl) (fun f cdv A outer s H E hr => ss_one (s_retN (n_lst (a_cons (v_new (n_lc (n := 2) (vs := [1]) [("cell", 1)] rfl rfl rfl sc__law_begin.nd (i_scr 0) (blkOk_by (N := N__law_begin) (sc := defScope s__law_begin) (by decide +kernel)) (fun _ _ _ _ _ => g_name 1 (by decide +kernel) sc__law_begin.nd rfl (.inl rfl)) (fun _ _ _ _ _ => ts_nil) (fun _ _ _ _ _ => v_t1 call_int1 cbd_int (by rfl) z_int boot_int (b_name 1)))) (a_cons (v_int) (a_cons (v_int) (a_cons (v_int) (a_nil))))))))
set_option maxHeartbeats 4000000 in
theorem df__law_draw (T : Tp K mg "_law_draw" s__law_draw) (z_abs : mg "abs" = none) (z_int : mg "int" = none) (z_len : mg "len" = none) : Df P w K mg base 1 "_law_draw" 2 m__law_draw :=
  df_mk T sc__law_draw rfl rfl (by decide) (fun _ _ _ _ _ _ us hl => match us, hl with | [_, _], _ => rfl) (fun f cdv A outer s H E hr => ss_cons (s_if (t_gt (b_val (v_ix (b_name 0) (b_val (v_int)))) (b_val (v_int))) (ss_cons (s_set 2 (by decide) sc__law_draw.nd rfl (.inl rfl) (v_ix (b_name 0) (b_val (v_int)))) (ss_cons (s_setIt 0 (v_fdiv (b_name 2) (b_name 1)) (v_int)) (ss_one (s_ret (v_mod (b_val (v_t1 call_int1 cbd_int (by rfl) z_int boot_int (b_name 2))) (b_name 1)))))) (ss_nil)) (ss_cons (s_set 3 (by decide) sc__law_draw.nd rfl (.inl rfl) (v_int)) (ss_cons (s_if (t_lt (b_val (v_ix (b_name 0) (b_val (v_int)))) (b_val (v_b1 call_len cbd_len (by rfl) z_len PySem.boot_len (b_val (v_ix (b_name 0) (b_val (v_int))))))) (ss_cons (s_set 4 (by decide) sc__law_draw.nd rfl (.inl rfl) (v_ix (b_val (v_ix (b_name 0) (b_val (v_int)))) (b_val (v_ix (b_name 0) (b_val (v_int)))))) (ss_one (s_set 3 (by decide) sc__law_draw.nd rfl (.inl rfl) (v_add (b_val (v_mul (b_val (v_int)) (b_val (v_b1 call_abs cbd_abs (by rfl) z_abs boot_abs (b_name 4))))) (b_val (v_t1 call_int1 cbd_int (by rfl) z_int boot_int (b_val (v_lt (b_name 4) (b_val (v_int)))))))))) (ss_nil)) (ss_cons (s_augIt 0 (v_int) (v_int) ip_add) (ss_cons (s_if (t_ge (b_name 3) (b_val (v_mul (b_val (v_int)) (b_val (v_pow (b_val (v_int)) (b_val (v_int))))))) (ss_cons (s_set 2 (by decide) sc__law_draw.nd rfl (.inl rfl) (v_mod (b_val (v_t1 call_int1 cbd_int (by rfl) z_int boot_int (b_val (v_fdiv (b_name 3) (b_val (v_int)))))) (b_val (v_shl (b_val (v_int)) (b_val (v_int)))))) (ss_cons (s_setIt 0 (v_fdiv (b_name 2) (b_name 1)) (v_int)) (ss_one (s_ret (v_mod (b_val (v_t1 call_int1 cbd_int (by rfl) z_int boot_int (b_name 2))) (b_name 1)))))) (ss_nil)) (ss_cons (s_setIt 0 (v_mod (b_val (v_t1 call_int1 cbd_int (by rfl) z_int boot_int (b_val (v_add (b_val (v_add (b_val (v_add (b_val (v_mul (b_val (v_ix (b_name 0) (b_val (v_int)))) (b_val (v_int)))) (b_val (v_mul (b_val (v_mod (b_val (v_t1 call_int1 cbd_int (by rfl) z_int boot_int (b_name 3))) (b_val (v_int)))) (b_val (v_int)))))) (b_val (v_mul (b_val (v_ix (b_name 0) (b_val (v_int)))) (b_val (v_int)))))) (b_val (v_int)))))) (b_val (v_int))) (v_int)) (ss_one (s_ret (v_mod (b_val (v_t1 call_int1 cbd_int (by rfl) z_int boot_int (b_val (v_fdiv (b_val (v_ix (b_name 0) (b_val (v_int)))) (b_val (v_int)))))) (b_name 1))))))))))
set_option maxHeartbeats 4000000 in
theorem df__law_reserved (T : Tp K mg "_law_reserved" s__law_reserved) : Df P w K mg base 1 "_law_reserved" 0 m__law_reserved :=
  df_mk T sc__law_reserved rfl rfl (by decide) (fun _ _ _ _ _ _ us hl => match us, hl with | [], _ => rfl) (fun f cdv A outer s H E hr => ss_cons (s_set 0 (by decide) sc__law_reserved.nd rfl (.inl rfl) (v_str)) (ss_cons (s_set 0 (by decide) sc__law_reserved.nd rfl (.inl rfl) (v_add (b_name 0) (b_val (v_str)))) (ss_one (s_ret (v_split (b_name 0) (b_val (v_str)))))))
set_option maxHeartbeats 4000000 in
theorem df__law_signs (T : Tp K mg "_law_signs" s__law_signs) : Df P w K mg base 1 "_law_signs" 0 m__law_signs :=
  df_mk T sc__law_signs rfl rfl (by decide) (fun _ _ _ _ _ _ us hl => match us, hl with | [], _ => rfl) (fun f cdv A outer s H E hr => ss_cons (s_set 0 (by decide) sc__law_signs.nd rfl (.inl rfl) (v_str)) (ss_one (s_ret (v_add (b_name 0) (b_val (v_str))))))
set_option maxHeartbeats 4000000 in
theorem df__law_pick (T : Tp K mg "_law_pick" s__law_pick) (z_len : mg "len" = none) (D__law_draw : Df P w K mg base 1 "_law_draw" 2 m__law_draw) : Df P w K mg base 2 "_law_pick" 2 m__law_pick :=
  df_mk T sc__law_pick rfl rfl (by decide) (fun _ _ _ _ _ _ us hl => match us, hl with | [_, _], _ => rfl) (fun f cdv A outer s H E hr => ss_one (s_ret (v_ix (b_name 1) (b_val (v_call D__law_draw hr (by rfl) (c_cons (b_arg 0) (c_cons (b_val (v_b1 call_len cbd_len (by rfl) z_len PySem.boot_len (b_name 1))) (c_nil))))))))
set_option maxHeartbeats 4000000 in
theorem df__law_is_name (T : Tp K mg "_law_is_name" s__law_is_name) (z_len : mg "len" = none) (D__law_reserved : Df P w K mg base 1 "_law_reserved" 0 m__law_reserved) : Df P w K mg base 2 "_law_is_name" 1 m__law_is_name :=
  df_mk T sc__law_is_name rfl rfl (by decide) (fun _ _ _ _ _ _ us hl => match us, hl with | [_], _ => rfl) (fun f cdv A outer s H E hr => ss_cons (s_if (t_w (w_or (t_lt (b_val (v_b1 call_len cbd_len (by rfl) z_len PySem.boot_len (b_name 0))) (b_val (v_int))) (w_or (t_gt (b_val (v_b1 call_len cbd_len (by rfl) z_len PySem.boot_len (b_name 0))) (b_val (v_int))) (w_or (t_in (b_name 0) (b_val (v_call0 D__law_reserved hr (by rfl)))) (w_or1 (t_notin (b_val (v_ix (b_name 0) (b_val (v_int)))) (b_val (v_str)))))))) (ss_one (s_ret (v_bl))) (ss_nil)) (ss_one (s_ret (v_eq hr.units (b_val (v_b1 call_len cbd_len (by rfl) z_len PySem.boot_len (b_val (v_new (n_lc (n := 2) (vs := [1]) [("sign", 1)] rfl rfl rfl sc__law_is_name.nd (i_seq (v_name 0)) (blkOk_by (N := N__law_is_name) (sc := defScope s__law_is_name) (by decide +kernel)) (fun _ _ _ _ _ => g_name 1 (by decide +kernel) sc__law_is_name.nd rfl (.inl rfl)) (fun _ _ _ _ _ => ts_one (t_notin (b_name 1) (b_val (v_str)))) (fun _ _ _ _ _ => v_name 1)))))) (b_val (v_int))))))
set_option maxHeartbeats 4000000 in
theorem df__law_raw (T : Tp K mg "_law_raw" s__law_raw) (z_range : mg "range" = none) (D__law_signs : Df P w K mg base 1 "_law_signs" 0 m__law_signs) (D__law_pick : Df P w K mg base 2 "_law_pick" 2 m__law_pick) : Df P w K mg base 3 "_law_raw" 2 m__law_raw :=
  df_mk T sc__law_raw rfl rfl (by decide) (fun _ _ _ _ _ _ us hl => match us, hl with | [_, _], _ => rfl) (fun f cdv A outer s H E hr => ss_cons (s_set 2 (by decide) sc__law_raw.nd rfl (.inl rfl) (v_str)) (ss_cons (s_set 3 (by decide) sc__law_raw.nd rfl (.inl rfl) (v_call0 D__law_signs (hr.mono (by decide)) (by rfl))) (ss_cons (s_for PassesOwn.never rfl (i_rng1 (by rfl) z_range (a_cons (v_name 1) (a_nil))) (g_name 4 (by decide) sc__law_raw.nd rfl (.inl rfl)) (ss_one (s_set 2 (by decide) sc__law_raw.nd rfl (.inl rfl) (v_add (b_name 2) (b_val (v_call D__law_pick hr (by rfl) (c_cons (b_arg 0) (c_cons (b_val (v_name 3)) (c_nil))))))))) (ss_one (s_ret (v_name 2))))))
set_option maxHeartbeats 4000000 in
theorem df__law_plain_word (T : Tp K mg "_law_plain_word" s__law_plain_word) (z_range : mg "range" = none) (D__law_pick : Df P w K mg base 2 "_law_pick" 2 m__law_pick) : Df P w K mg base 3 "_law_plain_word" 2 m__law_plain_word :=
  df_mk T sc__law_plain_word rfl rfl (by decide) (fun _ _ _ _ _ _ us hl => match us, hl with | [_, _], _ => rfl) (fun f cdv A outer s H E hr => ss_cons (s_set 2 (by decide) sc__law_plain_word.nd rfl (.inl rfl) (v_call D__law_pick hr (by rfl) (c_cons (b_arg 0) (c_cons (b_val (v_str)) (c_nil))))) (ss_cons (s_for PassesOwn.never rfl (i_rng1 (by rfl) z_range (a_cons (v_sub (b_name 1) (b_val (v_int))) (a_nil))) (g_name 3 (by decide) sc__law_plain_word.nd rfl (.inl rfl)) (ss_one (s_set 2 (by decide) sc__law_plain_word.nd rfl (.inl rfl) (v_add (b_name 2) (b_val (v_call D__law_pick hr (by rfl) (c_cons (b_arg 0) (c_cons (b_val (v_str)) (c_nil))))))))) (ss_one (s_ret (v_name 2)))))
set_option maxHeartbeats 4000000 in
theorem df__law_bent (T : Tp K mg "_law_bent" s__law_bent) (z_len : mg "len" = none) (D__law_draw : Df P w K mg base 1 "_law_draw" 2 m__law_draw) (D__law_raw : Df P w K mg base 3 "_law_raw" 2 m__law_raw) : Df P w K mg base 4 "_law_bent" 2 m__law_bent :=
  df_mk T sc__law_bent rfl rfl (by decide) (fun _ _ _ _ _ _ us hl => match us, hl with | [_, _], _ => rfl) (fun f cdv A outer s H E hr => ss_cons (s_set 2 (by decide) sc__law_bent.nd rfl (.inl rfl) (v_call D__law_draw (hr.mono (by decide)) (by rfl) (c_cons (b_arg 0) (c_cons (b_val (v_b1 call_len cbd_len (by rfl) z_len PySem.boot_len (b_name 1))) (c_nil))))) (ss_cons (s_set 3 (by decide) sc__law_bent.nd rfl (.inl rfl) (v_call D__law_draw (hr.mono (by decide)) (by rfl) (c_cons (b_arg 0) (c_cons (b_val (v_int)) (c_nil))))) (ss_cons (s_if (t_eq hr.units (b_name 3) (b_val (v_int))) (ss_one (s_ret (v_add (b_val (v_sl (b_name 1) (o_none) (o_some (v_name 2)))) (b_val (v_sl (b_name 1) (o_some (v_add (b_name 2) (b_val (v_int)))) (o_none)))))) (ss_nil)) (ss_cons (s_if (t_eq hr.units (b_name 3) (b_val (v_int))) (ss_one (s_ret (v_add (b_val (v_add (b_val (v_sl (b_name 1) (o_none) (o_some (v_name 2)))) (b_val (v_call D__law_raw hr (by rfl) (c_cons (b_arg 0) (c_cons (b_val (v_int)) (c_nil))))))) (b_val (v_sl (b_name 1) (o_some (v_name 2)) (o_none)))))) (ss_nil)) (ss_one (s_ret (v_add (b_val (v_add (b_val (v_sl (b_name 1) (o_none) (o_some (v_name 2)))) (b_val (v_call D__law_raw hr (by rfl) (c_cons (b_arg 0) (c_cons (b_val (v_int)) (c_nil))))))) (b_val (v_sl (b_name 1) (o_some (v_add (b_name 2) (b_val (v_int)))) (o_none))))))))))
set_option maxHeartbeats 4000000 in
theorem df__law_strings (T : Tp K mg "_law_strings" s__law_strings) (D__law_draw : Df P w K mg base 1 "_law_draw" 2 m__law_draw) (D__law_reserved : Df P w K mg base 1 "_law_reserved" 0 m__law_reserved) (D__law_pick : Df P w K mg base 2 "_law_pick" 2 m__law_pick) (D__law_raw : Df P w K mg base 3 "_law_raw" 2 m__law_raw) (D__law_plain_word : Df P w K mg base 3 "_law_plain_word" 2 m__law_plain_word) (D__law_bent : Df P w K mg base 4 "_law_bent" 2 m__law_bent) : Df P w K mg base 5 "_law_strings" 1 m__law_strings :=
  df_mk T sc__law_strings rfl rfl (by decide) (fun _ _ _ _ _ _ us hl => match us, hl with | [_], _ => rfl) (fun f cdv A outer s H E hr => ss_cons (s_setN 1 (by decide) sc__law_strings.nd rfl (.inl rfl) (n_lst (a_cons (v_call D__law_raw (hr.mono (by decide)) (by rfl) (c_cons (b_arg 0) (c_cons (b_val (v_call D__law_draw (hr.mono (by decide)) (by rfl) (c_cons (b_arg 0) (c_cons (b_val (v_int)) (c_nil))))) (c_nil)))) (a_cons (v_call D__law_plain_word (hr.mono (by decide)) (by rfl) (c_cons (b_arg 0) (c_cons (b_val (v_add (b_val (v_int)) (b_val (v_call D__law_draw (hr.mono (by decide)) (by rfl) (c_cons (b_arg 0) (c_cons (b_val (v_int)) (c_nil))))))) (c_nil)))) (a_nil))))) (ss_cons (s_set 2 (by decide) sc__law_strings.nd rfl (.inl rfl) (v_call D__law_plain_word (hr.mono (by decide)) (by rfl) (c_cons (b_arg 0) (c_cons (b_val (v_add (b_val (v_int)) (b_val (v_call D__law_draw (hr.mono (by decide)) (by rfl) (c_cons (b_arg 0) (c_cons (b_val (v_int)) (c_nil))))))) (c_nil))))) (ss_cons (s_setN 1 (by decide) sc__law_strings.nd rfl (.inl rfl) (n_cat (b_name 1) (b_val (v_new (n_lst (a_cons (v_name 2) (a_cons (v_call D__law_bent hr (by rfl) (c_cons (b_arg 0) (c_cons (b_val (v_name 2)) (c_nil)))) (a_nil)))))))) (ss_cons (s_set 2 (by decide) sc__law_strings.nd rfl (.inl rfl) (v_call D__law_plain_word (hr.mono (by decide)) (by rfl) (c_cons (b_arg 0) (c_cons (b_val (v_add (b_val (v_int)) (b_val (v_call D__law_draw (hr.mono (by decide)) (by rfl) (c_cons (b_arg 0) (c_cons (b_val (v_int)) (c_nil))))))) (c_nil))))) (ss_cons (s_setN 1 (by decide) sc__law_strings.nd rfl (.inl rfl) (n_cat (b_name 1) (b_val (v_new (n_lst (a_cons (v_name 2) (a_cons (v_call D__law_bent hr (by rfl) (c_cons (b_arg 0) (c_cons (b_val (v_name 2)) (c_nil)))) (a_cons (v_sl (b_name 2) (o_none) (o_some (v_int))) (a_nil))))))))) (ss_cons (s_set 3 (by decide) sc__law_strings.nd rfl (.inl rfl) (v_call D__law_pick (hr.mono (by decide)) (by rfl) (c_cons (b_arg 0) (c_cons (b_val (v_call0 D__law_reserved (hr.mono (by decide)) (by rfl))) (c_nil))))) (ss_cons (s_setN 1 (by decide) sc__law_strings.nd rfl (.inl rfl) (n_cat (b_name 1) (b_val (v_new (n_lst (a_cons (v_name 3) (a_cons (v_sl (b_name 3) (o_none) (o_some (v_neg (v_int)))) (a_cons (v_add (b_name 3) (b_val (v_call D__law_raw (hr.mono (by decide)) (by rfl) (c_cons (b_arg 0) (c_cons (b_val (v_int)) (c_nil)))))) (a_cons (v_add (b_val (v_call D__law_raw (hr.mono (by decide)) (by rfl) (c_cons (b_arg 0) (c_cons (b_val (v_int)) (c_nil))))) (b_name 3)) (a_nil)))))))))) (ss_cons (s_set 4 (by decide) sc__law_strings.nd rfl (.inl rfl) (v_str)) (ss_cons (s_expr (v_app 1 (v_add (b_val (v_ix (b_name 4) (b_val (v_index (b_val (v_str)) (b_val (v_ix (b_name 3) (b_val (v_int)))))))) (b_val (v_sl (b_name 3) (o_some (v_int)) (o_none)))))) (ss_one (s_ret (v_add (b_name 1) (b_val (v_call0 D__law_reserved (hr.mono (by decide)) (by rfl)))))))))))))))
set_option maxHeartbeats 4000000 in
theorem df_law {f : Addr} {fd : FuncData} (F : Fun K "law" "law" s_law f fd) (z_bool : mg "bool" = none) (z_isinstance : mg "isinstance" = none) (D_is_name : Df P w K mg base 1 "is_name" 1 m_is_name) (D__law_begin : Df P w K mg base 1 "_law_begin" 1 m__law_begin) (D__law_is_name : Df P w K mg base 2 "_law_is_name" 1 m__law_is_name) (D__law_strings : Df P w K mg base 5 "_law_strings" 1 m__law_strings) : FnOk P w K mg base CX0 6 f fd ["script"] (Prm K 1 m_law) :=
  fn_mk F sc_law rfl rfl (by decide) (fun f cdv A outer s H E hr => ss_cons (s_setN 1 (by decide) sc_law.nd rfl (.inl rfl) (n_call D__law_begin (hr.mono (by decide)) (by rfl) (c_cons (b_arg 0) (c_nil)))) (ss_cons (s_set 2 (by decide) sc_law.nd rfl (.inl rfl) (v_call D__law_strings hr (by rfl) (c_cons (b_arg 1) (c_nil)))) (ss_cons (s_for PassesOwn.never rfl (i_seq (v_add (b_name 2) (b_val (v_rev (b_name 2))))) (g_name 3 (by decide) sc_law.nd rfl (.inl rfl)) (ss_cons (s_set 4 (by decide) sc_law.nd rfl (.inl rfl) (v_call D_is_name (hr.mono (by decide)) (by rfl) (c_cons (b_val (v_name 3)) (c_nil)))) (ss_one (s_if (t_w (w_or (t_not (t_tru (b_val (v_isi (T := "bool") (by decide) (by rfl) z_isinstance (by rfl) z_bool (by decide +kernel) (b_name 4))))) (w_or1 (t_ne hr.units (b_name 4) (b_val (v_call D__law_is_name (hr.mono (by decide)) (by rfl) (c_cons (b_val (v_name 3)) (c_nil)))))))) (ss_one (s_ret (v_bl))) (ss_nil))))) (ss_one (s_ret (v_bl))))))
end
theorem all_mk {l : PySem.W.OpenLaw} {w : World} {K : PySem.W.Frag} {h : Heap} {mg : Str → Option Value} {fa : Addr} (X : K.In h) (G : h.Ns mainGlobals mg) (hfa : mg "law" = some (.ref fa))
    {f_is_name f__law_begin f__law_draw f__law_reserved f__law_signs f__law_pick f__law_is_name f__law_raw f__law_plain_word f__law_bent f__law_strings f_law : Addr} {od_is_name an_is_name od__law_begin an__law_begin od__law_draw an__law_draw od__law_reserved an__law_reserved od__law_signs an__law_signs od__law_pick an__law_pick od__law_is_name an__law_is_name od__law_raw an__law_raw od__law_plain_word an__law_plain_word od__law_bent an__law_bent od__law_strings an__law_strings od_law an_law : Option Addr} {sl_is_name sl__law_begin sl__law_draw sl__law_reserved sl__law_signs sl__law_pick sl__law_is_name sl__law_raw sl__law_plain_word sl__law_bent sl__law_strings sl_law : Array (Option Value)} {oc_is_name kV_is_name dc_is_name pm_is_name cd_is_name ct_is_name oc__law_begin kV__law_begin dc__law_begin pm__law_begin cd__law_begin ct__law_begin oc__law_draw kV__law_draw dc__law_draw pm__law_draw cd__law_draw ct__law_draw oc__law_reserved kV__law_reserved dc__law_reserved pm__law_reserved cd__law_reserved ct__law_reserved oc__law_signs kV__law_signs dc__law_signs pm__law_signs cd__law_signs ct__law_signs oc__law_pick kV__law_pick dc__law_pick pm__law_pick cd__law_pick ct__law_pick oc__law_is_name kV__law_is_name dc__law_is_name pm__law_is_name cd__law_is_name ct__law_is_name oc__law_raw kV__law_raw dc__law_raw pm__law_raw cd__law_raw ct__law_raw oc__law_plain_word kV__law_plain_word dc__law_plain_word pm__law_plain_word cd__law_plain_word ct__law_plain_word oc__law_bent kV__law_bent dc__law_bent pm__law_bent cd__law_bent ct__law_bent oc__law_strings kV__law_strings dc__law_strings pm__law_strings cd__law_strings ct__law_strings oc_law kV_law dc_law pm_law cd_law ct_law : Value}
    (a_is_name : PySem.W.nsIn K mainGlobals "is_name" = some (some (.ref f_is_name))) (l_is_name : K.lookup f_is_name = some ⟨oc_is_name, od_is_name, .func (PySem.W.fnOf "is_name" "is_name" (defArgs s_is_name) (defBody s_is_name) (defScope s_is_name) .none kV_is_name dc_is_name pm_is_name an_is_name cd_is_name ct_is_name), sl_is_name⟩) (e_is_name : PySem.W.codeIn K cd_is_name "is_name" = true) (p_is_name : PySem.W.keepIn K (.ref f_is_name) = true)
    (a__law_begin : PySem.W.nsIn K mainGlobals "_law_begin" = some (some (.ref f__law_begin))) (l__law_begin : K.lookup f__law_begin = some ⟨oc__law_begin, od__law_begin, .func (PySem.W.fnOf "_law_begin" "_law_begin" (defArgs s__law_begin) (defBody s__law_begin) (defScope s__law_begin) .none kV__law_begin dc__law_begin pm__law_begin an__law_begin cd__law_begin ct__law_begin), sl__law_begin⟩) (e__law_begin : PySem.W.codeIn K cd__law_begin "_law_begin" = true) (p__law_begin : PySem.W.keepIn K (.ref f__law_begin) = true)
    (a__law_draw : PySem.W.nsIn K mainGlobals "_law_draw" = some (some (.ref f__law_draw))) (l__law_draw : K.lookup f__law_draw = some ⟨oc__law_draw, od__law_draw, .func (PySem.W.fnOf "_law_draw" "_law_draw" (defArgs s__law_draw) (defBody s__law_draw) (defScope s__law_draw) .none kV__law_draw dc__law_draw pm__law_draw an__law_draw cd__law_draw ct__law_draw), sl__law_draw⟩) (e__law_draw : PySem.W.codeIn K cd__law_draw "_law_draw" = true) (p__law_draw : PySem.W.keepIn K (.ref f__law_draw) = true)
    (a__law_reserved : PySem.W.nsIn K mainGlobals "_law_reserved" = some (some (.ref f__law_reserved))) (l__law_reserved : K.lookup f__law_reserved = some ⟨oc__law_reserved, od__law_reserved, .func (PySem.W.fnOf "_law_reserved" "_law_reserved" (defArgs s__law_reserved) (defBody s__law_reserved) (defScope s__law_reserved) .none kV__law_reserved dc__law_reserved pm__law_reserved an__law_reserved cd__law_reserved ct__law_reserved), sl__law_reserved⟩) (e__law_reserved : PySem.W.codeIn K cd__law_reserved "_law_reserved" = true) (p__law_reserved : PySem.W.keepIn K (.ref f__law_reserved) = true)
    (a__law_signs : PySem.W.nsIn K mainGlobals "_law_signs" = some (some (.ref f__law_signs))) (l__law_signs : K.lookup f__law_signs = some ⟨oc__law_signs, od__law_signs, .func (PySem.W.fnOf "_law_signs" "_law_signs" (defArgs s__law_signs) (defBody s__law_signs) (defScope s__law_signs) .none kV__law_signs dc__law_signs pm__law_signs an__law_signs cd__law_signs ct__law_signs), sl__law_signs⟩) (e__law_signs : PySem.W.codeIn K cd__law_signs "_law_signs" = true) (p__law_signs : PySem.W.keepIn K (.ref f__law_signs) = true)
    (a__law_pick : PySem.W.nsIn K mainGlobals "_law_pick" = some (some (.ref f__law_pick))) (l__law_pick : K.lookup f__law_pick = some ⟨oc__law_pick, od__law_pick, .func (PySem.W.fnOf "_law_pick" "_law_pick" (defArgs s__law_pick) (defBody s__law_pick) (defScope s__law_pick) .none kV__law_pick dc__law_pick pm__law_pick an__law_pick cd__law_pick ct__law_pick), sl__law_pick⟩) (e__law_pick : PySem.W.codeIn K cd__law_pick "_law_pick" = true) (p__law_pick : PySem.W.keepIn K (.ref f__law_pick) = true)
    (a__law_is_name : PySem.W.nsIn K mainGlobals "_law_is_name" = some (some (.ref f__law_is_name))) (l__law_is_name : K.lookup f__law_is_name = some ⟨oc__law_is_name, od__law_is_name, .func (PySem.W.fnOf "_law_is_name" "_law_is_name" (defArgs s__law_is_name) (defBody s__law_is_name) (defScope s__law_is_name) .none kV__law_is_name dc__law_is_name pm__law_is_name an__law_is_name cd__law_is_name ct__law_is_name), sl__law_is_name⟩) (e__law_is_name : PySem.W.codeIn K cd__law_is_name "_law_is_name" = true) (p__law_is_name : PySem.W.keepIn K (.ref f__law_is_name) = true)
    (a__law_raw : PySem.W.nsIn K mainGlobals "_law_raw" = some (some (.ref f__law_raw))) (l__law_raw : K.lookup f__law_raw = some ⟨oc__law_raw, od__law_raw, .func (PySem.W.fnOf "_law_raw" "_law_raw" (defArgs s__law_raw) (defBody s__law_raw) (defScope s__law_raw) .none kV__law_raw dc__law_raw pm__law_raw an__law_raw cd__law_raw ct__law_raw), sl__law_raw⟩) (e__law_raw : PySem.W.codeIn K cd__law_raw "_law_raw" = true) (p__law_raw : PySem.W.keepIn K (.ref f__law_raw) = true)
    (a__law_plain_word : PySem.W.nsIn K mainGlobals "_law_plain_word" = some (some (.ref f__law_plain_word))) (l__law_plain_word : K.lookup f__law_plain_word = some ⟨oc__law_plain_word, od__law_plain_word, .func (PySem.W.fnOf "_law_plain_word" "_law_plain_word" (defArgs s__law_plain_word) (defBody s__law_plain_word) (defScope s__law_plain_word) .none kV__law_plain_word dc__law_plain_word pm__law_plain_word an__law_plain_word cd__law_plain_word ct__law_plain_word), sl__law_plain_word⟩) (e__law_plain_word : PySem.W.codeIn K cd__law_plain_word "_law_plain_word" = true) (p__law_plain_word : PySem.W.keepIn K (.ref f__law_plain_word) = true)
    (a__law_bent : PySem.W.nsIn K mainGlobals "_law_bent" = some (some (.ref f__law_bent))) (l__law_bent : K.lookup f__law_bent = some ⟨oc__law_bent, od__law_bent, .func (PySem.W.fnOf "_law_bent" "_law_bent" (defArgs s__law_bent) (defBody s__law_bent) (defScope s__law_bent) .none kV__law_bent dc__law_bent pm__law_bent an__law_bent cd__law_bent ct__law_bent), sl__law_bent⟩) (e__law_bent : PySem.W.codeIn K cd__law_bent "_law_bent" = true) (p__law_bent : PySem.W.keepIn K (.ref f__law_bent) = true)
    (a__law_strings : PySem.W.nsIn K mainGlobals "_law_strings" = some (some (.ref f__law_strings))) (l__law_strings : K.lookup f__law_strings = some ⟨oc__law_strings, od__law_strings, .func (PySem.W.fnOf "_law_strings" "_law_strings" (defArgs s__law_strings) (defBody s__law_strings) (defScope s__law_strings) .none kV__law_strings dc__law_strings pm__law_strings an__law_strings cd__law_strings ct__law_strings), sl__law_strings⟩) (e__law_strings : PySem.W.codeIn K cd__law_strings "_law_strings" = true) (p__law_strings : PySem.W.keepIn K (.ref f__law_strings) = true)
    (a_law : PySem.W.nsIn K mainGlobals "law" = some (some (.ref f_law))) (l_law : K.lookup f_law = some ⟨oc_law, od_law, .func (PySem.W.fnOf "law" "law" (defArgs s_law) (defBody s_law) (defScope s_law) .none kV_law dc_law pm_law an_law cd_law ct_law), sl_law⟩) (e_law : PySem.W.codeIn K cd_law "law" = true) (p_law : PySem.W.keepIn K (.ref f_law) = true)
    (z_abs : PySem.W.nsIn K mainGlobals "abs" = some none)
    (z_all : PySem.W.nsIn K mainGlobals "all" = some none)
    (z_bool : PySem.W.nsIn K mainGlobals "bool" = some none)
    (z_int : PySem.W.nsIn K mainGlobals "int" = some none)
    (z_isinstance : PySem.W.nsIn K mainGlobals "isinstance" = some none)
    (z_len : PySem.W.nsIn K mainGlobals "len" = some none)
    (z_range : PySem.W.nsIn K mainGlobals "range" = some none)
    {tFIGURES_1 : Tok} (aFIGURES_ : PySem.W.nsIn K mainGlobals "FIGURES" = some (some (.str "0123456789" tFIGURES_1)))
    {tLETTERS_1 : Tok} (aLETTERS_ : PySem.W.nsIn K mainGlobals "LETTERS" = some (some (.str "abcdefghijklmnopqrstuvwxyz" tLETTERS_1)))
    {tRESERVED_2 : Tok} {tRESERVED_3 : Tok} {tRESERVED_4 : Tok} {tRESERVED_5 : Tok} {tRESERVED_6 : Tok} {tRESERVED_7 : Tok} {tRESERVED_8 : Tok} {tRESERVED_9 : Tok} {tRESERVED_10 : Tok} {tRESERVED_11 : Tok} {tRESERVED_12 : Tok} {tRESERVED_13 : Tok} {tRESERVED_14 : Tok} {tRESERVED_15 : Tok} {tRESERVED_16 : Tok} {tRESERVED_17 : Tok} {tRESERVED_18 : Tok} {tRESERVED_19 : Tok} {tRESERVED_20 : Tok} {tRESERVED_21 : Tok} {tRESERVED_22 : Tok} {tRESERVED_23 : Tok} {tRESERVED_24 : Tok} {tRESERVED_25 : Tok} {tRESERVED_26 : Tok} {tRESERVED_27 : Tok} {tRESERVED_28 : Tok} {tRESERVED_29 : Tok} {tRESERVED_30 : Tok} {tRESERVED_31 : Tok} {tRESERVED_32 : Tok} {tRESERVED_33 : Tok} {tRESERVED_34 : Tok} {tRESERVED_35 : Tok} {tRESERVED_36 : Tok} {tRESERVED_37 : Tok} {rRESERVED_1 : Addr} {oRESERVED_1 : Option Addr} {nRESERVED_1 : Nat} {sRESERVED_1 : Array (Option Value)} (lRESERVED_1 : K.lookup rRESERVED_1 = some ⟨.type "tuple", oRESERVED_1, .seq #[(.str "model" tRESERVED_2), (.str "streams" tRESERVED_3), (.str "resource" tRESERVED_4), (.str "store" tRESERVED_5), (.str "belt" tRESERVED_6), (.str "counter" tRESERVED_7), (.str "process" tRESERVED_8), (.str "plan" tRESERVED_9), (.str "for" tRESERVED_10), (.str "of" tRESERVED_11), (.str "length" tRESERVED_12), (.str "room" tRESERVED_13), (.str "at" tRESERVED_14), (.str "cycle" tRESERVED_15), (.str "hold" tRESERVED_16), (.str "mark" tRESERVED_17), (.str "add" tRESERVED_18), (.str "drop" tRESERVED_19), (.str "put" tRESERVED_20), (.str "take" tRESERVED_21), (.str "load" tRESERVED_22), (.str "unload" tRESERVED_23), (.str "interrupt" tRESERVED_24), (.str "stop" tRESERVED_25), (.str "end" tRESERVED_26), (.str "draw" tRESERVED_27), (.str "use" tRESERVED_28), (.str "rank" tRESERVED_29), (.str "patience" tRESERVED_30), (.str "else" tRESERVED_31), (.str "if" tRESERVED_32), (.str "free" tRESERVED_33), (.str "queue" tRESERVED_34), (.str "loop" tRESERVED_35), (.str "guard" tRESERVED_36), (.str "handle" tRESERVED_37)] nRESERVED_1, sRESERVED_1⟩) (aRESERVED_ : PySem.W.nsIn K mainGlobals "RESERVED" = some (some (.ref rRESERVED_1)))
    : ∃ fd : FuncData, (∀ (s : Shared) (v : Value), BindsTo s fd ⟨[v], []⟩ [("script", v)]) ∧ ∀ base : Heap, K.In base → base.Ns mainGlobals mg → FnOk l.prog w K mg base CX0 6 fa fd ["script"] (Prm K 1 m_law) := by
  have e := hfa.symm.trans (PySem.W.mg_of X G a_law)
  cases e
  have F_is_name := fun_mk (st := s_is_name) l_is_name e_is_name p_is_name
  have T_is_name : Tp K mg "is_name" s_is_name := ⟨_, _, F_is_name, PySem.W.mg_of X G a_is_name⟩
  have F__law_begin := fun_mk (st := s__law_begin) l__law_begin e__law_begin p__law_begin
  have T__law_begin : Tp K mg "_law_begin" s__law_begin := ⟨_, _, F__law_begin, PySem.W.mg_of X G a__law_begin⟩
  have F__law_draw := fun_mk (st := s__law_draw) l__law_draw e__law_draw p__law_draw
  have T__law_draw : Tp K mg "_law_draw" s__law_draw := ⟨_, _, F__law_draw, PySem.W.mg_of X G a__law_draw⟩
  have F__law_reserved := fun_mk (st := s__law_reserved) l__law_reserved e__law_reserved p__law_reserved
  have T__law_reserved : Tp K mg "_law_reserved" s__law_reserved := ⟨_, _, F__law_reserved, PySem.W.mg_of X G a__law_reserved⟩
  have F__law_signs := fun_mk (st := s__law_signs) l__law_signs e__law_signs p__law_signs
  have T__law_signs : Tp K mg "_law_signs" s__law_signs := ⟨_, _, F__law_signs, PySem.W.mg_of X G a__law_signs⟩
  have F__law_pick := fun_mk (st := s__law_pick) l__law_pick e__law_pick p__law_pick
  have T__law_pick : Tp K mg "_law_pick" s__law_pick := ⟨_, _, F__law_pick, PySem.W.mg_of X G a__law_pick⟩
  have F__law_is_name := fun_mk (st := s__law_is_name) l__law_is_name e__law_is_name p__law_is_name
  have T__law_is_name : Tp K mg "_law_is_name" s__law_is_name := ⟨_, _, F__law_is_name, PySem.W.mg_of X G a__law_is_name⟩
  have F__law_raw := fun_mk (st := s__law_raw) l__law_raw e__law_raw p__law_raw
  have T__law_raw : Tp K mg "_law_raw" s__law_raw := ⟨_, _, F__law_raw, PySem.W.mg_of X G a__law_raw⟩
  have F__law_plain_word := fun_mk (st := s__law_plain_word) l__law_plain_word e__law_plain_word p__law_plain_word
  have T__law_plain_word : Tp K mg "_law_plain_word" s__law_plain_word := ⟨_, _, F__law_plain_word, PySem.W.mg_of X G a__law_plain_word⟩
  have F__law_bent := fun_mk (st := s__law_bent) l__law_bent e__law_bent p__law_bent
  have T__law_bent : Tp K mg "_law_bent" s__law_bent := ⟨_, _, F__law_bent, PySem.W.mg_of X G a__law_bent⟩
  have F__law_strings := fun_mk (st := s__law_strings) l__law_strings e__law_strings p__law_strings
  have T__law_strings : Tp K mg "_law_strings" s__law_strings := ⟨_, _, F__law_strings, PySem.W.mg_of X G a__law_strings⟩
  have F_law := fun_mk (st := s_law) l_law e_law p_law
  have T_law : Tp K mg "law" s_law := ⟨_, _, F_law, PySem.W.mg_of X G a_law⟩
  have y_abs := PySem.W.mg_none_of X G z_abs
  have y_all := PySem.W.mg_none_of X G z_all
  have y_bool := PySem.W.mg_none_of X G z_bool
  have y_int := PySem.W.mg_none_of X G z_int
  have y_isinstance := PySem.W.mg_none_of X G z_isinstance
  have y_len := PySem.W.mg_none_of X G z_len
  have y_range := PySem.W.mg_none_of X G z_range
  have x_FIGURES : Kc K mg "FIGURES" k_FIGURES := ⟨⟨(.str "0123456789"), _, PySem.W.mg_of X G aFIGURES_, ⟨_, rfl⟩, fun _ => rfl⟩⟩
  have x_LETTERS : Kc K mg "LETTERS" k_LETTERS := ⟨⟨(.str "abcdefghijklmnopqrstuvwxyz"), _, PySem.W.mg_of X G aLETTERS_, ⟨_, rfl⟩, fun _ => rfl⟩⟩
  have x_RESERVED : Kc K mg "RESERVED" k_RESERVED := ⟨⟨(.ref rRESERVED_1), _, PySem.W.mg_of X G aRESERVED_, rfl, fun _ => ⟨_, _, rfl, SqT.kt (xs := (List.cons (α := V) (.str "model") (List.cons (α := V) (.str "streams") (List.cons (α := V) (.str "resource") (List.cons (α := V) (.str "store") (List.cons (α := V) (.str "belt") (List.cons (α := V) (.str "counter") (List.cons (α := V) (.str "process") (List.cons (α := V) (.str "plan") (List.cons (α := V) (.str "for") (List.cons (α := V) (.str "of") (List.cons (α := V) (.str "length") (List.cons (α := V) (.str "room") (List.cons (α := V) (.str "at") (List.cons (α := V) (.str "cycle") (List.cons (α := V) (.str "hold") (List.cons (α := V) (.str "mark") (List.cons (α := V) (.str "add") (List.cons (α := V) (.str "drop") (List.cons (α := V) (.str "put") (List.cons (α := V) (.str "take") (List.cons (α := V) (.str "load") (List.cons (α := V) (.str "unload") (List.cons (α := V) (.str "interrupt") (List.cons (α := V) (.str "stop") (List.cons (α := V) (.str "end") (List.cons (α := V) (.str "draw") (List.cons (α := V) (.str "use") (List.cons (α := V) (.str "rank") (List.cons (α := V) (.str "patience") (List.cons (α := V) (.str "else") (List.cons (α := V) (.str "if") (List.cons (α := V) (.str "free") (List.cons (α := V) (.str "queue") (List.cons (α := V) (.str "loop") (List.cons (α := V) (.str "guard") (List.cons (α := V) (.str "handle") []))))))))))))))))))))))))))))))))))))) lRESERVED_1 (by show 36 ≤ sizeLine; decide) (.cons ⟨_, rfl⟩ (.cons ⟨_, rfl⟩ (.cons ⟨_, rfl⟩ (.cons ⟨_, rfl⟩ (.cons ⟨_, rfl⟩ (.cons ⟨_, rfl⟩ (.cons ⟨_, rfl⟩ (.cons ⟨_, rfl⟩ (.cons ⟨_, rfl⟩ (.cons ⟨_, rfl⟩ (.cons ⟨_, rfl⟩ (.cons ⟨_, rfl⟩ (.cons ⟨_, rfl⟩ (.cons ⟨_, rfl⟩ (.cons ⟨_, rfl⟩ (.cons ⟨_, rfl⟩ (.cons ⟨_, rfl⟩ (.cons ⟨_, rfl⟩ (.cons ⟨_, rfl⟩ (.cons ⟨_, rfl⟩ (.cons ⟨_, rfl⟩ (.cons ⟨_, rfl⟩ (.cons ⟨_, rfl⟩ (.cons ⟨_, rfl⟩ (.cons ⟨_, rfl⟩ (.cons ⟨_, rfl⟩ (.cons ⟨_, rfl⟩ (.cons ⟨_, rfl⟩ (.cons ⟨_, rfl⟩ (.cons ⟨_, rfl⟩ (.cons ⟨_, rfl⟩ (.cons ⟨_, rfl⟩ (.cons ⟨_, rfl⟩ (.cons ⟨_, rfl⟩ (.cons ⟨_, rfl⟩ (.cons ⟨_, rfl⟩ .nil)))))))))))))))))))))))))))))))))))), ⟨_, _, rfl, rfl, ⟨_, _, rfl, rfl, ⟨_, _, rfl, rfl, ⟨_, _, rfl, rfl, ⟨_, _, rfl, rfl, ⟨_, _, rfl, rfl, ⟨_, _, rfl, rfl, ⟨_, _, rfl, rfl, ⟨_, _, rfl, rfl, ⟨_, _, rfl, rfl, ⟨_, _, rfl, rfl, ⟨_, _, rfl, rfl, ⟨_, _, rfl, rfl, ⟨_, _, rfl, rfl, ⟨_, _, rfl, rfl, ⟨_, _, rfl, rfl, ⟨_, _, rfl, rfl, ⟨_, _, rfl, rfl, ⟨_, _, rfl, rfl, ⟨_, _, rfl, rfl, ⟨_, _, rfl, rfl, ⟨_, _, rfl, rfl, ⟨_, _, rfl, rfl, ⟨_, _, rfl, rfl, ⟨_, _, rfl, rfl, ⟨_, _, rfl, rfl, ⟨_, _, rfl, rfl, ⟨_, _, rfl, rfl, ⟨_, _, rfl, rfl, ⟨_, _, rfl, rfl, ⟨_, _, rfl, rfl, ⟨_, _, rfl, rfl, ⟨_, _, rfl, rfl, ⟨_, _, rfl, rfl, ⟨_, _, rfl, rfl, ⟨_, _, rfl, rfl, rfl⟩⟩⟩⟩⟩⟩⟩⟩⟩⟩⟩⟩⟩⟩⟩⟩⟩⟩⟩⟩⟩⟩⟩⟩⟩⟩⟩⟩⟩⟩⟩⟩⟩⟩⟩⟩⟩⟩⟩
  refine ⟨PySem.W.fnOf "law" "law" (defArgs s_law) (defBody s_law) (defScope s_law) .none kV_law dc_law pm_law an_law cd_law ct_law, fun s v => .of_eq rfl, fun base _ _ => ?_⟩
  have D_is_name : Df l.prog w K mg base 1 "is_name" 1 m_is_name := df_is_name T_is_name y_all y_len x_FIGURES x_LETTERS x_RESERVED
  have D__law_begin : Df l.prog w K mg base 1 "_law_begin" 1 m__law_begin := df__law_begin T__law_begin y_int
  have D__law_draw : Df l.prog w K mg base 1 "_law_draw" 2 m__law_draw := df__law_draw T__law_draw y_abs y_int y_len
  have D__law_reserved : Df l.prog w K mg base 1 "_law_reserved" 0 m__law_reserved := df__law_reserved T__law_reserved 
  have D__law_signs : Df l.prog w K mg base 1 "_law_signs" 0 m__law_signs := df__law_signs T__law_signs 
  have D__law_pick : Df l.prog w K mg base 2 "_law_pick" 2 m__law_pick := df__law_pick T__law_pick y_len D__law_draw
  have D__law_is_name : Df l.prog w K mg base 2 "_law_is_name" 1 m__law_is_name := df__law_is_name T__law_is_name y_len D__law_reserved
  have D__law_raw : Df l.prog w K mg base 3 "_law_raw" 2 m__law_raw := df__law_raw T__law_raw y_range D__law_signs D__law_pick
  have D__law_plain_word : Df l.prog w K mg base 3 "_law_plain_word" 2 m__law_plain_word := df__law_plain_word T__law_plain_word y_range D__law_pick
  have D__law_bent : Df l.prog w K mg base 4 "_law_bent" 2 m__law_bent := df__law_bent T__law_bent y_len D__law_draw D__law_raw
  have D__law_strings : Df l.prog w K mg base 5 "_law_strings" 1 m__law_strings := df__law_strings T__law_strings D__law_draw D__law_reserved D__law_pick D__law_raw D__law_plain_word D__law_bent
  exact df_law F_law y_bool y_isinstance D_is_name D__law_begin D__law_is_name D__law_strings
end K05
open PySem PySem.W PyProof.Rows
set_option maxHeartbeats 0 in
theorem PySem.Challenge.cw_meantrace_k05_names_holds : PySem.Challenge.rw_meantrace_k05_names.Holds := by
  w_on; o_law; k_head; (case hw => w_witness2)
  k_fill
  refine L2.walk_of (l := PySem.Challenge.rw_meantrace_k05_names) (n := 63) (k := 6) (x := "script") (CX := fun _ => L2.CX0) (sp := fun w => Fx.Prm _ 1 K05.m_law) rfl (by decide) rfl ⟨rfl, by decide, by decide⟩ (fun w h Y => PySem.W.kIn_of Y) ?F (fun w H a ns hl ho hS => Fx.law_end (K05.law_true ns hl) hS) (fun _ _ _ _ _ h => h)
  case F =>
    intro w mg fa h KX G hmg
    refine' K05.all_mk KX G hmg ?a_is_name ?l_is_name ?e_is_name ?p_is_name ?a__law_begin ?l__law_begin ?e__law_begin ?p__law_begin ?a__law_draw ?l__law_draw ?e__law_draw ?p__law_draw ?a__law_reserved ?l__law_reserved ?e__law_reserved ?p__law_reserved ?a__law_signs ?l__law_signs ?e__law_signs ?p__law_signs ?a__law_pick ?l__law_pick ?e__law_pick ?p__law_pick ?a__law_is_name ?l__law_is_name ?e__law_is_name ?p__law_is_name ?a__law_raw ?l__law_raw ?e__law_raw ?p__law_raw ?a__law_plain_word ?l__law_plain_word ?e__law_plain_word ?p__law_plain_word ?a__law_bent ?l__law_bent ?e__law_bent ?p__law_bent ?a__law_strings ?l__law_strings ?e__law_strings ?p__law_strings ?a_law ?l_law ?e_law ?p_law ?z_abs ?z_all ?z_bool ?z_int ?z_isinstance ?z_len ?z_range ?aFIGURES_ ?aLETTERS_ ?lRESERVED_1 ?aRESERVED_
    (case a_is_name => k_is); (case l_is_name => k_is); (case e_is_name => k_is); (case p_is_name => k_is); (case a__law_begin => k_is); (case l__law_begin => k_is); (case e__law_begin => k_is); (case p__law_begin => k_is); (case a__law_draw => k_is); (case l__law_draw => k_is); (case e__law_draw => k_is); (case p__law_draw => k_is); (case a__law_reserved => k_is); (case l__law_reserved => k_is); (case e__law_reserved => k_is); (case p__law_reserved => k_is); (case a__law_signs => k_is); (case l__law_signs => k_is); (case e__law_signs => k_is); (case p__law_signs => k_is); (case a__law_pick => k_is); (case l__law_pick => k_is); (case e__law_pick => k_is); (case p__law_pick => k_is); (case a__law_is_name => k_is); (case l__law_is_name => k_is); (case e__law_is_name => k_is); (case p__law_is_name => k_is); (case a__law_raw => k_is); (case l__law_raw => k_is); (case e__law_raw => k_is); (case p__law_raw => k_is); (case a__law_plain_word => k_is); (case l__law_plain_word => k_is); (case e__law_plain_word => k_is); (case p__law_plain_word => k_is); (case a__law_bent => k_is); (case l__law_bent => k_is); (case e__law_bent => k_is); (case p__law_bent => k_is); (case a__law_strings => k_is); (case l__law_strings => k_is); (case e__law_strings => k_is); (case p__law_strings => k_is); (case a_law => k_is); (case l_law => k_is); (case e_law => k_is); (case p_law => k_is); (case z_abs => k_is); (case z_all => k_is); (case z_bool => k_is); (case z_int => k_is); (case z_isinstance => k_is); (case z_len => k_is); (case z_range => k_is); (case aRESERVED_ => k_is); (case lRESERVED_1 => k_is); (case aLETTERS_ => k_is); (case aFIGURES_ => k_is)
