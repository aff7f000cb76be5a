import PyProof.Rows.All
import HandS.ForMost
import HandS.Wide
import KE.LtData
import HandS.ForExc
import HandS.Iter
import KE.DataCmp
import KE.SortData
import KE.KDictSum
import KE.DataMinMax
import KE.GoesNew
import KE.GoesMore
import HandS.TupAny
import HandS.TupMul
import HandS.Deep
import HandS.IsInst
import HandS.TupLen
import HandS.Zip
import HandS.SortInts
import HandS.More
import HandS.Conv
import HandS.Text
import HandS.Style
import HandS.Replace
import HandS.ExcValue
import PyProof.EqAt
import PyProof.P3In
import HandS.RaiseMore
import HandS.DictComp
import PySem.Challenge.RW_meantrace_k75_claims_judged
set_option Elab.async false
set_option autoImplicit false
set_option linter.all false
set_option maxRecDepth 100000
/-! Fx: dicts whose keys are tuples of ints, texts and such tuples -/
namespace Fx
open PySem PySem.Spec PyProof.Rows L2
/-- the world of the run -/
class Wd where
  w : World
mutual
noncomputable def hashD (w : World) : PyData → Int
  | .int i => hashInt i
  | .str s => hashStr w s
  | .tuple xs => reduceHash (Builtin.Tuple.tupleHashOf (hashDs w xs))
  | _ => 0
noncomputable def hashDs (w : World) : List PyData → List Int
  | [] => []
  | x :: xs => hashD w x :: hashDs w xs
end
mutual
/-- a key, at most so deep -/
def keyOk : Nat → PyData → Bool
  | _, .int _ => true
  | _, .str s => PyData.strOk s
  | 0, .tuple _ => false
  | n + 1, .tuple xs => keyOks n xs
  | _, _ => false
def keyOks : Nat → List PyData → Bool
  | _, [] => true
  | n, x :: xs => keyOk n x && keyOks n xs
end
mutual
def drawsD : PyData → Nat
  | .tuple xs => drawsDs xs + 1
  | _ => 1
def drawsDs : List PyData → Nat
  | [] => 0
  | x :: xs => drawsD x + drawsDs xs
end
section
variable {prog : Program} {w : World}
theorem hashDs_app (w : World) : ∀ xs ys : List PyData, hashDs w (xs ++ ys) = hashDs w xs ++ hashDs w ys
  | [], _ => rfl
  | x :: xs, ys => by show hashD w x :: hashDs w (xs ++ ys) = _; rw [hashDs_app w xs ys]; rfl
theorem drawsDs_app : ∀ xs ys : List PyData, drawsDs (xs ++ ys) = drawsDs xs + drawsDs ys
  | [], _ => by simp [drawsDs]
  | x :: xs, ys => by show drawsD x + drawsDs (xs ++ ys) = drawsD x + drawsDs xs + _; rw [drawsDs_app xs ys]; omega
/-- what hashing a key gives -/
def HashAt (prog : Program) (w : World) (h : Heap) (n : Nat) (d : PyData) : Prop := ∀ (A : Around) (E : Value → Shared → Prop) (s : Shared) (v : Value) (as : List Addr) (Q : Int → Shared → Prop), s.heap = h → Reads h v d as → A.units + 4 * n < cLine → Q (hashD w d) { s with toks := s.toks + drawsD d } → wpAny (model prog w) A (pyHash v) Q E s
mutual
theorem hashD_ok (h : Heap) : ∀ (d : PyData) (n : Nat), keyOk n d = true → HashAt prog w h n d
  | .int i, n, hk => fun A E s v as Q e r hu q => by
    cases r
    exact wpAny_pyHash_int q
  | .str x, n, hk => fun A E s v as Q e r hu q => by
    cases r
    exact wpAny_pyHash_str q
  | .tuple xs, 0, hk => by cases hk
  | .tuple xs, n + 1, hk => fun A E s v as Q e r hu h => by
    subst e
    have all := hashAll_ok s.heap xs n hk
    cases r with
    | @tuple a o items nn _ _ ho hc hd hr =>
      have hT : s.TypeIs (.ref a) "tuple" := ⟨o, ho, hc⟩
      unfold pyHash
      first | unfold pyHashByItsType | skip
      first | refine wpAny_bind (wpAny_cRoomFor_or (.inr (by omega)) ?_) | skip
      refine wpAny_bind (wpAny_specialOf hT F.slot_tuple_hash.lookup ?_)
      show wpAny _ _ (if (some (Value.builtin "tuple.__hash__") == some Value.none) = true then _ else _) Q E s
      rw [if_neg (by rw [beq_builtin_none]; exact Bool.false_ne_true)]
      refine wpAny_bind (wpAny_specialOf hT F.slot_tuple_hash.lookup ?_)
      show wpAny _ _ (callSpecialIfBoundUnlessNone? (.ref a) "__hash__" _ >>= _) Q E s
      refine wpAny_bind (wpAny_callSpecialIfBoundUnlessNone?_slot hT F.slot_tuple_hash (wpAny_call_entry F.slot_tuple_hash hT F.entry_tuple_hash ?_ (F.args_tuple_hash_1 _)))
      show wpAny _ _ (Builtin.Tuple.tupleItemsOf (.ref a) >>= _) _ _ s
      refine wpAny_bind (wpAny_tupleItemsOf ho hd ?_)
      refine wpAny_bind ?_
      rw [← Array.forIn_toList]
      refine wpAny_forIn_list _
        (fun rest (b : Array Int) s' => ∃ done left bs, xs = done ++ left ∧ ReadsAll s.heap rest left bs ∧ b.toList = hashDs w done ∧ s' = { s with toks := s.toks + drawsDs done })
        _ ?_ ?_ _ _ ⟨[], xs, _, rfl, hr, rfl, rfl⟩
      · rintro x rest b s' ⟨done, left, bs, rfl, hl, hb, rfl⟩
        cases hl with
        | @cons _ _ d ds as1 bs1 h1 h2 =>
          refine wpAny_bind (all d (List.mem_append_right _ List.mem_cons_self) A.in1 E _ x as1 _ rfl h1 (by rw [Around.in1_units]; omega) ?_)
          refine wpAny_pure ⟨done ++ [d], ds, _, by simp, h2, ?_, ?_⟩
          · rw [Array.toList_push, hb, hashDs_app]; rfl
          · rw [drawsDs_app]
            show _ = { s with toks := s.toks + (drawsDs done + (drawsD d + 0)) }
            simp [Nat.add_assoc]
      · rintro b s' ⟨done, left, bs, hx, hl, hb, rfl⟩
        cases hl
        rw [List.append_nil] at hx
        subst hx
        show wpAny _ _ (retInt (Builtin.Tuple.tupleHashOf b.toList)) _ _ _
        rw [hb]
        refine wpAny_ret_mkInt ?_
        show wpAny _ _ (if (decide (-(2 : Int) ^ 63 ≤ Builtin.Tuple.tupleHashOf (hashDs w xs)) && decide (Builtin.Tuple.tupleHashOf (hashDs w xs) < 2 ^ 63)) = true then _ else _) Q E _
        have h' : Q (reduceHash (Builtin.Tuple.tupleHashOf (hashDs w xs))) { s with toks := s.toks + (drawsDs xs + 1) } := h
        unfold reduceHash at h'
        by_cases hr : (decide (-(2 : Int) ^ 63 ≤ Builtin.Tuple.tupleHashOf (hashDs w xs)) && decide (Builtin.Tuple.tupleHashOf (hashDs w xs) < 2 ^ 63)) = true
        · rw [if_pos hr]
          rw [if_pos hr] at h'
          exact wpAny_pure (by simpa [Nat.add_assoc] using h')
        · rw [if_neg hr]
          rw [if_neg hr] at h'
          exact wpAny_bind (wpAny_rule (wpAny_pure (by simpa [Nat.add_assoc] using h')))
  | .none, n, hk => by unfold keyOk at hk; cases hk
  | .bool _, n, hk => by unfold keyOk at hk; cases hk
  | .list _, n, hk => by unfold keyOk at hk; cases hk
  | .dict _, n, hk => by unfold keyOk at hk; cases hk
theorem hashAll_ok (h : Heap) : ∀ (xs : List PyData) (n : Nat), keyOks n xs = true → ∀ d ∈ xs, HashAt prog w h n d
  | [], _, _, _, hd => by cases hd
  | x :: xs, n, hk, d, hd => by
    have hk : (keyOk n x && keyOks n xs) = true := hk
    rw [Bool.and_eq_true] at hk
    rcases List.mem_cons.mp hd with e | hd
    · rw [e]; exact hashD_ok h x n hk.1
    · exact hashAll_ok h xs n hk.2 d hd
end
mutual
theorem keyLay : ∀ (n : Nat) (d : PyData), keyOk n d = true → d.canLay0 = true ∧ d.depth ≤ n
  | n, .int _, _ => ⟨rfl, Nat.zero_le _⟩
  | n, .str s, h => ⟨by
    have h : PyData.strOk s = true := by unfold keyOk at h; exact h
    show PyData.strOk s = true
    exact h, Nat.zero_le _⟩
  | 0, .tuple xs, h => by cases h
  | n + 1, .tuple xs, h => by
    obtain ⟨h1, h2⟩ := keyLays n xs h
    exact ⟨h1, Nat.succ_le_succ h2⟩
  | n, .none, h => by unfold keyOk at h; cases h
  | n, .bool _, h => by unfold keyOk at h; cases h
  | n, .list _, h => by unfold keyOk at h; cases h
  | n, .dict _, h => by unfold keyOk at h; cases h
theorem keyLays : ∀ (n : Nat) (xs : List PyData), keyOks n xs = true → PyData.canLayAll0 xs = true ∧ PyData.depthAll xs ≤ n
  | n, [], _ => ⟨rfl, Nat.zero_le _⟩
  | n, x :: xs, h => by
    have h : (keyOk n x && keyOks n xs) = true := h
    rw [Bool.and_eq_true] at h
    obtain ⟨a1, a2⟩ := keyLay n x h.1
    obtain ⟨b1, b2⟩ := keyLays n xs h.2
    exact ⟨by show (PyData.canLay0 x && PyData.canLayAll0 xs) = true; rw [a1, b1]; rfl, Nat.max_le.mpr ⟨a2, b2⟩⟩
end
mutual
theorem keyEqv : ∀ (n m : Nat) (x y : PyData), keyOk n x = true → keyOk m y = true → (PyData.eqv x y = true ↔ x = y)
  | n, m, .int i, y, _, hy => by cases y <;> first | (simp [PyData.eqv]; done) | (exfalso; unfold keyOk at hy; cases hy)
  | n, m, .str s, y, _, hy => by cases y <;> first | (simp [PyData.eqv]; done) | (exfalso; unfold keyOk at hy; cases hy)
  | 0, m, .tuple xs, y, h, _ => by cases h
  | n + 1, m, .tuple xs, y, h, hy => by
    cases y with
    | tuple ys =>
      cases m with
      | zero => cases hy
      | succ m =>
        have := keyEqvs n m xs ys h hy
        simp only [PyData.eqv]
        rw [this]
        simp
    | int _ => simp [PyData.eqv]
    | str _ => simp [PyData.eqv]
    | _ => (exfalso; unfold keyOk at hy; cases hy)
  | n, m, .none, y, h, _ => by unfold keyOk at h; cases h
  | n, m, .bool _, y, h, _ => by unfold keyOk at h; cases h
  | n, m, .list _, y, h, _ => by unfold keyOk at h; cases h
  | n, m, .dict _, y, h, _ => by unfold keyOk at h; cases h
theorem keyEqvs : ∀ (n m : Nat) (xs ys : List PyData), keyOks n xs = true → keyOks m ys = true → (PyData.eqvAll xs ys = true ↔ xs = ys)
  | n, m, [], ys, _, _ => by cases ys <;> simp [PyData.eqvAll]
  | n, m, x :: xs, [], _, _ => by simp [PyData.eqvAll]
  | n, m, x :: xs, y :: ys, hx, hy => by
    have hx : (keyOk n x && keyOks n xs) = true := hx
    have hy : (keyOk m y && keyOks m ys) = true := hy
    rw [Bool.and_eq_true] at hx hy
    simp only [PyData.eqvAll]
    rw [Bool.and_eq_true, keyEqv n m x y hx.1 hy.1, keyEqvs n m xs ys hx.2 hy.2]
    simp
end
mutual
theorem keyInj {h : Heap} : ∀ (n m : Nat) (x y : PyData) (v : Value) (as bs : List Addr), keyOk n x = true → keyOk m y = true → Reads h v x as → Reads h v y bs → x = y
  | n, m, .int i, y, v, as, bs, _, hy, r1, r2 => by cases r1; cases r2; rfl
  | n, m, .str i, y, v, as, bs, _, hy, r1, r2 => by cases r1; cases r2; rfl
  | 0, m, .tuple xs, y, v, as, bs, h, _, _, _ => by cases h
  | n + 1, m, .tuple xs, y, v, as, bs, hx, hy, r1, r2 => by
    cases r1 with
    | tuple h1 h2 h3 h4 =>
      cases r2 with
      | tuple g1 g2 g3 g4 =>
        rw [h1] at g1; cases g1
        rw [h3] at g3; cases g3
        cases m with
        | zero => cases hy
        | succ m => rw [keyInjs n m _ _ _ _ _ hx hy h4 g4]
      | list g1 g2 g3 g4 => unfold keyOk at hy; cases hy
      | dict g1 g2 g3 g4 g5 => unfold keyOk at hy; cases hy
  | n, m, .none, y, _, _, _, h, _, _, _ => by unfold keyOk at h; cases h
  | n, m, .bool _, y, _, _, _, h, _, _, _ => by unfold keyOk at h; cases h
  | n, m, .list _, y, _, _, _, h, _, _, _ => by unfold keyOk at h; cases h
  | n, m, .dict _, y, _, _, _, h, _, _, _ => by unfold keyOk at h; cases h
theorem keyInjs {h : Heap} : ∀ (n m : Nat) (xs ys : List PyData) (vs : List Value) (as bs : List Addr), keyOks n xs = true → keyOks m ys = true → ReadsAll h vs xs as → ReadsAll h vs ys bs → xs = ys
  | n, m, [], ys, vs, as, bs, _, _, r1, r2 => by cases r1; cases r2; rfl
  | n, m, x :: xs, ys, vs, as, bs, hx, hy, r1, r2 => by
    have hx : (keyOk n x && keyOks n xs) = true := hx
    rw [Bool.and_eq_true] at hx
    cases r1 with
    | cons a1 a2 =>
      cases r2 with
      | @cons _ _ y ys _ _ b1 b2 =>
        have hy : (keyOk m y && keyOks m ys) = true := hy
        rw [Bool.and_eq_true] at hy
        rw [keyInj n m _ _ _ _ _ hx.1 hy.1 a1 b1, keyInjs n m _ _ _ _ _ hx.2 hy.2 a2 b2]
end
mutual
theorem keyKeep {h h' : Heap} {a : Addr} {o : Obj} {es : Array DictEntry} {ep : Nat} (ho : h.get? a = some o) (hd : o.data = .dict es ep) (hs : Heap.SameBut a h h') : ∀ (n : Nat) (x : PyData) (v : Value) (as : List Addr), keyOk n x = true → Reads h v x as → Reads h' v x as
  | n, .int i, v, as, _, r => by cases r; exact .int _ _
  | n, .str i, v, as, _, r => by cases r; exact .str _ _
  | 0, .tuple xs, v, as, h, _ => by cases h
  | n + 1, .tuple xs, v, as, hx, r => by
    cases r with
    | @tuple b o' vs nn _ _ h1 h2 h3 h4 =>
      have hne : b ≠ a := by
        rintro rfl
        rw [h1] at ho; cases ho
        rw [h3] at hd; exact nomatch hd
      exact .tuple ((hs.2 b hne).trans h1) h2 h3 (keyKeeps ho hd hs n _ _ _ hx h4)
  | n, .none, _, _, h, _ => by unfold keyOk at h; cases h
  | n, .bool _, _, _, h, _ => by unfold keyOk at h; cases h
  | n, .list _, _, _, h, _ => by unfold keyOk at h; cases h
  | n, .dict _, _, _, h, _ => by unfold keyOk at h; cases h
theorem keyKeeps {h h' : Heap} {a : Addr} {o : Obj} {es : Array DictEntry} {ep : Nat} (ho : h.get? a = some o) (hd : o.data = .dict es ep) (hs : Heap.SameBut a h h') : ∀ (n : Nat) (xs : List PyData) (vs : List Value) (as : List Addr), keyOks n xs = true → ReadsAll h vs xs as → ReadsAll h' vs xs as
  | n, [], vs, as, _, r => by cases r; exact .nil
  | n, x :: xs, vs, as, hx, r => by
    have hx : (keyOk n x && keyOks n xs) = true := hx
    rw [Bool.and_eq_true] at hx
    cases r with
    | cons a1 a2 => exact .cons (keyKeep ho hd hs n _ _ _ hx.1 a1) (keyKeeps ho hd hs n _ _ _ hx.2 a2)
end
mutual
theorem keyQuiet : ∀ (x : PyData) (n k : Nat) (A : Around) (E : Value → Shared → Prop) (s : Shared) (v : Value) (as : List Addr) (Q : Bool → Shared → Prop), n ≤ k → keyOk n x = true → Reads s.heap v x as → Q true s → wpAny (model prog w) A (eqIsQuiet k v) Q E s
  | .int i, n, k, A, E, s, v, as, Q, _, _, r, q => by cases r; rw [eqIsQuiet_byValue _ rfl]; exact wpAny_pure q
  | .str i, n, k, A, E, s, v, as, Q, _, _, r, q => by cases r; rw [eqIsQuiet_byValue _ rfl]; exact wpAny_pure q
  | .tuple xs, 0, k, A, E, s, v, as, Q, _, h, _, _ => by cases h
  | .tuple xs, n + 1, 0, A, E, s, v, as, Q, hl, _, _, _ => by omega
  | .tuple xs, n + 1, k + 1, A, E, s, v, as, Q, hl, hk, r, h => by
    have all := keyQuiets (A := A) (E := E) xs n k s (by omega) hk
    cases r with
    | @tuple a o items nn _ _ ho hc hd hr =>
      have hT : s.TypeIs (.ref a) "tuple" := ⟨o, ho, hc⟩
      unfold eqIsQuiet
      refine wpAny_bind (wpAny_specialOf hT F.slot_tuple_eq.lookup ?_)
      show wpAny _ _ (isInstance (.ref a) (.type "tuple") >>= _) _ _ s
      refine wpAny_bind (wpAny_isInstance hT isSubtype_tuple_tuple ?_)
      simp only [Bool.not_true, Bool.false_eq_true, if_false]
      refine wpAny_bind (wpAny_seqItems ho hd ?_)
      refine wpAny_bind ?_
      show wpAny _ _ (forIn items _ _) _ _ s
      rw [← Array.forIn_toList]
      refine wpAny_forIn_list _ (fun rest r s' => r.1 = none ∧ s' = s ∧ ∃ left bs, ReadsAll s.heap rest left bs ∧ ∀ d ∈ left, d ∈ xs) _ ?_ ?_ _ _ ⟨rfl, rfl, xs, _, hr, fun _ h => h⟩
      · rintro v rest r s' ⟨hr, rfl, left, bs, hl', hm⟩
        cases hl' with
        | @cons _ _ d ds as1 bs1 h1 h2 =>
          refine wpAny_bind (all d (hm d List.mem_cons_self) v as1 _ h1 ?_)
          simp only [Bool.not_true, Bool.false_eq_true, if_false]
          exact wpAny_pure ⟨rfl, rfl, ds, _, h2, fun e he => hm e (List.mem_cons_of_mem _ he)⟩
      · rintro ⟨r1, r2⟩ s' ⟨hr0, rfl, _⟩
        have hr0 : r1 = none := hr0
        subst hr0
        exact wpAny_pure h
  | .none, n, k, _, _, _, _, _, _, _, h, _, _ => by unfold keyOk at h; cases h
  | .bool _, n, k, _, _, _, _, _, _, _, h, _, _ => by unfold keyOk at h; cases h
  | .list _, n, k, _, _, _, _, _, _, _, h, _, _ => by unfold keyOk at h; cases h
  | .dict _, n, k, _, _, _, _, _, _, _, h, _, _ => by unfold keyOk at h; cases h
theorem keyQuiets {A : Around} {E : Value → Shared → Prop} : ∀ (xs : List PyData) (n k : Nat) (s : Shared), n ≤ k → keyOks n xs = true → ∀ d ∈ xs, ∀ (v : Value) (as : List Addr) (Q : Bool → Shared → Prop), Reads s.heap v d as → Q true s → wpAny (model prog w) A (eqIsQuiet k v) Q E s
  | [], n, k, _, _, _, _, hd => by cases hd
  | x :: xs, n, k, s, hl, hk, d, hd => fun v as Q r q => by
    have hk : (keyOk n x && keyOks n xs) = true := hk
    rw [Bool.and_eq_true] at hk
    rcases List.mem_cons.mp hd with e | hd
    · rw [e] at r; exact keyQuiet x n k A E s v as Q hl hk.1 r q
    · exact keyQuiets xs n k s hl hk.2 d hd v as Q r q
end
end
/-- a key of a dict: a tuple, at most seven deep -/
def keyT : PyData → Bool
  | .tuple xs => keyOk 7 (.tuple xs)
  | _ => false
theorem keyT_ok {d : PyData} (h : keyT d = true) : keyOk 7 d = true ∧ ∃ xs, d = .tuple xs := by
  cases d with
  | tuple xs => exact ⟨h, xs, rfl⟩
  | _ => cases h
noncomputable instance : DecidableEq PyData := fun _ _ => Classical.propDecidable _
noncomputable def dataKey (prog : Program) (w : World) : HeapKind prog w PyData where
  is := fun h d a => keyT d = true ∧ ∃ as, Reads h (.ref a) d as
  hash := hashD w
  draws := drawsD
  room := fun A => A.units + 40 < cLine
  inj := fun hx hy => by
    obtain ⟨h1, as, r1⟩ := hx
    obtain ⟨h2, bs, r2⟩ := hy
    exact keyInj 7 7 _ _ _ _ _ (keyT_ok h1).1 (keyT_ok h2).1 r1 r2
  keeps := fun x ho hd hs => by
    obtain ⟨h1, as, r1⟩ := x
    exact ⟨h1, as, keyKeep ho hd hs 7 _ _ _ (keyT_ok h1).1 r1⟩
  pyHash := fun hu hk h => by
    obtain ⟨h1, as, r1⟩ := hk
    exact hashD_ok _ _ 7 (keyT_ok h1).1 _ _ _ _ as _ rfl r1 (by omega) h
  eqBool := fun {A E s x y a b Q} hu hx hy h => by
    obtain ⟨h1, as, r1⟩ := hx
    obtain ⟨h2, bs, r2⟩ := hy
    obtain ⟨l1, d1⟩ := keyLay _ _ (keyT_ok h1).1
    obtain ⟨l2, d2⟩ := keyLay _ _ (keyT_ok h2).1
    refine SeqAt.eqAt_reads x y A s (.ref a) (.ref b) as bs r1 r2 l1 l2 ?_ prog w E Q ?_
    · have := Nat.min_le_left x.depth y.depth
      omega
    · have : PyData.eqv x y = decide (x = y) := by
        rw [Bool.eq_iff_iff, keyEqv 7 7 x y (keyT_ok h1).1 (keyT_ok h2).1, decide_eq_true_iff]
      rw [this]
      exact h
  quiet := fun hk h => by
    obtain ⟨h1, as, r1⟩ := hk
    exact keyQuiet _ 7 8 _ _ _ _ as _ (by omega) (keyT_ok h1).1 r1 h
/-- a dict with such keys: key, its object, its value -/
def DictO [Wd] (a : Addr) (es : List (PyData × Addr × V)) : HO := .ext fun h => es.length ≤ sizeLine ∧ (a == sysModules) = false ∧ (es.map (·.1)).Nodup ∧ (∀ e ∈ es, keyT e.1 = true) ∧
  ∃ us : List Value, Vals (es.map (·.2.2)) us ∧ ∃ o ep arr, h.get? a = some o ∧ o.ExactDict ∧ o.data = .dict arr ep ∧ arr.toList = (es.zip us).map fun x => (⟨hashD Wd.w x.1.1, .ref x.1.2.1, x.2⟩ : DictEntry)
end Fx
/-! Fx: what a dict answers, whatever its keys -/
namespace Fx
open PySem PySem.Spec PyProof.Rows L2
/-- a's dict, asked for y, has o -/
structure DG (X : Cx) (H : Hp) (a : Addr) (y : V) (o : Option V) : Prop where
  ty : ∀ {pins : List (Addr × Obj)} {σ : L2.St} {s : Shared}, Inv X pins σ H s → s.TypeIs (.ref a) "dict"
  nd : ∀ {pins : List (Addr × Obj)} {σ : L2.St} {s : Shared}, Inv X pins σ H s → ∀ b, Value.ref a = .ref b → ∃ ob, s.heap.get? b = some ob ∧ ob.dict = none
  get : ∀ {pins : List (Addr × Obj)} {σ : L2.St} {s : Shared} {u : Value} {A : Around} {E : Value → Shared → Prop} {Q : Value → Shared → Prop} {v : V}, A.units + 45 < cLine → Inv X pins σ H s → RelV y u → o = some v →
    (∀ w' s', Inv X pins σ H s' → RelV v w' → Q w' s') → wpAny (model X.prog X.w) A (getItem (.ref a) u) Q E s
  isin : ∀ {pins : List (Addr × Obj)} {σ : L2.St} {s : Shared} {u : Value} {A : Around} {E : Value → Shared → Prop} {Q : Value → Shared → Prop}, A.units + 45 < cLine → Inv X pins σ H s → RelV y u →
    (∀ s', Inv X pins σ H s' → Q (.bool o.isSome) s') → wpAny (model X.prog X.w) A (compareOp .In u (.ref a)) Q E s
  noin : ∀ {pins : List (Addr × Obj)} {σ : L2.St} {s : Shared} {u : Value} {A : Around} {E : Value → Shared → Prop} {Q : Value → Shared → Prop}, A.units + 45 < cLine → Inv X pins σ H s → RelV y u →
    (∀ s', Inv X pins σ H s' → Q (.bool (!o.isSome)) s') → wpAny (model X.prog X.w) A (compareOp .NotIn u (.ref a)) Q E s
  get1 : ∀ {pins : List (Addr × Obj)} {σ : L2.St} {s : Shared} {u : Value} {A : Around} {E : Value → Shared → Prop} {Q : Value → Shared → Prop}, A.units + 45 < cLine → Inv X pins σ H s → RelV y u →
    (∀ w' s', Inv X pins σ H s' → RelV (o.getD .non) w' → Q w' s') → wpAny (model X.prog X.w) A (call (.builtin "dict.get") [.ref a, u]) Q E s
  get2 : ∀ {pins : List (Addr × Obj)} {σ : L2.St} {s : Shared} {u r : Value} {d : V} {A : Around} {E : Value → Shared → Prop} {Q : Value → Shared → Prop}, A.units + 45 < cLine → Inv X pins σ H s → RelV y u → RelV d r →
    (∀ w' s', Inv X pins σ H s' → RelV (o.getD d) w' → Q w' s') → wpAny (model X.prog X.w) A (call (.builtin "dict.get") [.ref a, u, r]) Q E s
/-- a's dict takes v at y: then the heap is H' -/
structure DP (X : Cx) (H : Hp) (a : Addr) (y v : V) (H' : Hp) : Prop where
  put : ∀ {pins : List (Addr × Obj)} {σ : L2.St} {s : Shared} {u r : Value} {A : Around} {E : Value → Shared → Prop} {Q : Unit → Shared → Prop}, A.units + 45 < cLine → Inv X pins σ H s → RelV y u → RelV v r → (∀ s', Inv X pins σ H' s' → Q () s') →
    wpAny (model X.prog X.w) A (setItem (.ref a) u r) Q E s
section
variable {X : Cx} {H H' : Hp} {a : Addr} {y v : V} {o : Option V}
theorem DG.lib (g : DGet H a y o) : DG X H a y o where
  ty := fun I => dict_typeIs I g
  nd := fun I => dict_noDict I g
  get := fun hu I ry e h => by subst e; exact d_getItem (by omega) I g ry h
  isin := fun hu I ry h => d_in (by omega) I g ry h
  noin := fun hu I ry h => d_notIn (by omega) I g ry h
  get1 := fun hu I ry h => d_get1 (by omega) I g ry h
  get2 := fun hu I ry rd h => d_get2 (by omega) I g ry rd h
theorem DP.lib (g : DPut H a y v H') : DP X H a y v H' := ⟨fun hu I ry rv h => d_setItem (by omega) I g ry rv h⟩
end
/-! ### nested keys -/
/-- the value at a key -/
def lookE (es : List (PyData × Addr × V)) (k : PyData) : Option V := (es.find? fun e => PyData.eqv e.1 k).map (·.2.2)
/-- the value v at the key k, whose object is b -/
def putE (es : List (PyData × Addr × V)) (k : PyData) (b : Addr) (v : V) : List (PyData × Addr × V) := if es.any (fun e => PyData.eqv e.1 k) then es.map fun e => if PyData.eqv e.1 k then (e.1, e.2.1, v) else e else es ++ [(k, b, v)]
def entsE (es : List (PyData × Addr × V)) (us : List Value) : List (PyData × Addr × Value) := (es.zip us).map fun x => (x.1.1, x.1.2.1, x.2)
section
variable {w : World}
theorem keyT_eqv {x y : PyData} (hx : keyT x = true) (hy : keyT y = true) : PyData.eqv x y = decide (x = y) := by
  rw [Bool.eq_iff_iff, keyEqv 7 7 x y (keyT_ok hx).1 (keyT_ok hy).1, decide_eq_true_iff]
theorem entsE_fst : ∀ {es : List (PyData × Addr × V)} {us : List Value}, Vals (es.map (·.2.2)) us → (entsE es us).map (·.1) = es.map (·.1)
  | [], _, r => by cases r; rfl
  | e :: es, _, r => by
    cases r with
    | cons r1 r2 => show e.1 :: (entsE es _).map (·.1) = _; rw [entsE_fst r2]; rfl
theorem entsE_at : ∀ {es : List (PyData × Addr × V)} {us : List Value} {k : PyData}, Vals (es.map (·.2.2)) us → (∀ e ∈ es, keyT e.1 = true) → keyT k = true → RelO (lookE es k) ((atKey (entsE es us) k).map (·.2))
  | [], _, _, r, _, _ => by cases r; exact trivial
  | e :: es, _, k, r, hk, hk' => by
    cases r with
    | @cons _ u _ us r1 r2 =>
      have ih := entsE_at (k := k) r2 (fun x hx => hk x (List.mem_cons_of_mem _ hx)) hk'
      unfold lookE atKey at ih ⊢
      show RelO ((List.find? _ (e :: es)).map _) (((List.find? (fun x => decide (x.1 = k)) ((e.1, e.2.1, u) :: entsE es us)).map (·.2)).map (·.2))
      rw [List.find?_cons, List.find?_cons, keyT_eqv (hk e List.mem_cons_self) hk']
      by_cases h : e.1 = k
      · rw [decide_eq_true h]; exact r1
      · rw [decide_eq_false h]; exact ih
end
section
variable [Wd] {X : Cx} {H H' : Hp} {a b : Addr} {y v : V} {k : PyData} {es : List (PyData × Addr × V)} {pins : List (Addr × Obj)} {σ : L2.St} {s : Shared}
theorem dict_of (hw : X.w = Wd.w) (I : Inv X pins σ H s) (e : Rd H a (DictO a es)) (hk : ∀ e ∈ es, Dp X.K H (.ref e.2.1) e.1) : es.length ≤ sizeLine ∧ (a == sysModules) = false ∧ (∀ e ∈ es, keyT e.1 = true) ∧
    ∃ us, Vals (es.map (·.2.2)) us ∧ s.heap.DictOfH (dataKey X.prog X.w) a (entsE es us) := by
  have ob : ObjOk X.prog X.w H s.heap a (DictO a es) := e.ok I.hok
  obtain ⟨⟨z, lo, nd, kt, us, rv, o, ep, arr, h1, h2, h3, h4⟩, _⟩ := ob
  refine ⟨z, lo, kt, us, rv, o, arr, ep, h1, h2, h3, ?_, fun x hx => ?_, by rw [entsE_fst rv]; exact nd⟩
  · rw [h4, entsE, List.map_map, hw]
    rfl
  · obtain ⟨⟨e', u⟩, hm, rfl⟩ := List.mem_map.mp hx
    have hm := (List.of_mem_zip hm).1
    obtain ⟨as, r⟩ := Dp.reads I e'.1 _ (.ref e'.2.1) (hk e' hm) rfl
    exact ⟨kt e' hm, as, r⟩
theorem key_at (I : Inv X pins σ H s) (hk : keyT k = true) (hd : Dp X.K H (.ref b) k) : (dataKey X.prog X.w).is s.heap k b := by
  obtain ⟨as, r⟩ := Dp.reads I k _ (.ref b) hd rfl
  exact ⟨hk, as, r⟩
/-- what is told of a's dict with nested keys in every state -/
def ProvE (X : Cx) (H : Hp) (a : Addr) (es : List (PyData × Addr × V)) : Prop := ∀ {pins : List (Addr × Obj)} {σ : L2.St} {s : Shared}, Inv X pins σ H s → es.length ≤ sizeLine ∧ (a == sysModules) = false ∧ (∀ e ∈ es, keyT e.1 = true) ∧
    ∃ us, Vals (es.map (·.2.2)) us ∧ s.heap.DictOfH (dataKey X.prog X.w) a (entsE es us)
theorem DG.nest (P : ProvE X H a es) (hkt : keyT k = true) (hd : Dp X.K H (.ref b) k) : DG X H a (.ref b) (lookE es k) where
  ty := fun I => by
    obtain ⟨_, _, _, us, rv, dd⟩ := P I
    exact dd.typeIs
  nd := fun I b' q => by
    cases q
    obtain ⟨_, _, _, us, rv, ob, _, _, h1, h2, _⟩ := P I
    exact ⟨ob, h1, h2.2.1⟩
  get := fun hu I ry q h => by
    obtain ⟨_, _, kt, us, rv, dd⟩ := P I
    cases ry
    have rel := entsE_at (k := k) rv kt hkt
    obtain ⟨w', hw', rw'⟩ := RelO.some_of (by rw [← q]; exact rel)
    obtain ⟨p, hp, hp2⟩ := Option.map_eq_some_iff.mp hw'
    refine wpAny_getItem_heap (by show _ + _ < _; rw [Around.in1_units]; omega) (key_at I hkt hd) dd hp ?_
    rw [hp2]
    exact h w' _ (I.tok _) rw'
  isin := fun hu I ry h => by
    obtain ⟨_, lo, kt, us, rv, dd⟩ := P I
    cases ry
    have rel := entsE_at (k := k) rv kt hkt
    refine wpAny_in_heap (by show _ + _ < _; rw [Around.in1_units]; omega) (key_at I hkt hd) lo dd ?_
    have q := rel.isSome_eq
    rw [Option.isSome_map] at q
    rw [← q]
    exact h _ (I.tok _)
  noin := fun hu I ry h => by
    obtain ⟨_, lo, kt, us, rv, dd⟩ := P I
    cases ry
    have rel := entsE_at (k := k) rv kt hkt
    refine wpAny_notIn_heap (by show _ + _ < _; rw [Around.in1_units]; omega) (key_at I hkt hd) lo dd ?_
    have q := rel.isSome_eq
    rw [Option.isSome_map] at q
    rw [← q]
    exact h _ (I.tok _)
  get1 := fun hu I ry h => by
    obtain ⟨_, lo, kt, us, rv, dd⟩ := P I
    cases ry
    have rel := entsE_at (k := k) rv kt hkt
    exact call_meetsIn PySem.F.slot_dict_get dd.typeIs PySem.F.entry_dict_get (PySem.F.args_dict_get_2 _ _) (meetsH_dict_get (dataKey X.prog X.w) a b lo) ⟨by show _ + _ < _; rw [Around.in1_units]; omega, k, _, key_at I hkt hd, dd, h _ _ (I.tok _) (rel.getD rfl)⟩
  get2 := fun hu I ry rd h => by
    obtain ⟨_, lo, kt, us, rv, dd⟩ := P I
    cases ry
    have rel := entsE_at (k := k) rv kt hkt
    exact call_meetsIn PySem.F.slot_dict_get dd.typeIs PySem.F.entry_dict_get (PySem.F.args_dict_get_3 _ _ _) (meetsH_dict_get_default (dataKey X.prog X.w) a b lo _) ⟨by show _ + _ < _; rw [Around.in1_units]; omega, k, _, key_at I hkt hd, dd, h _ _ (I.tok _) (rel.getD rd)⟩
theorem dictO_ok {P : Program} {w : World} {h : Heap} (z : es.length ≤ sizeLine) (lo : (a == sysModules) = false) (nd : (es.map (·.1)).Nodup) (kt : ∀ e ∈ es, keyT e.1 = true) {us : List Value} (rv : Vals (es.map (·.2.2)) us)
    {o : Obj} {ep : Nat} {arr : Array DictEntry} (h1 : h.get? a = some o) (h2 : o.ExactDict) (h3 : o.data = .dict arr ep) (h4 : arr.toList = (es.zip us).map fun x => (⟨hashD Wd.w x.1.1, .ref x.1.2.1, x.2⟩ : DictEntry)) : ObjOk P w H h a (DictO a es) :=
  ⟨⟨z, lo, nd, kt, us, rv, o, ep, arr, h1, h2, h3, h4⟩, ⟨o, h1⟩, fun g1 g2 ⟨z', lo', nd', kt', us', rv', o', ep', arr', k1, k2, k3, k4⟩ st => ⟨z', lo', nd', kt', us', rv', o', ep', arr', st _ k1, k2, k3, k4⟩⟩
theorem putE_ents {b : Addr} {v : V} {r : Value} (rvr : RelV v r) {k : PyData} (hk : keyT k = true) {es : List (PyData × Addr × V)} {us : List Value} (rv : Vals (es.map (·.2.2)) us) (kt : ∀ e ∈ es, keyT e.1 = true) :
    ∃ us', Vals ((putE es k b v).map (·.2.2)) us' ∧ entsE (putE es k b v) us' = storedH (entsE es us) k b r := by
  have h1 : ∀ {es : List (PyData × Addr × V)} {us : List Value}, Vals (es.map (·.2.2)) us → (∀ e ∈ es, keyT e.1 = true) →
      ∃ us', Vals ((es.map fun e => if PyData.eqv e.1 k then (e.1, e.2.1, v) else e).map (·.2.2)) us' ∧ entsE (es.map fun e => if PyData.eqv e.1 k then (e.1, e.2.1, v) else e) us' = (entsE es us).map (putAt k r) := by
    intro es
    induction es with
    | nil => intro us rv _; cases rv; exact ⟨[], .nil, rfl⟩
    | cons e es ih =>
      intro us rv kt
      cases rv with
      | @cons _ u _ us r1 r2 =>
        obtain ⟨us', g1, g2⟩ := ih r2 (fun x hx => kt x (List.mem_cons_of_mem _ hx))
        have ke := keyT_eqv (kt e List.mem_cons_self) hk
        by_cases h : e.1 = k
        · rw [decide_eq_true h] at ke
          refine ⟨r :: us', ?_, ?_⟩
          · rw [List.map_cons, ke, if_pos rfl]
            exact .cons rvr g1
          · rw [List.map_cons, ke, if_pos rfl]
            have q : putAt k r (e.1, e.2.1, u) = (e.1, e.2.1, r) := by unfold putAt; rw [if_pos h]
            show (e.1, e.2.1, r) :: entsE _ us' = putAt k r (e.1, e.2.1, u) :: (entsE es us).map (putAt k r)
            rw [g2, q]
        · rw [decide_eq_false h] at ke
          refine ⟨u :: us', ?_, ?_⟩
          · rw [List.map_cons, ke, if_neg Bool.false_ne_true]
            exact .cons r1 g1
          · rw [List.map_cons, ke, if_neg Bool.false_ne_true]
            have q : putAt k r (e.1, e.2.1, u) = (e.1, e.2.1, u) := by unfold putAt; rw [if_neg h]
            show (e.1, e.2.1, u) :: entsE _ us' = putAt k r (e.1, e.2.1, u) :: (entsE es us).map (putAt k r)
            rw [g2, q]
  have h2 : (atKey (entsE es us) k).isSome = es.any (fun e => PyData.eqv e.1 k) := by
    have rel := (entsE_at (k := k) rv kt hk).isSome_eq
    rw [Option.isSome_map] at rel
    rw [← rel]
    unfold lookE
    rw [Option.isSome_map, Bool.eq_iff_iff, List.find?_isSome, List.any_eq_true]
  unfold putE storedH
  rw [h2]
  split
  · exact h1 rv kt
  · refine ⟨us ++ [r], ?_, ?_⟩
    · rw [List.map_append]
      exact Vals.append rv (.cons rvr .nil)
    · unfold entsE
      rw [List.zip_append (by have := rv.length; rw [List.length_map] at this; exact this), List.map_append]
      rfl
theorem putE_keys {b : Addr} {v : V} {k : PyData} (hk : keyT k = true) (kt : ∀ e ∈ es, keyT e.1 = true) : ∀ e ∈ putE es k b v, keyT e.1 = true := by
  intro e he
  unfold putE at he
  split at he
  · obtain ⟨x, hx, rfl⟩ := List.mem_map.mp he
    split
    · exact kt x hx
    · exact kt x hx
  · rcases List.mem_append.mp he with h | h
    · exact kt e h
    · rw [List.mem_singleton] at h; subst h; exact hk
theorem putE_len {b : Addr} {v : V} {k : PyData} : (putE es k b v).length ≤ es.length + 1 := by
  unfold putE
  split
  · rw [List.length_map]; omega
  · rw [List.length_append]; exact Nat.le_refl _
theorem DP.nest {u0 : HO} (hw : X.w = Wd.w) (e : H a = some u0) (mu : Mut (some u0)) (P : ProvE X H a es) (hkt : keyT k = true) (hd : Dp X.K H (.ref b) k) (hl : es.length < sizeLine) : DP X H a (.ref b) v (upd H a (DictO a (putE es k b v))) := ⟨fun {pins σ s u r A E Q} hu I ry rv h => by
  obtain ⟨z, lo, kt, us, rvs, dd⟩ := P I
  cases ry
  have hz : (entsE es us).length ≤ sizeLine := by
    unfold entsE
    rw [List.length_map, List.length_zip]
    exact Nat.le_trans (Nat.min_le_left _ _) z
  refine wpAny_setItem_heap (hsz := hz) (by show _ + _ < _; rw [Around.in1_units]; omega) (key_at I hkt hd) dd fun h' dd' hs => h _ ?_
  obtain ⟨us', g1, g2⟩ := putE_ents (b := b) rv hkt rvs kt
  obtain ⟨q, arr, ep, hq, h2, h3, h4, h5, h6⟩ := dd'
  refine d_write I (by rw [e]; exact mu) hs ⟨q, hq⟩ (dictO_ok (us := us') ?_ lo ?_ (putE_keys hkt kt) g1 hq h2 h3 ?_)
  · have := putE_len (es := es) (b := b) (v := v) (k := k); omega
  · rw [← g2, entsE_fst g1] at h6; exact h6
  · rw [h4, ← g2, entsE, List.map_map, hw]
    rfl⟩
theorem dictO_new {P : Program} {w : World} (h : Heap) (hb : sysModules < h.objs.size) : ObjOk P w H (h.push { cls := .type "dict", data := .dict #[] }) h.objs.size (DictO h.objs.size []) := by
  obtain ⟨o, es, ep, h1, h2, h3, h4, h5, h6⟩ := Heap.DictOfH.new (knd := dataKey P w) h
  exact dictO_ok (Nat.zero_le _) (beq_eq_false_iff_ne.mpr (Ne.symm (Nat.ne_of_lt hb))) (by simp) (fun e he => by cases he) (us := []) .nil h1 h2 h3 (by rw [h4]; rfl)
/-- {} for such keys -/
theorem pe_newD {pos : Pos} : PE X (.Dict [] [] pos) (fun _ H Q => ∀ p, H p = none → Q (.ref p) (upd H p (DictO p []))) := ⟨fun pins s σ H Q I h =>
  wpAny_Dict_empty ⟨.ref s.heap.objs.size, _, I.laid (a := s.heap.objs.size) (o := DictO s.heap.objs.size []) (t' := s.toks) (fun _ _ q => Heap.get?_push_of_some _ q) (Nat.le_refl _) (dictO_new s.heap I.big), rfl, h _ (I.hok.fresh (Nat.le_refl _))⟩⟩
end
end Fx
/-! Fx: dicts with flat keys by what is told of them; empty dicts; the walk over keys -/
namespace Fx
open PySem PySem.Spec PyProof.Rows L2
variable [Wd]
section
variable {X : Cx} {H H' : Hp} {a b : Addr} {y v : V} {ws : List (Key × V)} {q : Key} {pins : List (Addr × Obj)} {σ : L2.St} {s : Shared}
def ProvK (X : Cx) (H : Hp) (a : Addr) (ws : List (Key × V)) : Prop := ∀ {pins : List (Addr × Obj)} {σ : L2.St} {s : Shared}, Inv X pins σ H s → ws.length ≤ sizeLine ∧ (a == sysModules) = false ∧ ∃ vs, KV ws vs ∧ s.heap.DictOf (mixKind X.prog X.w) a vs
theorem ProvK.of (e : Rd H a (.dK ws)) : ProvK X H a ws := fun I => dk_rd I.hok e
theorem DG.flat (P : ProvK X H a ws) : DG X H a (kV q) (valV ws q) where
  ty := fun I => by
    obtain ⟨_, _, vs, _, dd⟩ := P I
    exact dd.typeIs
  nd := fun I b' e => by
    cases e
    obtain ⟨_, _, vs, _, ob, _, _, h1, h2, _⟩ := P I
    exact ⟨ob, h1, h2.2.1⟩
  get := fun hu I ry e h => by
    obtain ⟨z, hd, vs, rel, dd⟩ := P I
    obtain ⟨w', hw, rw'⟩ := RelO.some_of (o := valueAt vs q) (by rw [← e]; exact rel.val q)
    exact wpAny_getItem_of (kV_is ry) dd.mapOf hw (h w' _ (I.tok _) rw')
  isin := fun hu I ry h => by
    obtain ⟨z, hd, vs, rel, dd⟩ := P I
    refine wpAny_in_of (kV_is ry) hd dd.mapOf ?_
    rw [← (rel.val q).isSome_eq]
    exact h _ (I.tok _)
  noin := fun hu I ry h => by
    obtain ⟨z, hd, vs, rel, dd⟩ := P I
    refine wpAny_notIn_of (kV_is ry) hd dd.mapOf ?_
    rw [← (rel.val q).isSome_eq]
    exact h _ (I.tok _)
  get1 := fun hu I ry h => by
    obtain ⟨z, hd, vs, rel, dd⟩ := P I
    exact call_meetsIn PySem.F.slot_dict_get dd.typeIs PySem.F.entry_dict_get (PySem.F.args_dict_get_2 _ _) (meets_dict_get (mixKind X.prog X.w) a (kV_is ry) hd) ⟨_, dd.mapOf, h _ _ (I.tok _) ((rel.val q).getD rfl)⟩
  get2 := fun hu I ry rd h => by
    obtain ⟨z, hd, vs, rel, dd⟩ := P I
    exact call_meetsIn PySem.F.slot_dict_get dd.typeIs PySem.F.entry_dict_get (PySem.F.args_dict_get_3 _ _ _) (meets_dict_get_default (mixKind X.prog X.w) a (kV_is ry) hd _) ⟨_, dd.mapOf, h _ _ (I.tok _) ((rel.val q).getD rd)⟩
theorem DP.flat {u0 : HO} (e : H a = some u0) (mu : Mut (some u0)) (P : ProvK X H a ws) (l : ws.length < sizeLine) : DP X H a (kV q) v (upd H a (.dK (putK ws q v))) := ⟨fun hu I ry rv h => by
  obtain ⟨z, hd, vs, rel, dd⟩ := P I
  have hz : vs.length ≤ sizeLine := by rw [← rel.length]; exact z
  have hl : (putK ws q v).length ≤ sizeLine := by have := length_putK ws q v; omega
  refine wpAny_setItem_pairs (hsz := hz) (kV_is ry) dd fun h' dd' hs => h _ ?_
  have he : ∃ q, h'.get? a = some q := let ⟨q, _, _, hq, _⟩ := dd'; ⟨q, hq⟩
  exact d_write I (by rw [e]; exact mu) hs he (dk_new hl hd (rel.put q rv) dd')⟩
/-! an empty dict is both -/
def Empty (X : Cx) (H : Hp) (a : Addr) : Prop := ∀ {pins : List (Addr × Obj)} {σ : L2.St} {s : Shared}, Inv X pins σ H s → (a == sysModules) = false ∧ ∃ o ep, s.heap.get? a = some o ∧ o.ExactDict ∧ o.data = .dict #[] ep
theorem empty_K (e : Rd H a (.dK [])) : Empty X H a := fun I => by
  obtain ⟨z, hd, vs, rel, o, es, ep, h1, h2, h3, h4, h5, h6⟩ := dk_rd I.hok e
  cases rel
  have : es = #[] := by
    cases h : es.toList with
    | nil => exact Array.toList_eq_nil_iff.mp h
    | cons x r => rw [h] at h5; cases h5
  subst this
  exact ⟨hd, o, ep, h1, h2, h3⟩
theorem empty_E (e : Rd H a (DictO a [])) : Empty X H a := fun I => by
  obtain ⟨⟨z, lo, nd, kt, us, rv, o, ep, arr, h1, h2, h3, h4⟩, _⟩ := (show ObjOk X.prog X.w H _ a (DictO a []) from e.ok I.hok)
  have : arr = #[] := Array.toList_eq_nil_iff.mp h4
  subst this
  exact ⟨lo, o, ep, h1, h2, h3⟩
theorem Empty.k (P : Empty X H a) : ProvK X H a [] := fun I => by
  obtain ⟨lo, o, ep, h1, h2, h3⟩ := P I
  refine ⟨Nat.zero_le _, lo, [], .nil, o, #[], ep, h1, h2, h3, ?_, ?_, ?_⟩
  · intro e he; simp at he
  · exact .nil
  · simp
theorem Empty.e (P : Empty X H a) : ProvE X H a [] := fun I => by
  obtain ⟨lo, o, ep, h1, h2, h3⟩ := P I
  exact ⟨Nat.zero_le _, lo, (fun e he => by cases he), [], .nil, o, #[], ep, h1, h2, h3, rfl, (fun x hx => by cases hx), List.nodup_nil⟩
end
end Fx
/-! Fx: the walk over a dict's keys; what is collected; sorted -/
namespace Fx
open PySem PySem.Spec PyProof.Rows L2
variable [Wd]
section
variable {X : Cx} {H H' : Hp} {d : Addr} {o : Obj} {es : List (PyData × Addr × V)} {pins : List (Addr × Obj)} {σ : L2.St} {s : Shared} {P : Program} {w : World} {K : PySem.W.Frag} {tg : Expr}
theorem frzE (I : Inv X pins σ H s) (h : H d = some (.frz o (DictO d es))) :
    (d == sysModules) = false ∧ s.heap.get? d = some o ∧ o.ExactDict ∧ ∃ (arr : Array DictEntry) (ep : Nat), o.data = .dict arr ep ∧ arr.size = es.length ∧
      ∀ (i : Nat) (k : PyData) (b : Addr) (v : V), es[i]? = some (k, b, v) → ∃ (en : DictEntry), arr[i]? = some en ∧ en.key = .ref b := by
  obtain ⟨hd, hob⟩ := I.hok d _ h
  obtain ⟨⟨z, lo, nd, kt, us, rv, o', ep, arr, h1, h2, h3, h4⟩, _⟩ := (show ObjOk X.prog X.w H s.heap d (DictO d es) from hob)
  rw [hd] at h1
  cases h1
  have hl : us.length = es.length := by have := rv.length; rw [List.length_map] at this; exact this.symm
  refine ⟨lo, hd, h2, arr, ep, h3, ?_, fun i k b v e => ?_⟩
  · rw [← Array.length_toList, h4, List.length_map, List.length_zip, hl, Nat.min_self]
  · have hi : i < us.length := by rw [hl]; exact (List.getElem?_eq_some_iff.mp e).1
    have hu := List.getElem?_eq_getElem hi
    refine ⟨⟨hashD Wd.w k, .ref b, us[i]⟩, ?_, rfl⟩
    rw [← Array.getElem?_toList, h4, List.getElem?_map, (show (es.zip us)[i]? = some ((k, b, v), us[i]) from List.getElem?_zip_eq_some.mpr ⟨e, hu⟩)]
    rfl
/-- the keys of the locked dict at d, in their order -/
def Itke (d : Addr) (o : Obj) (es : List (PyData × Addr × V)) : It :=
  ⟨fun i H => H d = some (.frz o (DictO d es)) ∧ i < es.length, fun i H x H' => H' = H ∧ ∃ (k : PyData) (b : Addr) (v : V), es[i]? = some (k, b, v) ∧ x = .ref b, fun i H => H d = some (.frz o (DictO d es)) ∧ es.length ≤ i⟩
theorem turn_keysE {arr : Array DictEntry} {ep : Nat} (it : Addr) (hod : o.data = .dict arr ep) : Turn P w K tg (Itke d o es) [it] it (fun i h => h.IsKeyIter it d i es.length ep) where
  mem := by simp
  obj := fun i h st b hb => by
    have e : b = it := by simpa using hb
    subst e
    obtain ⟨oi, e, c, dd⟩ := st
    exact ⟨oi, e, fun v z => by rw [dd] at z; cases z⟩
  keep := fun i h h' st k => st.at fun oi e => k it (by simp) oi e
  item := by
    intro X hP hw hK hc i pins s σ H E I hf st hg
    subst hP hw hK
    obtain ⟨hd, hi⟩ := hg
    obtain ⟨f0, f1, f2, f3, f4, f5⟩ := hf it (by simp)
    obtain ⟨hs, hgd, hx, es', ep', hdt, hsz, ent⟩ := frzE I hd
    obtain ⟨rfl, rfl⟩ := dict_ep hod hdt
    obtain ⟨⟨k, b, v⟩, hkv⟩ : ∃ p, es[i]? = some p := ⟨es[i], List.getElem?_eq_getElem hi⟩
    obtain ⟨en, hen, hkey⟩ := ent i k b v hkv
    refine next_key_item st hgd hdt hsz hen fun h' st' sb => ?_
    have I1 : Inv X pins σ H { s with heap := h' } := I.turned (t' := s.toks) (fun b ob hb e => (sb.2 b hb).trans e) f0 f1 f3 f4 f5
    obtain ⟨oi, e, c, dd⟩ := id st'
    exact ⟨en.key, rfl, go_of (s := { s with heap := h' }) e c dd (by decide) ⟨.ref b, H, I1, hkey, ⟨rfl, k, b, v, hkv, rfl⟩, st', fun b hb => (hf b hb).1⟩⟩
  done := by
    intro X hP hw hK hc i pins s σ H E I hf st hg
    subst hP hw hK
    obtain ⟨hd, hi⟩ := hg
    obtain ⟨f0, f1, f2, f3, f4, f5⟩ := hf it (by simp)
    obtain ⟨hs, hgd, hx, es', ep', hdt, hsz, ent⟩ := frzE I hd
    obtain ⟨rfl, rfl⟩ := dict_ep hod hdt
    exact next_key_end (I.ok.hd hc) st hgd hdt hsz hi fun h' eb => ⟨rfl, I.turned (t' := s.toks) (fun b ob hb e => eb b ob hb e) f0 f1 f3 f4 f5⟩
  self := fun A i s Q E st h => wpAny_pyIter_keyiter st h
/-- for k in a locked dict -/
theorem pi_keysE {e : Expr} {td : TE} (he : PE X e td) : PI X tg e (fun σ H R => td σ H fun x H1 => ∃ d o es, x = .ref d ∧ H1 d = some (.frz o (DictO d es)) ∧ R (Itke d o es) H1) := by
  refine ⟨fun pins s σ H R I h => ?_⟩
  refine thn (he.run pins s σ H _ I h) fun u s1 ⟨x, H1, I1, rx, d, o, es, ex, hd, q⟩ => ?_
  subst ex
  obtain rfl : u = Value.ref d := rx
  obtain ⟨hs, hgd, hx, arr, ep, hdt, hsz, ent⟩ := frzE I1 hd
  refine iter_keys hs hgd hx hdt (pi_one (tk := s1.toks) I1 _ (turn_keysE _ hdt) ⟨_, Heap.get?_push_size _ rfl, rfl, ?_⟩ q)
  rw [hsz] <;> rfl
end
/-! ### collect -/
/-- what a value gives, collected -/
def CollAt (X : Cx) (H : Hp) (v : V) (vs : List V) : Prop := ∀ {pins : List (Addr × Obj)} {σ : L2.St} {s : Shared} {u : Value} {A : Around} {E : Value → Shared → Prop} {R : List Value → Shared → Prop}, Inv X pins σ H s → RelV v u → A.handled = none →
  (∀ h' tk its, (∀ b o, s.heap.get? b = some o → h'.get? b = some o) → Vals vs its → R its { s with heap := h', toks := tk }) → wpAny (model X.prog X.w) A (collect u) R E s
section
variable {X : Cx} {H : Hp} {a : Addr} {xs : List V}
theorem CollAt.list (h : SqL X.K H a xs) : CollAt X H (.ref a) xs := fun I r hh q => by
  cases r
  obtain ⟨its, rv, ⟨o, n, ho, hc, _, hd⟩, hz⟩ := I.list h
  exact wpAny_collect_seq a (.inl rfl) ho hc hd (fun h' k => q h' _ its k rv) (hsz := by rw [List.size_toArray, ← rv.length]; exact hz)
theorem CollAt.tuple (h : SqT X.K H a xs) : CollAt X H (.ref a) xs := fun I r hh q => by
  cases r
  obtain ⟨its, rv, ⟨o, ho, hc, n, hd⟩, hz⟩ := I.tuple h
  exact wpAny_collect_seq a (.inr rfl) ho hc hd (fun h' k => q h' _ its k rv) (hsz := by rw [List.size_toArray, ← rv.length]; exact hz)
/-- an exact dict of these entries -/
def RawD (h : Heap) (d : Addr) (arr : Array DictEntry) (ep : Nat) : Prop := ∃ o, h.get? d = some o ∧ o.ExactDict ∧ o.data = .dict arr ep
theorem RawD.at {h h' : Heap} {d : Addr} {arr : Array DictEntry} {ep : Nat} (x : RawD h d arr ep) (k : ∀ o, h.get? d = some o → h'.get? d = some o) : RawD h' d arr ep := let ⟨o, ho, r⟩ := x; ⟨o, k o ho, r⟩
theorem walks_raw {prog : Program} {w : World} {A : Around} (hh : A.handled = none) (I d : Addr) (hne : d ≠ I) (arr : Array DictEntry) (ep : Nat) :
    Walks prog w A I [I, d] [I] arr.size (fun i v => ∃ en, arr[i]? = some en ∧ v = en.key) (fun i h => h.IsKeyIter I d i arr.size ep ∧ RawD h d arr ep) where
  sub := fun b hb => by simp at hb; simp [hb]
  frame := fun _ _ _ st hk => ⟨st.1.at fun o e => hk I (by simp) o e, st.2.at fun o e => hk d (by simp) o e⟩
  item := fun i s Q E hi st hQ => by
    obtain ⟨od, hod, hx, hdd⟩ := id st.2
    refine next_key_item st.1 hod hdd rfl (Array.getElem?_eq_getElem hi) fun h' hit' hs' => ?_
    exact hQ _ h' s.toks ⟨_, Array.getElem?_eq_getElem hi, rfl⟩ ⟨hit', st.2.at fun o e => (hs'.2 d hne).trans e⟩ fun b o hb e => (hs'.2 b (fun z => hb (by simp [z]))).trans e
  done := fun s Q E st hQ => by
    obtain ⟨od, hod, hx, hdd⟩ := id st.2
    exact next_key_end hh st.1 hod hdd rfl (Nat.le_refl _) fun h' he' => hQ h' s.toks fun b o hb e => he' b o (fun h => hb (by simp [h])) e
  self := fun _ _ _ _ st hQ => wpAny_pyIter_keyiter st.1 hQ
theorem kdl_raw {prog : Program} {w : World} {d : Addr} {arr : Array DictEntry} {ep : Nat} (lo : (d == sysModules) = false) : PySem.W.KdlSrc prog w "dict" d d arr.size (fun i v => ∃ en, arr[i]? = some en ∧ v = en.key) (fun h => RawD h d arr ep) where
  type := fun _ ⟨o, ho, hc, _⟩ => ⟨o, ho, hc.1⟩
  there := fun _ ⟨o, ho, _⟩ => ⟨Heap.lt_size ho, Heap.lt_size ho⟩
  keep := fun _ _ hm hk => hm.at fun o e => hk d (.inl rfl) o e
  notList := by decide
  notTuple := by decide
  hint := fun _ _ _ _ ⟨o, ho, hc, _⟩ hq => PySem.W.kdl_hint_dict ⟨o, ho, hc.1⟩ hq
  iter := fun _ s hh hm => by
    obtain ⟨o, ho, hc, hd⟩ := id hm
    refine ⟨_, _, (fun _ _ hq => iter_keys lo ho hc hd hq), walks_raw hh _ d (Nat.ne_of_lt (Heap.lt_size ho)) arr ep, ⟨_, Heap.get?_push_size _ rfl, rfl, rfl⟩, hm.at fun o e => Heap.get?_push_of_some _ e⟩
theorem CollAt.raw {vs : List V} (h : ∀ {pins : List (Addr × Obj)} {σ : L2.St} {s : Shared}, Inv X pins σ H s → (a == sysModules) = false ∧ ∃ arr ep, RawD s.heap a arr ep ∧ arr.size ≤ sizeLine ∧ Vals vs (arr.toList.map (·.key))) : CollAt X H (.ref a) vs := fun {pins σ s u A E R} I r hh q => by
  cases r
  obtain ⟨lo, arr, ep, hr, hz, rv⟩ := h I
  refine PySem.W.kdu_collect (kdl_raw lo) hh hr hz fun h' tk acc hk hacc => q h' tk acc.toList hk ?_
  have e : acc.toList = arr.toList.map (·.key) := by
    apply List.ext_getElem?
    intro i
    by_cases hi : i < acc.size
    · have h1 : acc.toList[i]? = some acc[i] := by rw [Array.getElem?_toList]; exact Array.getElem?_eq_getElem hi
      obtain ⟨en, h2, h3⟩ := hacc.2 i acc[i] (Array.getElem?_eq_getElem hi)
      rw [h1, List.getElem?_map, Array.getElem?_toList, h2, h3]
      rfl
    · rw [List.getElem?_eq_none (by rw [Array.length_toList]; omega), List.getElem?_eq_none (by rw [List.length_map, Array.length_toList, ← hacc.1]; omega)]
  rw [e]
  exact rv
end
end Fx
/-! Fx: zip of lists and tuples in any mix -/
namespace Fx
open PySem PySem.Spec PyProof.Rows L2
variable [Wd]
inductive Sk where
  | l
  | t
def Sk.It : Sk → Heap → Addr → Addr → Nat → Prop
  | .l, h, I, a, i => h.IsListIter I a i
  | .t, h, I, a, i => h.IsTupleIter I a i
def Sk.At : Sk → Heap → Addr → Array Value → Prop
  | .l, h, a, its => h.IsList a its
  | .t, h, a, its => h.IsTuple a its
def Sk.Sq : Sk → PySem.W.Frag → Hp → Addr → List V → Prop
  | .l, K, H, a, xs => SqL K H a xs
  | .t, K, H, a, xs => SqT K H a xs
def Sk.ob : Sk → Addr → Obj
  | .l, a => { cls := .type "list_iterator", data := .fields #[.ref a, .int 0 0] }
  | .t, a => { cls := .type "tuple_iterator", data := .fields #[.ref a, .int 0 0] }
theorem Sk.draws {prog : Program} {w : World} {A : Around} (hh : A.handled = none) (it a : Addr) (hne : a ≠ it) (its : Array Value) : ∀ k : Sk, Draws prog w A it [it, a] its.size (fun i v => its[i]? = some v) (fun i h => k.It h it a i ∧ k.At h a its)
  | .l => Draws.list hh it a hne its
  | .t => Draws.tuple hh it a hne its
theorem Sk.begins (a : Addr) (its : Array Value) : ∀ k : Sk, Begins (.ref a) (k.ob a) fun h => k.At h a its
  | .l => begins_list a its
  | .t => begins_tuple a its
theorem Sk.it0 {h : Heap} {I a : Addr} : ∀ {k : Sk}, h.get? I = some (k.ob a) → k.It h I a 0
  | .l, e => ⟨_, e, rfl, rfl⟩
  | .t, e => ⟨_, e, rfl, rfl⟩
theorem Sk.it_obj {h : Heap} {I a : Addr} {i : Nat} : ∀ {k : Sk}, k.It h I a i → ∃ o, h.get? I = some o ∧ ∀ v, o.data ≠ .cell v
  | .l, ⟨o, e, _, d⟩ => ⟨o, e, fun v q => by rw [d] at q; cases q⟩
  | .t, ⟨o, e, _, d⟩ => ⟨o, e, fun v q => by rw [d] at q; cases q⟩
theorem Sk.it_at {h h' : Heap} {I a : Addr} {i : Nat} (k : ∀ o, h.get? I = some o → h'.get? I = some o) : ∀ {s : Sk}, s.It h I a i → s.It h' I a i
  | .l, ⟨o, e, c, d⟩ => ⟨o, k o e, c, d⟩
  | .t, ⟨o, e, c, d⟩ => ⟨o, k o e, c, d⟩
section
variable {X : Cx} {pins : List (Addr × Obj)} {σ : L2.St} {H : Hp} {s : Shared} {a : Addr} {xs ys : List V}
theorem Sk.items (I : Inv X pins σ H s) : ∀ {k : Sk}, k.Sq X.K H a xs → ∃ its, Vals xs its ∧ k.At s.heap a its.toArray ∧ a < s.heap.objs.size
  | .l, h => by
    obtain ⟨its, rv, p, _⟩ := I.list h
    exact ⟨its, rv, p.isList, p.lt⟩
  | .t, h => by
    obtain ⟨its, rv, p, _⟩ := I.tuple h
    obtain ⟨o, ho, _⟩ := id p
    exact ⟨its, rv, p, Heap.lt_size ho⟩
theorem Sk.inj (I : Inv X pins σ H s) : ∀ {k : Sk}, k.Sq X.K H a xs → k.Sq X.K H a ys → xs = ys
  | .l, h, g => I.list_inj h g
  | .t, h, g => I.tuple_inj h g
end
/-- the things at a and b as they stand at each turn, the items in new pairs -/
def ItzG (K : PySem.W.Frag) (k1 k2 : Sk) (a b : Addr) : It :=
  ⟨fun i H => ∃ (xs ys : List V) (x y : V), k1.Sq K H a xs ∧ k2.Sq K H b ys ∧ xs[i]? = some x ∧ ys[i]? = some y,
    fun i H v H' => ∃ T x y, v = .ref T ∧ H T = none ∧ H' = upd H T (.tup [x, y]) ∧ (∀ xs, k1.Sq K H a xs → xs[i]? = some x) ∧ ∀ ys, k2.Sq K H b ys → ys[i]? = some y,
    fun i H => ∃ xs ys : List V, k1.Sq K H a xs ∧ k2.Sq K H b ys ∧ i = min xs.length ys.length⟩
theorem turn_zipG {P : Program} {w : World} {K : PySem.W.Frag} {elts : List Expr} {kk : Nat} {tpos : Pos} {k1 k2 : Sk} {a b z TI TO i1 i2 : Addr} (S : ZipSep2 z TI TO i1 i2 [i1, a] [i2, b]) (na : a ≠ i1) (nb : b ≠ i2) :
    Turn P w K (.Tuple elts kk tpos) (ItzG K k1 k2 a b) [z, TI, TO, i1, i2] z (fun i h => IsZip h z TI TO .none ∧ IsTupOf2 h TI (.ref i1) (.ref i2) ∧ (∃ x y, IsTupOf2 h TO x y) ∧ k1.It h i1 a i ∧ k2.It h i2 b i) where
  mem := by simp
  obj := fun i h st c hc => by
    obtain ⟨hz, hTI, ⟨x, y, hTO⟩, h1, h2⟩ := st
    have e' : c = z ∨ c = TI ∨ c = TO ∨ c = i1 ∨ c = i2 := by simpa using hc
    rcases e' with q | q | q | q | q
    · rw [q]; exact ⟨_, hz, fun v q => nomatch q⟩
    · rw [q]; exact ⟨_, hTI, fun v q => nomatch q⟩
    · rw [q]; exact ⟨_, hTO, fun v q => nomatch q⟩
    · rw [q]; exact Sk.it_obj h1
    · rw [q]; exact Sk.it_obj h2
  keep := fun i h h' st k => by
    obtain ⟨hz, hTI, ⟨x, y, hTO⟩, h1, h2⟩ := st
    exact ⟨k z (by simp) _ hz, k TI (by simp) _ hTI, ⟨x, y, k TO (by simp) _ hTO⟩, Sk.it_at (fun o q => k i1 (by simp) o q) h1, Sk.it_at (fun o q => k i2 (by simp) o q) h2⟩
  item := by
    intro X hP hw hK hc i pins s σ H E I hf st hg
    subst hP hw hK
    obtain ⟨hz, hTI, hTO, h1, h2⟩ := st
    obtain ⟨xs, ys, x, y, hqx, hqy, hx, hy⟩ := hg
    obtain ⟨its, rv, p, _⟩ := Sk.items I hqx
    obtain ⟨its2, rv2, p2, _⟩ := Sk.items I hqy
    obtain ⟨u, hu, ru⟩ := rv.get hx
    obtain ⟨u2, hu2, ru2⟩ := rv2.get hy
    have hh : X.A.in1.handled = none := I.ok.hd hc
    have W := GoesN.zip2 (elts := elts) (x1 := kk) (pos := tpos) S (Sk.draws (prog := X.prog) (w := X.w) hh i1 a na its.toArray k1) (Sk.draws (prog := X.prog) (w := X.w) hh i2 b nb its2.toArray k2)
    have hi : i < min its.toArray.size its2.toArray.size := by
      rw [List.size_toArray, List.size_toArray]
      exact Nat.lt_min.mpr ⟨(List.getElem?_eq_some_iff.mp hu).1, (List.getElem?_eq_some_iff.mp hu2).1⟩
    refine W.goes i s (fun v s2 => ∃ x H', Inv X pins σ H' s2 ∧ RelV x v ∧ (ItzG X.K k1 k2 a b).yld i H x H' ∧ (IsZip s2.heap z TI TO .none ∧ IsTupOf2 s2.heap TI (.ref i1) (.ref i2) ∧ (∃ x y, IsTupOf2 s2.heap TO x y) ∧ k1.It s2.heap i1 a (i + 1) ∧ k2.It s2.heap i2 b (i + 1)) ∧ ∀ b ∈ [z, TI, TO, i1, i2], H' b = none) E hi ⟨hz, hTI, hTO, ⟨h1, p⟩, ⟨h2, p2⟩⟩ fun v h' tk Y st' hk htk => ?_
    obtain ⟨T, x', y', rfl, hT, hx', hy', hTt⟩ := Y
    obtain ⟨z', hTI', hTO', ⟨h1', _⟩, ⟨h2', _⟩⟩ := st'
    have ex : x' = u := Option.some.inj (by rw [← hx', ← hu]; simp)
    have ey : y' = u2 := Option.some.inj (by rw [← hy', ← hu2]; simp)
    subst ex ey
    have new : ObjOk X.prog X.w (upd H T (.tup [x, y])) h' T (.tup [x, y]) := ⟨by show 2 ≤ sizeLine; decide, [x', y'], .cons ru (.cons ru2 .nil), hTt⟩
    have hn : H T = none := I.hok.fresh hT
    have I1 : Inv X pins σ (upd H T (.tup [x, y])) { s with heap := h', toks := tk } := I.turnedNew (ch := [z, TI, TO, i1, i2]) (fun c o hb q => hk c o (fun m => hb (by
      have e' : c = z ∨ c = TO ∨ c = i1 ∨ c = i2 := by simpa using m
      rcases e' with q | q | q | q <;> simp [q])) q) hf hT new
    refine ⟨.ref T, _, I1, rfl, ⟨T, x, y, rfl, hn, rfl, fun l hl => by rw [Sk.inj I hl hqx]; exact hx, fun l hl => by rw [Sk.inj I hl hqy]; exact hy⟩, ⟨z', hTI', hTO', h1', h2'⟩, fun c hcm => ?_⟩
    have hlt : c < s.heap.objs.size := by
      have e' : c = z ∨ c = TI ∨ c = TO ∨ c = i1 ∨ c = i2 := by simpa using hcm
      obtain ⟨_, _, hTO⟩ := hTO
      rcases e' with q | q | q | q | q
      · rw [q]; exact Heap.lt_size hz
      · rw [q]; exact Heap.lt_size hTI
      · rw [q]; exact Heap.lt_size hTO
      · rw [q]; obtain ⟨_, e1, _⟩ := Sk.it_obj h1; exact Heap.lt_size e1
      · rw [q]; obtain ⟨_, e2, _⟩ := Sk.it_obj h2; exact Heap.lt_size e2
    rw [upd_ne (Nat.ne_of_lt (Nat.lt_of_lt_of_le hlt hT))]
    exact (hf c hcm).1
  done := by
    intro X hP hw hK hc i pins s σ H E I hf st hg
    subst hP hw hK
    obtain ⟨hz, hTI, hTO, h1, h2⟩ := st
    obtain ⟨xs, ys, hqx, hqy, rfl⟩ := hg
    obtain ⟨its, rv, p, _⟩ := Sk.items I hqx
    obtain ⟨its2, rv2, p2, _⟩ := Sk.items I hqy
    have hh : X.A.in1.handled = none := I.ok.hd hc
    have W := GoesN.zip2 (elts := elts) (x1 := kk) (pos := tpos) S (Sk.draws (prog := X.prog) (w := X.w) hh i1 a na its.toArray k1) (Sk.draws (prog := X.prog) (w := X.w) hh i2 b nb its2.toArray k2)
    have e : min its.toArray.size its2.toArray.size = min xs.length ys.length := by rw [List.size_toArray, List.size_toArray, ← rv.length, ← rv2.length]
    refine W.stops s (fun s1 => Inv X pins σ H s1) E (by rw [e]; exact ⟨hz, hTI, hTO, ⟨h1, p⟩, ⟨h2, p2⟩⟩) fun h' tk hk htk => ?_
    exact I.turnedL (t' := tk) (ch := [z, TI, TO, i1, i2]) (fun c o hb q => hk c o (fun m => hb (by
      have e' : c = z ∨ c = TO ∨ c = i1 ∨ c = i2 := by simpa using m
      rcases e' with q | q | q | q <;> simp [q])) q) hf
  self := fun A i s Q E st h => wpAny_pyIter_zip st.1 h
def iZipG (K : PySem.W.Frag) (ta : TA) : TI := fun σ H R => ta σ H fun vs H1 => ∃ (k1 k2 : Sk) (a b : Addr) (xs ys : List V), vs = [.ref a, .ref b] ∧ k1.Sq K H1 a xs ∧ k2.Sq K H1 b ys ∧ R (ItzG K k1 k2 a b) H1
theorem pi_zipG {X : Cx} {e e2 : Expr} {ta : TA} {p pos tpos : Pos} {elts : List Expr} {kk : Nat} (hg : Gl X "zip") (hm : X.mg "zip" = none) (ha : PA X [e, e2] ta)
    (hs : starEach [e, e2] X.env = (false, eval e X.env) :: starEach [e2] X.env := by rfl) (hpl : (backTo pos (starEach [e2] X.env)).any (·.1) = false := by rfl) :
    PI X (.Tuple elts kk tpos) (.Call (.Name "zip" p) [e, e2] [] pos) (iZipG X.K ta) := by
  refine ⟨fun pins s σ H R I h => ?_⟩
  refine Call_ (ld_blt I hg hm PyProof.Rows.boot_zip (PyProof.Rows.callWith_type1 (thn (ha.run pos pins s σ H _ I h) fun us s1 ⟨vs, H1, I1, r1, q1⟩ => ?_) hs hpl))
  obtain ⟨k1, k2, a, b, xs, ys, ex, hqx, hqy, q⟩ := q1
  subst ex
  cases r1 with
  | cons r rr =>
    cases rr with
    | cons r' rr =>
      cases rr
      cases r
      cases r'
      obtain ⟨its, rv, p1, l1⟩ := Sk.items I1 hqx
      obtain ⟨its2, rv2, p2, l2⟩ := Sk.items I1 hqy
      refine zip_begins2 (Sk.begins a its.toArray k1) (Sk.begins b its2.toArray k2) p1 p2 fun h' hz hTI hTO g1 g2 hsz hk => wpAny_pyIter_zip hz ?_
      have I2 : Inv X pins σ H1 { s1 with heap := h' } := I1.kept (t' := s1.toks) hk
      have S := zip_sep2 (N := s1.heap.objs.size) (fp1 := [a]) (fp2 := [b]) (fun c hc => by rw [List.mem_singleton.mp hc]; exact l1) (fun c hc => by rw [List.mem_singleton.mp hc]; exact l2)
      have fresh5 : ∀ c, c ∈ [s1.heap.objs.size + 4, s1.heap.objs.size + 2, s1.heap.objs.size + 3, s1.heap.objs.size, s1.heap.objs.size + 1] → FpOk X pins H1 c := fun c hcm => by
        have e' : c = s1.heap.objs.size + 4 ∨ c = s1.heap.objs.size + 2 ∨ c = s1.heap.objs.size + 3 ∨ c = s1.heap.objs.size ∨ c = s1.heap.objs.size + 1 := by simpa using hcm
        have hle : s1.heap.objs.size ≤ c := by
          rcases e' with z | z | z | z | z
          · rw [z]; exact Nat.le_add_right _ _
          · rw [z]; exact Nat.le_add_right _ _
          · rw [z]; exact Nat.le_add_right _ _
          · rw [z]; exact Nat.le_refl _
          · rw [z]; exact Nat.le_add_right _ _
        exact I1.fpOk hle (I1.hok.fresh hle)
      exact ⟨s1.heap.objs.size + 4, [s1.heap.objs.size + 4, s1.heap.objs.size + 2, s1.heap.objs.size + 3, s1.heap.objs.size, s1.heap.objs.size + 1], _, _, H1, rfl, I2, turn_zipG S (Nat.ne_of_lt l1) (Nat.ne_of_lt (Nat.lt_succ_of_lt l2)), ⟨hz, hTI, ⟨_, _, hTO⟩, Sk.it0 g1, Sk.it0 g2⟩, fresh5, q⟩
end Fx
/-! Fx: enumerate of lists and tuples -/
namespace Fx
open PySem PySem.Spec PyProof.Rows L2
variable [Wd]
set_option maxHeartbeats 1000000 in
theorem meets_enum1 {v : Value} {o : Obj} {H : Heap → Prop} (B : Begins v o H) :
    Meets (Builtin.«enumerate.__new__» ⟨[.type "enumerate", v], []⟩) (fun _ R s => H s.heap ∧
      R (.ok (.ret (.ref (s.heap.push o).objs.size))) { s with heap := (s.heap.push o).push { cls := .type "enumerate", data := .fields #[.none, .bool false, .ref s.heap.objs.size, rawInt 0, .none, .none] } }) :=
  .of_wp fun prog w A R s h => by
    obtain ⟨hp, g, d, tk, os⟩ := s
    obtain ⟨h1, h⟩ := h
    have hsub := sub_enumerate
    have q1 : ∀ {A' : Around} {E : Value → Shared → Prop} {Q : Value → Shared → Prop}, Q (.ref hp.objs.size) ⟨hp.push o, g, d, tk, os⟩ → wpAny (model prog w) A' (pyIter v) Q E ⟨hp, g, d, tk, os⟩ :=
      fun q => B.iter prog w _ _ ⟨hp, g, d, tk, os⟩ _ h1 q
    wp_walk using q1
    refine wpAny_stack_any fun st => wpAny_pure ?_
    split
    · rename_i c _ _ _ _ _
      cases (c == Value.type "enumerate")
      · wp_walk using q1
        exact ⟨_, rfl, h⟩
      · wp_walk using q1
        exact ⟨_, rfl, h⟩
    · wp_walk using q1
      exact ⟨_, rfl, h⟩
section
variable {prog : Program} {w : World} {A : Around} {E : Value → Shared → Prop} {s : Shared}
theorem enum_begins1 {v : Value} {o : Obj} {H : Heap → Prop} {Q : Value → Shared → Prop} (B : Begins v o H) (h1 : H s.heap)
    (h : ∀ h', IsEnum h' (s.heap.objs.size + 1) s.heap.objs.size 0 .none → h'.get? s.heap.objs.size = some o → (∀ b o, s.heap.get? b = some o → h'.get? b = some o) → Q (.ref (s.heap.objs.size + 1)) { s with heap := h' }) :
    wpAny (model prog w) A (call (.type "enumerate") [v]) Q E s := by
  refine callType_new F.called_enumerate (by decide) (F.typeCall_enumerate_1 _) (F.newCall_enumerate_1 _) (fun obj => F.args_object_init_2 obj _) F.entry_enumerate_new (meets_enum1 B) ⟨h1, ?_⟩
  have hz : (s.heap.push o).objs.size = s.heap.objs.size + 1 := Heap.size_push ..
  show _ ∧ _
  rw [hz]
  have he : IsEnum ((s.heap.push o).push { cls := .type "enumerate", data := .fields #[.none, .bool false, .ref s.heap.objs.size, rawInt 0, .none, .none] }) (s.heap.objs.size + 1) s.heap.objs.size 0 .none := by
    have := Heap.get?_push_size (s.heap.push o) (o := { cls := .type "enumerate", data := .fields #[.none, .bool false, .ref s.heap.objs.size, rawInt 0, .none, .none] }) rfl
    rw [hz] at this; exact this
  exact ⟨⟨_, he, rfl⟩, h _ he (Heap.get?_push_of_some _ (Heap.get?_push_size _ B.free)) fun b o x => Heap.get?_push_of_some _ (Heap.get?_push_of_some _ x)⟩
end
def IteG (K : PySem.W.Frag) (k : Sk) (a : Addr) : It :=
  ⟨fun i H => ∃ (xs : List V) (x : V), k.Sq K H a xs ∧ xs[i]? = some x, fun i H v H' => ∃ T x, v = .ref T ∧ H T = none ∧ H' = upd H T (.tup [.int (i : Nat), x]) ∧ ∀ xs, k.Sq K H a xs → xs[i]? = some x, fun i H => ∃ xs : List V, k.Sq K H a xs ∧ i = xs.length⟩
theorem turn_enumG {P : Program} {w : World} {K : PySem.W.Frag} {elts : List Expr} {kk : Nat} {tpos : Pos} {k : Sk} {a e it : Addr} (ne : e ≠ it) (na : a ≠ it) (nb : a ≠ e) :
    Turn P w K (.Tuple elts kk tpos) (IteG K k a) [e, it] e (fun i h => (∃ old, IsEnum h e it ((0 : Int) + (i : Nat)) old) ∧ k.It h it a i) where
  mem := by simp
  obj := fun i h st b hb => by
    obtain ⟨⟨old, he⟩, hi⟩ := st
    have e' : b = e ∨ b = it := by simpa using hb
    rcases e' with z | z
    · rw [z]; exact ⟨_, he, fun v q => nomatch q⟩
    · rw [z]; exact Sk.it_obj hi
  keep := fun i h h' st k => let ⟨⟨old, he⟩, hi⟩ := st; ⟨⟨old, k e (by simp) _ he⟩, Sk.it_at (fun o q => k it (by simp) o q) hi⟩
  item := by
    intro X hP hw hK hc i pins s σ H E I hf st hg
    subst hP hw hK
    obtain ⟨he, hit⟩ := st
    obtain ⟨xs, x, hq, hx⟩ := hg
    obtain ⟨its, rv, p, _⟩ := Sk.items I hq
    obtain ⟨u, hu, ru⟩ := rv.get hx
    have hh : X.A.in1.handled = none := I.ok.hd hc
    have W := GoesN.enumFrom (elts := elts) (x1 := kk) (pos := tpos) 0 (Sk.draws (prog := X.prog) (w := X.w) hh it a na its.toArray k) e ne (by simp [ne, Ne.symm nb]) (by simp)
    have hi : i < its.toArray.size := by rw [List.size_toArray]; exact (List.getElem?_eq_some_iff.mp hu).1
    refine W.goes i s (fun v s2 => ∃ x H', Inv X pins σ H' s2 ∧ RelV x v ∧ (IteG X.K k a).yld i H x H' ∧ ((∃ old, IsEnum s2.heap e it ((0 : Int) + ((i + 1 : Nat) : Int)) old) ∧ k.It s2.heap it a (i + 1)) ∧ ∀ b ∈ [e, it], H' b = none) E hi ⟨he, hit, p⟩ fun v h' tk Y st' hk htk => ?_
    obtain ⟨T, t, x', rfl, hT, hx', hTt⟩ := Y
    obtain ⟨he', hit', _⟩ := st'
    have ex : x' = u := Option.some.inj (by rw [← hx', ← hu]; simp)
    subst ex
    rw [Int.zero_add] at hTt
    have new : ObjOk X.prog X.w (upd H T (.tup [.int (i : Nat), x])) h' T (.tup [.int (i : Nat), x]) := ⟨by show 2 ≤ sizeLine; decide, [.int (i : Nat) t, x'], .cons ⟨_, rfl⟩ (.cons ru .nil), hTt⟩
    have hn : H T = none := I.hok.fresh hT
    have I1 : Inv X pins σ (upd H T (.tup [.int (i : Nat), x])) { s with heap := h', toks := tk } := I.turnedNew (ch := [e, it]) (fun c o hb q => hk c o hb q) hf hT new
    refine ⟨.ref T, _, I1, rfl, ⟨T, x, rfl, hn, rfl, fun l hl => by rw [Sk.inj I hl hq]; exact hx⟩, ⟨he', hit'⟩, fun c hcm => ?_⟩
    have hlt : c < s.heap.objs.size := by
      have e' : c = e ∨ c = it := by simpa using hcm
      obtain ⟨_, he⟩ := he
      rcases e' with q | q
      · rw [q]; exact Heap.lt_size he
      · rw [q]; obtain ⟨_, e1, _⟩ := Sk.it_obj hit; exact Heap.lt_size e1
    rw [upd_ne (Nat.ne_of_lt (Nat.lt_of_lt_of_le hlt hT))]
    exact (hf c hcm).1
  done := by
    intro X hP hw hK hc i pins s σ H E I hf st hg
    subst hP hw hK
    obtain ⟨he, hit⟩ := st
    obtain ⟨xs, hq, rfl⟩ := hg
    obtain ⟨its, rv, p, _⟩ := Sk.items I hq
    have hh : X.A.in1.handled = none := I.ok.hd hc
    have W := GoesN.enumFrom (elts := elts) (x1 := kk) (pos := tpos) 0 (Sk.draws (prog := X.prog) (w := X.w) hh it a na its.toArray k) e ne (by simp [ne, Ne.symm nb]) (by simp)
    have el : its.toArray.size = xs.length := by rw [List.size_toArray, ← rv.length]
    refine W.stops s (fun s1 => Inv X pins σ H s1) E (by rw [el]; exact ⟨he, hit, p⟩) fun h' tk hk htk => ?_
    exact I.turnedL (t' := tk) (ch := [e, it]) (fun c o hb q => hk c o hb q) hf
  self := fun A i s Q E st h => let ⟨⟨_, he⟩, _⟩ := st; wpAny_pyIter_enum he h
def iEnumG (K : PySem.W.Frag) (ta : TA) : TI := fun σ H R => ta σ H fun vs H1 => ∃ (k : Sk) (a : Addr) (xs : List V), vs = [.ref a] ∧ k.Sq K H1 a xs ∧ R (IteG K k a) H1
theorem pi_enumG {X : Cx} {e : Expr} {ta : TA} {p pos tpos : Pos} {elts : List Expr} {kk : Nat} (hg : Gl X "enumerate") (hm : X.mg "enumerate" = none) (ha : PA X [e] ta) (hs : starEach [e] X.env = [(false, eval e X.env)] := by rfl) :
    PI X (.Tuple elts kk tpos) (.Call (.Name "enumerate" p) [e] [] pos) (iEnumG X.K ta) := by
  refine ⟨fun pins s σ H R I h => ?_⟩
  refine Call_ (ld_blt I hg hm boot_enumerate (PyProof.Rows.callWith_type1 (thn (ha.run pos pins s σ H _ I h) fun us s1 ⟨vs, H1, I1, r1, q1⟩ => ?_) hs rfl))
  obtain ⟨k, a, xs, ex, hq, q⟩ := q1
  subst ex
  cases r1 with
  | cons r rr =>
    cases rr
    cases r
    obtain ⟨its, rv, p', l1⟩ := Sk.items I1 hq
    refine enum_begins1 (Sk.begins a its.toArray k) p' fun h' he hit hk => wpAny_pyIter_enum he ?_
    have I2 : Inv X pins σ H1 { s1 with heap := h' } := I1.kept (t' := s1.toks) hk
    refine ⟨s1.heap.objs.size + 1, [s1.heap.objs.size + 1, s1.heap.objs.size], _, _, H1, rfl, I2, turn_enumG (Nat.succ_ne_self _) (Nat.ne_of_lt l1) (Nat.ne_of_lt (Nat.lt_succ_of_lt l1)), ⟨⟨.none, he⟩, Sk.it0 hit⟩, fun b hb => ?_, q⟩
    have e' : b = s1.heap.objs.size + 1 ∨ b = s1.heap.objs.size := by simpa using hb
    have hle : s1.heap.objs.size ≤ b := by
      rcases e' with z | z
      · rw [z]; exact Nat.le_add_right _ _
      · rw [z]; exact Nat.le_refl _
    exact I1.fpOk hle (I1.hok.fresh hle)
end Fx
/-! Fx: a def's body read as a total function of plain data. D: data (PyData). F: the part of the heap that never changes any more (all data lies there); an object that may still change is OWNED by one slot; G: objects of callers, not touched. -/
namespace Fx
open PySem PySem.Spec PyProof.Rows L2
variable [Wd]
abbrev D := PyData
abbrev Kf := PySem.W.Frag
def keyD : D → Option Key
  | .int i => some (.inl i)
  | .str s => some (.inr s)
  | _ => none
mutual
/-- v is the data d, all of it in F -/
def Rp (K : Kf) (F : Hp) : D → V → Prop
  | .none, v => v = .non
  | .bool b, v => v = .bl b
  | .int i, v => v = .int i
  | .str s, v => v = .str s
  | .list ds, v => ∃ a vs, v = .ref a ∧ F a = some (.lst vs) ∧ Rps K F ds vs
  | .tuple ds, v => ∃ a vs, v = .ref a ∧ SqT K F a vs ∧ Rps K F ds vs
  | .dict kvs, v => ∃ a o, v = .ref a ∧ ((∃ ws, F a = some (.frz o (.dK ws)) ∧ Rpk K F kvs ws) ∨ ∃ es, F a = some (.frz o (DictO a es)) ∧ Rpe K F kvs es)
def Rps (K : Kf) (F : Hp) : List D → List V → Prop
  | [], vs => vs = []
  | d :: ds, vs => ∃ v r, vs = v :: r ∧ Rp K F d v ∧ Rps K F ds r
/-- the entries of a dict with flat keys, with tuples as keys -/
def Rpk (K : Kf) (F : Hp) : List (D × D) → List (Key × V) → Prop
  | [], ws => ws = []
  | (k, d) :: kvs, ws => ∃ q v r, ws = (q, v) :: r ∧ keyD k = some q ∧ Rp K F d v ∧ Rpk K F kvs r
def Rpe (K : Kf) (F : Hp) : List (D × D) → List (D × Addr × V) → Prop
  | [], es => es = []
  | (k, d) :: kvs, es => ∃ b v r, es = (k, b, v) :: r ∧ Rp K F k (.ref b) ∧ Rp K F d v ∧ Rpe K F kvs r
end
section
variable {K : Kf} {F F' H H' : Hp}
theorem Same.seqT {a : Addr} {xs : List V} (e : Same F F') (h : SqT K F a xs) : SqT K F' a xs := by
  rcases h with (h | ⟨o, h⟩) | h
  · exact .inl (.inl (e _ _ h))
  · exact .inl (.inr ⟨o, e _ _ h⟩)
  · exact .inr h
mutual
theorem Rp.mono (e : Same F F') : ∀ (d : D) (v : V), Rp K F d v → Rp K F' d v
  | .none, _, h => h
  | .bool _, _, h => h
  | .int _, _, h => h
  | .str _, _, h => h
  | .list ds, _, h => by
    obtain ⟨a, vs, rfl, h1, h2⟩ := h
    exact ⟨a, vs, rfl, e _ _ h1, Rps.mono e ds vs h2⟩
  | .tuple ds, _, h => by
    obtain ⟨a, vs, rfl, h1, h2⟩ := h
    exact ⟨a, vs, rfl, Same.seqT e h1, Rps.mono e ds vs h2⟩
  | .dict kvs, _, h => by
    obtain ⟨a, o, rfl, h⟩ := h
    rcases h with ⟨ws, h1, h2⟩ | ⟨es, h1, h2⟩
    · exact ⟨a, o, rfl, .inl ⟨ws, e _ _ h1, Rpk.mono e kvs ws h2⟩⟩
    · exact ⟨a, o, rfl, .inr ⟨es, e _ _ h1, Rpe.mono e kvs es h2⟩⟩
theorem Rps.mono (e : Same F F') : ∀ (ds : List D) (vs : List V), Rps K F ds vs → Rps K F' ds vs
  | [], _, h => h
  | d :: ds, _, h => by
    obtain ⟨v, r, rfl, h1, h2⟩ := h
    exact ⟨v, r, rfl, Rp.mono e d v h1, Rps.mono e ds r h2⟩
theorem Rpk.mono (e : Same F F') : ∀ (ds : List (D × D)) (vs : List (Key × V)), Rpk K F ds vs → Rpk K F' ds vs
  | [], _, h => h
  | (k, d) :: ds, _, h => by
    obtain ⟨q, v, r, rfl, h1, h2, h3⟩ := h
    exact ⟨q, v, r, rfl, h1, Rp.mono e d v h2, Rpk.mono e ds r h3⟩
theorem Rpe.mono (e : Same F F') : ∀ (ds : List (D × D)) (vs : List (D × Addr × V)), Rpe K F ds vs → Rpe K F' ds vs
  | [], _, h => h
  | (k, d) :: ds, _, h => by
    obtain ⟨b, v, r, rfl, h1, h2, h3⟩ := h
    exact ⟨b, v, r, rfl, Rp.mono e k _ h1, Rp.mono e d v h2, Rpe.mono e ds r h3⟩
end
mutual
theorem Rp.dp : ∀ (d : D) (v : V), d.canLay0 = true → Rp K F d v → Dp K F v d
  | .none, _, _, h => by cases h; exact .non
  | .bool b, _, _, h => by cases h; exact .bl b
  | .int i, _, _, h => by cases h; exact .int i
  | .str s, _, _, h => by cases h; exact .str s
  | .list ds, _, c, h => by
    obtain ⟨a, vs, rfl, h1, h2⟩ := h
    exact .lst (SqL.of h1) (Rps.dp ds vs c h2)
  | .tuple ds, _, c, h => by
    obtain ⟨a, vs, rfl, h1, h2⟩ := h
    exact .tup h1 (Rps.dp ds vs c h2)
  | .dict _, _, c, h => by cases c
theorem Rps.dp : ∀ (ds : List D) (vs : List V), PyData.canLayAll0 ds = true → Rps K F ds vs → DpAll K F vs ds
  | [], _, _, h => by cases h; exact .nil
  | d :: ds, _, c, h => by
    have c : (d.canLay0 && PyData.canLayAll0 ds) = true := c
    rw [Bool.and_eq_true] at c
    obtain ⟨v, r, rfl, h1, h2⟩ := h
    exact .cons (Rp.dp d v c.1 h1) (Rps.dp ds r c.2 h2)
end
theorem Rps.length : ∀ {ds : List D} {vs : List V}, Rps K F ds vs → vs.length = ds.length
  | [], _, h => by cases h; rfl
  | d :: ds, _, h => by
    obtain ⟨v, r, rfl, h1, h2⟩ := h
    show r.length + 1 = ds.length + 1
    rw [Rps.length h2]
theorem Rps.get : ∀ {ds : List D} {vs : List V} {i : Nat} {d : D}, Rps K F ds vs → ds[i]? = some d → ∃ v, vs[i]? = some v ∧ Rp K F d v
  | [], _, _, _, _, e => by simp at e
  | d :: ds, _, 0, _, h, e => by
    obtain ⟨v, r, rfl, h1, h2⟩ := h
    simp at e
    subst e
    exact ⟨v, rfl, h1⟩
  | d :: ds, _, i + 1, _, h, e => by
    obtain ⟨v, r, rfl, h1, h2⟩ := h
    obtain ⟨w, hw, q⟩ := Rps.get (i := i) h2 (by simpa using e)
    exact ⟨w, by simpa using hw, q⟩
theorem Rps.getV : ∀ {ds : List D} {vs : List V} {i : Nat} {v : V}, Rps K F ds vs → vs[i]? = some v → ∃ d, ds[i]? = some d ∧ Rp K F d v
  | [], _, _, _, h, e => by cases h; simp at e
  | d :: ds, _, 0, _, h, e => by
    obtain ⟨v, r, rfl, h1, h2⟩ := h
    simp at e
    subst e
    exact ⟨d, rfl, h1⟩
  | d :: ds, _, i + 1, _, h, e => by
    obtain ⟨v, r, rfl, h1, h2⟩ := h
    obtain ⟨w, hw, q⟩ := Rps.getV (i := i) h2 (by simpa using e)
    exact ⟨w, by simpa using hw, q⟩
theorem Rps.append : ∀ {ds es : List D} {vs ws : List V}, Rps K F ds vs → Rps K F es ws → Rps K F (ds ++ es) (vs ++ ws)
  | [], _, _, _, h, g => by cases h; exact g
  | d :: ds, _, _, _, h, g => by
    obtain ⟨v, r, rfl, h1, h2⟩ := h
    exact ⟨v, _, rfl, h1, Rps.append h2 g⟩
theorem Rps.one {d : D} {v : V} (r : Rp K F d v) : Rps K F [d] [v] := ⟨v, [], rfl, r, rfl⟩
theorem Rps.take : ∀ {ds : List D} {vs : List V} (n : Nat), Rps K F ds vs → Rps K F (ds.take n) (vs.take n)
  | [], _, n, h => by cases h; simp [Rps]
  | d :: ds, _, 0, h => by
    obtain ⟨v, r, rfl, h1, h2⟩ := h
    simp [Rps]
  | d :: ds, _, n + 1, h => by
    obtain ⟨v, r, rfl, h1, h2⟩ := h
    exact ⟨v, _, rfl, h1, Rps.take n h2⟩
theorem Rps.drop : ∀ {ds : List D} {vs : List V} (n : Nat), Rps K F ds vs → Rps K F (ds.drop n) (vs.drop n)
  | [], _, n, h => by cases h; simp [Rps]
  | d :: ds, _, 0, h => h
  | d :: ds, _, n + 1, h => by
    obtain ⟨v, r, rfl, h1, h2⟩ := h
    exact Rps.drop n h2
theorem Rps.set {d : D} {v : V} (hd : Rp K F d v) : ∀ {ds : List D} {vs : List V} (i : Nat), Rps K F ds vs → Rps K F (ds.set i d) (vs.set i v)
  | [], _, _, h => by cases h; simp [Rps]
  | d :: ds, _, 0, h => by
    obtain ⟨v, r, rfl, h1, h2⟩ := h
    exact ⟨_, r, rfl, hd, h2⟩
  | d :: ds, _, i + 1, h => by
    obtain ⟨v, r, rfl, h1, h2⟩ := h
    exact ⟨v, _, rfl, h1, Rps.set hd i h2⟩
theorem Rps.eraseIdx : ∀ {ds : List D} {vs : List V} (i : Nat), Rps K F ds vs → Rps K F (ds.eraseIdx i) (vs.eraseIdx i)
  | [], _, _, h => by cases h; simp [Rps]
  | d :: ds, _, 0, h => by
    obtain ⟨v, r, rfl, h1, h2⟩ := h
    exact h2
  | d :: ds, _, i + 1, h => by
    obtain ⟨v, r, rfl, h1, h2⟩ := h
    exact ⟨v, _, rfl, h1, Rps.eraseIdx i h2⟩
theorem Rps.reverse : ∀ {ds : List D} {vs : List V}, Rps K F ds vs → Rps K F ds.reverse vs.reverse
  | [], _, h => by cases h; simp [Rps]
  | d :: ds, _, h => by
    obtain ⟨v, r, rfl, h1, h2⟩ := h
    rw [List.reverse_cons, List.reverse_cons]
    exact Rps.append (Rps.reverse h2) ⟨v, [], rfl, h1, rfl⟩
theorem Rps.replicate {d : D} {v : V} (hd : Rp K F d v) : ∀ (n : Nat), Rps K F (List.replicate n d) (List.replicate n v)
  | 0 => rfl
  | n + 1 => ⟨v, _, rfl, hd, Rps.replicate hd n⟩
theorem Rps.flat {ds : List D} {vs : List V} (h : Rps K F ds vs) : ∀ (n : Nat), Rps K F (List.replicate n ds).flatten (List.replicate n vs).flatten
  | 0 => rfl
  | n + 1 => by
    rw [List.replicate_succ, List.replicate_succ, List.flatten_cons, List.flatten_cons]
    exact Rps.append h (Rps.flat h n)
theorem Rps.ints : ∀ {ns : List Int} {vs : List V}, Rps K F (ns.map PyData.int) vs ↔ vs = ns.map V.int
  | [], _ => Iff.rfl
  | n :: ns, vs => by
    constructor
    · rintro ⟨v, r, rfl, h1, h2⟩
      have h1 : v = .int n := h1
      subst h1
      rw [Rps.ints.mp h2]
      rfl
    · rintro rfl
      exact ⟨_, _, rfl, rfl, Rps.ints.mpr rfl⟩
theorem Rps.strs : ∀ {ns : List Str} {vs : List V}, Rps K F (ns.map PyData.str) vs ↔ vs = ns.map V.str
  | [], _ => Iff.rfl
  | n :: ns, vs => by
    constructor
    · rintro ⟨v, r, rfl, h1, h2⟩
      have h1 : v = .str n := h1
      subst h1
      rw [Rps.strs.mp h2]
      rfl
    · rintro rfl
      exact ⟨_, _, rfl, rfl, Rps.strs.mpr rfl⟩
theorem Rps.bools : ∀ {ns : List Bool} {vs : List V}, Rps K F (ns.map PyData.bool) vs ↔ vs = ns.map V.bl
  | [], _ => Iff.rfl
  | n :: ns, vs => by
    constructor
    · rintro ⟨v, r, rfl, h1, h2⟩
      have h1 : v = .bl n := h1
      subst h1
      rw [Rps.bools.mp h2]
      rfl
    · rintro rfl
      exact ⟨_, _, rfl, rfl, Rps.bools.mpr rfl⟩
end
theorem Same.new {H : Hp} {p : Addr} {o : HO} (h : H p = none) : Same H (upd H p o) := fun a u e => by
  rw [upd_ne (ne_of_none e h)]
  exact e
/-! ### objects that may change, slots -/
inductive Own where
  | lst (xs : List D)
  | dk (kvs : List (Key × D))
  | dt (kvs : List (List Key × D))
  | dd (kvs : List (D × D))
/-- p's dict, not locked, of these entries -/
def DcAt (K : Kf) (F H : Hp) (p : Addr) (kvs : List (D × D)) : Prop := (∃ ws, H p = some (.dK ws) ∧ Rpk K F kvs ws) ∨ ∃ es : List (D × Addr × V), H p = some (DictO p es) ∧ Rpe K F kvs es
def OwnAt (K : Kf) (F H : Hp) (p : Addr) : Own → Prop
  | .lst xs => ∃ vs, H p = some (.lst vs) ∧ Rps K F xs vs
  | .dk kvs => ∃ ws : List (Key × V), H p = some (.dK ws) ∧ ws.map (·.1) = kvs.map (·.1) ∧ Rps K F (kvs.map (·.2)) (ws.map (·.2))
  | .dt kvs => ∃ ws : List (List Key × V), H p = some (.dT ws) ∧ ws.map (·.1) = kvs.map (·.1) ∧ Rps K F (kvs.map (·.2)) (ws.map (·.2))
  | .dd kvs => DcAt K F H p kvs
/-- own objects within own objects -/
inductive Tr where
  | v (d : D)
  | f (b : Own)
  | l (ts : List Tr)
  | k (kvs : List (Key × Tr))
  | ob (c : Str) (fs : List (Str × Tr))
mutual
/-- v is the tree; as: the addresses of all its own objects -/
def TrAt (K : Kf) (F H : Hp) : Tr → V → List Addr → Prop
  | .v d, v, as => as = [] ∧ Rp K F d v
  | .f b, v, as => ∃ p, v = .ref p ∧ as = [p] ∧ OwnAt K F H p b
  | .l ts, v, as => ∃ p vs bs, v = .ref p ∧ as = p :: bs ∧ H p = some (.lst vs) ∧ TrsAt K F H ts vs bs
  | .k kvs, v, as => ∃ p ws bs, v = .ref p ∧ as = p :: bs ∧ H p = some (.dK ws) ∧ TrkAt K F H kvs ws bs
  | .ob c fs, v, as => ∃ p C dx ws bs, v = .ref p ∧ as = p :: dx :: bs ∧ H p = some (.ins C dx ws) ∧ H dx = some (.own p) ∧ PySem.W.nsIn K mainGlobals c = some (some (.ref C)) ∧ TrfAt K F H fs ws bs
def TrsAt (K : Kf) (F H : Hp) : List Tr → List V → List Addr → Prop
  | [], vs, as => vs = [] ∧ as = []
  | t :: ts, vs, as => ∃ v ws a1 a2, vs = v :: ws ∧ as = a1 ++ a2 ∧ TrAt K F H t v a1 ∧ TrsAt K F H ts ws a2
def TrkAt (K : Kf) (F H : Hp) : List (Key × Tr) → List (Key × V) → List Addr → Prop
  | [], vs, as => vs = [] ∧ as = []
  | (k, t) :: ts, vs, as => ∃ v ws a1 a2, vs = (k, v) :: ws ∧ as = a1 ++ a2 ∧ TrAt K F H t v a1 ∧ TrkAt K F H ts ws a2
def TrfAt (K : Kf) (F H : Hp) : List (Str × Tr) → List (Str × V) → List Addr → Prop
  | [], vs, as => vs = [] ∧ as = []
  | (k, t) :: ts, vs, as => ∃ v ws a1 a2, vs = (k, v) :: ws ∧ as = a1 ++ a2 ∧ TrAt K F H t v a1 ∧ TrfAt K F H ts ws a2
end
/-- a slot: nothing known; data; an own object; the script (a list of ints, read only); an own tree -/
inductive Sl where
  | u
  | v (d : D)
  | o (b : Own)
  | s (ns : List Int)
  | t (q : Tr)
abbrev Rho := List Sl
def Sl.tr : Sl → Option Tr
  | .o b => some (.f b)
  | .t q => some q
  | _ => none
section
variable {K : Kf} {F F' G H H' : Hp} {σ σ' : L2.St} {ρ ρ' : Rho}
theorem OwnAt.some {p : Addr} : ∀ {b : Own}, OwnAt K F H p b → ∃ o, H p = some o
  | .lst _, ⟨_, h, _⟩ => ⟨_, h⟩
  | .dk _, ⟨_, h, _⟩ => ⟨_, h⟩
  | .dt _, ⟨_, h, _⟩ => ⟨_, h⟩
  | .dd _, .inl ⟨_, h, _⟩ => ⟨_, h⟩
  | .dd _, .inr ⟨_, h, _⟩ => ⟨_, h⟩
theorem OwnAt.mono {p : Addr} (e : Same F F') (h : H' p = H p) : ∀ {b : Own}, OwnAt K F H p b → OwnAt K F' H' p b
  | .lst _, ⟨vs, h1, h2⟩ => ⟨vs, h.trans h1, Rps.mono e _ _ h2⟩
  | .dk _, ⟨vs, h1, h2, h3⟩ => ⟨vs, h.trans h1, h2, Rps.mono e _ _ h3⟩
  | .dt _, ⟨vs, h1, h2, h3⟩ => ⟨vs, h.trans h1, h2, Rps.mono e _ _ h3⟩
  | .dd _, .inl ⟨vs, h1, h2⟩ => .inl ⟨vs, h.trans h1, Rpk.mono e _ _ h2⟩
  | .dd _, .inr ⟨vs, h1, h2⟩ => .inr ⟨vs, h.trans h1, Rpe.mono e _ _ h2⟩
theorem OwnAt.keep {p : Addr} (e : Same F F') (s : Same H H') {b : Own} (h : OwnAt K F H p b) : OwnAt K F' H' p b := by
  obtain ⟨o, ho⟩ := h.some
  exact h.mono e ((s _ _ ho).trans ho.symm)
mutual
theorem TrAt.mono (e : Same F F') : ∀ (t : Tr) (v : V) (as : List Addr), (∀ a ∈ as, H' a = H a) → TrAt K F H t v as → TrAt K F' H' t v as
  | .v d, _, _, _, ⟨h1, h2⟩ => ⟨h1, Rp.mono e _ _ h2⟩
  | .f b, _, _, k, ⟨p, h1, h2, h3⟩ => ⟨p, h1, h2, h3.mono e (k p (by rw [h2]; exact List.mem_cons_self))⟩
  | .l ts, _, _, k, ⟨p, vs, bs, h1, h2, h3, h4⟩ => ⟨p, vs, bs, h1, h2, (k p (by rw [h2]; exact List.mem_cons_self)).trans h3, TrsAt.mono e ts _ _ (fun a ha => k a (by rw [h2]; exact List.mem_cons_of_mem _ ha)) h4⟩
  | .k kvs, _, _, k, ⟨p, ws, bs, h1, h2, h3, h5⟩ => ⟨p, ws, bs, h1, h2, (k p (by rw [h2]; exact List.mem_cons_self)).trans h3, TrkAt.mono e kvs _ _ (fun a ha => k a (by rw [h2]; exact List.mem_cons_of_mem _ ha)) h5⟩
  | .ob c fs, _, _, k, ⟨p, C, dx, ws, bs, h1, h2, h3, h4, h5, h6⟩ => ⟨p, C, dx, ws, bs, h1, h2, (k p (by rw [h2]; exact List.mem_cons_self)).trans h3, (k dx (by rw [h2]; exact List.mem_cons_of_mem _ List.mem_cons_self)).trans h4, h5, TrfAt.mono e fs _ _ (fun a ha => k a (by rw [h2]; exact List.mem_cons_of_mem _ (List.mem_cons_of_mem _ ha))) h6⟩
theorem TrsAt.mono (e : Same F F') : ∀ (t : List Tr) (v : List V) (as : List Addr), (∀ a ∈ as, H' a = H a) → TrsAt K F H t v as → TrsAt K F' H' t v as
  | [], _, _, _, h => h
  | t :: ts, _, _, k, ⟨v, ws, a1, a2, h1, h2, h3, h4⟩ => ⟨v, ws, a1, a2, h1, h2, TrAt.mono e t _ _ (fun a ha => k a (by rw [h2]; exact List.mem_append_left _ ha)) h3, TrsAt.mono e ts _ _ (fun a ha => k a (by rw [h2]; exact List.mem_append_right _ ha)) h4⟩
theorem TrkAt.mono (e : Same F F') : ∀ (t : List (Key × Tr)) (v : List (Key × V)) (as : List Addr), (∀ a ∈ as, H' a = H a) → TrkAt K F H t v as → TrkAt K F' H' t v as
  | [], _, _, _, h => h
  | (_, t) :: ts, _, _, k, ⟨v, ws, a1, a2, h1, h2, h3, h4⟩ => ⟨v, ws, a1, a2, h1, h2, TrAt.mono e t _ _ (fun a ha => k a (by rw [h2]; exact List.mem_append_left _ ha)) h3, TrkAt.mono e ts _ _ (fun a ha => k a (by rw [h2]; exact List.mem_append_right _ ha)) h4⟩
theorem TrfAt.mono (e : Same F F') : ∀ (t : List (Str × Tr)) (v : List (Str × V)) (as : List Addr), (∀ a ∈ as, H' a = H a) → TrfAt K F H t v as → TrfAt K F' H' t v as
  | [], _, _, _, h => h
  | (_, t) :: ts, _, _, k, ⟨v, ws, a1, a2, h1, h2, h3, h4⟩ => ⟨v, ws, a1, a2, h1, h2, TrAt.mono e t _ _ (fun a ha => k a (by rw [h2]; exact List.mem_append_left _ ha)) h3, TrfAt.mono e ts _ _ (fun a ha => k a (by rw [h2]; exact List.mem_append_right _ ha)) h4⟩
end
mutual
theorem TrAt.some : ∀ (t : Tr) (v : V) (as : List Addr), TrAt K F H t v as → ∀ a ∈ as, ∃ o, H a = some o
  | .v d, _, _, ⟨h1, _⟩, a, ha => by rw [h1] at ha; cases ha
  | .f b, _, _, ⟨p, _, h2, h3⟩, a, ha => by rw [h2, List.mem_singleton] at ha; subst ha; exact h3.some
  | .l ts, _, _, ⟨p, vs, bs, h1, h2, h3, h4⟩, a, ha => by
    rw [h2] at ha
    rcases List.mem_cons.mp ha with rfl | ha
    · exact ⟨_, h3⟩
    · exact TrsAt.some ts _ _ h4 a ha
  | .k kvs, _, _, ⟨p, ws, bs, h1, h2, h3, h5⟩, a, ha => by
    rw [h2] at ha
    rcases List.mem_cons.mp ha with rfl | ha
    · exact ⟨_, h3⟩
    · exact TrkAt.some kvs _ _ h5 a ha
  | .ob c fs, _, _, ⟨p, C, dx, ws, bs, h1, h2, h3, h4, h5, h6⟩, a, ha => by
    rw [h2] at ha
    rcases List.mem_cons.mp ha with rfl | ha
    · exact ⟨_, h3⟩
    · rcases List.mem_cons.mp ha with rfl | ha
      · exact ⟨_, h4⟩
      · exact TrfAt.some fs _ _ h6 a ha
theorem TrsAt.some : ∀ (t : List Tr) (v : List V) (as : List Addr), TrsAt K F H t v as → ∀ a ∈ as, ∃ o, H a = some o
  | [], _, _, ⟨_, h⟩, a, ha => by rw [h] at ha; cases ha
  | t :: ts, _, _, ⟨v, ws, a1, a2, h1, h2, h3, h4⟩, a, ha => by
    rw [h2] at ha
    rcases List.mem_append.mp ha with ha | ha
    · exact TrAt.some t _ _ h3 a ha
    · exact TrsAt.some ts _ _ h4 a ha
theorem TrkAt.some : ∀ (t : List (Key × Tr)) (v : List (Key × V)) (as : List Addr), TrkAt K F H t v as → ∀ a ∈ as, ∃ o, H a = some o
  | [], _, _, ⟨_, h⟩, a, ha => by rw [h] at ha; cases ha
  | (_, t) :: ts, _, _, ⟨v, ws, a1, a2, h1, h2, h3, h4⟩, a, ha => by
    rw [h2] at ha
    rcases List.mem_append.mp ha with ha | ha
    · exact TrAt.some t _ _ h3 a ha
    · exact TrkAt.some ts _ _ h4 a ha
theorem TrfAt.some : ∀ (t : List (Str × Tr)) (v : List (Str × V)) (as : List Addr), TrfAt K F H t v as → ∀ a ∈ as, ∃ o, H a = some o
  | [], _, _, ⟨_, h⟩, a, ha => by rw [h] at ha; cases ha
  | (_, t) :: ts, _, _, ⟨v, ws, a1, a2, h1, h2, h3, h4⟩, a, ha => by
    rw [h2] at ha
    rcases List.mem_append.mp ha with ha | ha
    · exact TrAt.some t _ _ h3 a ha
    · exact TrfAt.some ts _ _ h4 a ha
end
mutual
theorem TrAt.det : ∀ (t : Tr) (v : V) (as bs : List Addr), TrAt K F H t v as → TrAt K F' H t v bs → as = bs
  | .v d, _, _, _, ⟨h1, _⟩, ⟨g1, _⟩ => by rw [h1, g1]
  | .f b, _, _, _, ⟨p, h1, h2, h3⟩, ⟨q, g1, g2, g3⟩ => by rw [h1] at g1; cases g1; rw [h2, g2]
  | .l ts, _, _, _, ⟨p, vs, bs, h1, h2, h3, h4⟩, ⟨q, us, cs, g1, g2, g3, g4⟩ => by
    rw [h1] at g1; cases g1
    rw [h3] at g3; cases g3
    rw [h2, g2, TrsAt.det ts _ _ _ h4 g4]
  | .k kvs, _, _, _, ⟨p, ws, bs, h1, h2, h3, h5⟩, ⟨q, us, cs, g1, g2, g3, g5⟩ => by
    rw [h1] at g1; cases g1
    rw [h3] at g3; cases g3
    rw [h2, g2, TrkAt.det kvs _ _ _ h5 g5]
  | .ob c fs, _, _, _, ⟨p, C, dx, ws, bs, h1, h2, h3, h4, h5, h6⟩, ⟨q, C', dy, us, cs, g1, g2, g3, g4, g5, g6⟩ => by
    rw [h1] at g1; cases g1
    rw [h3] at g3; cases g3
    rw [h2, g2, TrfAt.det fs _ _ _ h6 g6]
theorem TrsAt.det : ∀ (t : List Tr) (v : List V) (as bs : List Addr), TrsAt K F H t v as → TrsAt K F' H t v bs → as = bs
  | [], _, _, _, ⟨_, h⟩, ⟨_, g⟩ => by rw [h, g]
  | t :: ts, _, _, _, ⟨v, ws, a1, a2, h1, h2, h3, h4⟩, ⟨u, us, b1, b2, g1, g2, g3, g4⟩ => by
    rw [h1] at g1; cases g1
    rw [h2, g2, TrAt.det t _ _ _ h3 g3, TrsAt.det ts _ _ _ h4 g4]
theorem TrkAt.det : ∀ (t : List (Key × Tr)) (v : List (Key × V)) (as bs : List Addr), TrkAt K F H t v as → TrkAt K F' H t v bs → as = bs
  | [], _, _, _, ⟨_, h⟩, ⟨_, g⟩ => by rw [h, g]
  | (_, t) :: ts, _, _, _, ⟨v, ws, a1, a2, h1, h2, h3, h4⟩, ⟨u, us, b1, b2, g1, g2, g3, g4⟩ => by
    rw [h1] at g1; cases g1
    rw [h2, g2, TrAt.det t _ _ _ h3 g3, TrkAt.det ts _ _ _ h4 g4]
theorem TrfAt.det : ∀ (t : List (Str × Tr)) (v : List (Str × V)) (as bs : List Addr), TrfAt K F H t v as → TrfAt K F' H t v bs → as = bs
  | [], _, _, _, ⟨_, h⟩, ⟨_, g⟩ => by rw [h, g]
  | (_, t) :: ts, _, _, _, ⟨v, ws, a1, a2, h1, h2, h3, h4⟩, ⟨u, us, b1, b2, g1, g2, g3, g4⟩ => by
    rw [h1] at g1; cases g1
    rw [h2, g2, TrAt.det t _ _ _ h3 g3, TrfAt.det ts _ _ _ h4 g4]
end
theorem TrAt.keep (e : Same F F') (s : Same H H') {t : Tr} {v : V} {as : List Addr} (h : TrAt K F H t v as) : TrAt K F' H' t v as := h.mono e _ _ _ fun a ha => by
  obtain ⟨o, ho⟩ := h.some _ _ _ a ha
  exact (s _ _ ho).trans ho.symm
structure Ok (K : Kf) (F G H : Hp) (σ : L2.St) (ρ : Rho) : Prop where
  sub : Same F H
  gsub : Same G H
  disj : ∀ (a : Addr) (o : HO), G a = some o → F a = none
  len : σ.length = ρ.length
  val : ∀ (i : Nat) (d : D), ρ[i]? = some (.v d) → ∃ v, σ[i]? = some (some v) ∧ Rp K F d v
  hold : ∀ (i : Nat) (x : Sl) (t : Tr), ρ[i]? = some x → x.tr = some t → ∃ v as, σ[i]? = some (some v) ∧ TrAt K F H t v as ∧ as.Nodup ∧ ∀ a ∈ as, F a = none ∧ G a = none
  scr : ∀ (i : Nat) (ns : List Int), ρ[i]? = some (.s ns) → ∃ a, σ[i]? = some (some (.ref a)) ∧ SqL K F a (ns.map V.int)
  apar : ∀ (i j : Nat) (x y : Sl) (t u : Tr), i ≠ j → ρ[i]? = some x → x.tr = some t → ρ[j]? = some y → y.tr = some u → ∃ v w as bs, σ[i]? = some (some v) ∧ σ[j]? = some (some w) ∧ TrAt K F H t v as ∧ TrAt K F H u w bs ∧ ∀ a ∈ as, a ∉ bs
theorem Ok.own (ok : Ok K F G H σ ρ) (i : Nat) (b : Own) (h : ρ[i]? = some (.o b)) : ∃ p, σ[i]? = some (some (.ref p)) ∧ F p = none ∧ G p = none ∧ OwnAt K F H p b := by
  obtain ⟨v, as, h1, ⟨p, rfl, rfl, h2⟩, _, h3⟩ := ok.hold i _ _ h rfl
  exact ⟨p, h1, (h3 p List.mem_cons_self).1, (h3 p List.mem_cons_self).2, h2⟩
theorem Ok.apart (ok : Ok K F G H σ ρ) (i j : Nat) (b c : Own) (p : Addr) (hij : i ≠ j) (h1 : ρ[i]? = some (.o b)) (h2 : ρ[j]? = some (.o c)) (h3 : σ[i]? = some (some (.ref p))) : σ[j]? ≠ some (some (.ref p)) := fun h4 => by
  obtain ⟨v, w, as, bs, g1, g2, ⟨q, rfl, rfl, _⟩, ⟨r, rfl, rfl, _⟩, g5⟩ := ok.apar i j _ _ _ _ hij h1 rfl h2 rfl
  rw [h3] at g1; cases g1
  rw [h4] at g2; cases g2
  exact g5 p List.mem_cons_self List.mem_cons_self
/-- no slot owns p, and it is no data -/
structure New (K : Kf) (F G H : Hp) (σ : L2.St) (ρ : Rho) (p : Addr) : Prop where
  f : F p = none
  g : G p = none
  s : ∀ (i : Nat) (x : Sl) (t : Tr), ρ[i]? = some x → x.tr = some t → ∃ v as, σ[i]? = some (some v) ∧ TrAt K F H t v as ∧ p ∉ as
/-- v is the tree, all of it new -/
def NewT (K : Kf) (F G H : Hp) (σ : L2.St) (ρ : Rho) (t : Tr) (v : V) : Prop := ∃ as, TrAt K F H t v as ∧ as.Nodup ∧ ∀ a ∈ as, New K F G H σ ρ a
/-- a tree's address in a slot, as the slot tells it -/
theorem Ok.fp {K' : Kf} (ok : Ok K F G H σ ρ) {i : Nat} {x : Sl} {t : Tr} {v : V} {as : List Addr} (h : ρ[i]? = some x) (e : x.tr = some t) (hs : σ[i]? = some (some v)) (ha : TrAt K F' H t v as) : as.Nodup ∧ ∀ a ∈ as, F a = none ∧ G a = none := by
  obtain ⟨w, bs, h1, h2, h3, h4⟩ := ok.hold i x t h e
  rw [hs] at h1; cases h1
  rw [TrAt.det _ _ _ _ ha h2]
  exact ⟨h3, h4⟩
theorem Ok.ge (ok : Ok K F G H σ ρ) (e : Same F F') (s : Same F' H') (t : Same H H') (n : ∀ a o, F' a = some o → F a = some o ∨ H a = none) : Ok K F' G H' σ ρ where
  sub := s
  gsub := ok.gsub.trans t
  disj := fun a o h => by
    cases q : F' a with
    | none => rfl
    | some u =>
      rcases n a u q with z | z
      · rw [ok.disj a o h] at z; cases z
      · rw [ok.gsub a o h] at z; cases z
  len := ok.len
  val := fun i d h => let ⟨v, h1, h2⟩ := ok.val i d h; ⟨v, h1, Rp.mono e _ _ h2⟩
  hold := fun i x u h hx => by
    obtain ⟨v, as, h1, h2, h3, h4⟩ := ok.hold i x u h hx
    refine ⟨v, as, h1, h2.keep e t, h3, fun a ha => ⟨?_, (h4 a ha).2⟩⟩
    obtain ⟨o, ho⟩ := h2.some _ _ _ a ha
    cases q : F' a with
    | none => rfl
    | some u =>
      rcases n a u q with z | z
      · rw [(h4 a ha).1] at z; cases z
      · rw [ho] at z; cases z
  scr := fun i ns h => let ⟨a, h1, h2⟩ := ok.scr i ns h; ⟨a, h1, e.seq h2⟩
  apar := fun i j x y u w hij h1 h2 h3 h4 => by
    obtain ⟨v, v', as, bs, g1, g2, g3, g4, g5⟩ := ok.apar i j x y u w hij h1 h2 h3 h4
    exact ⟨v, v', as, bs, g1, g2, g3.keep e t, g4.keep e t, g5⟩
theorem New.ge {p : Addr} (n : New K F G H σ ρ p) (e : Same F F') (t : Same H H') (f : F' p = none) : New K F' G H' σ ρ p := ⟨f, n.g, fun i x u h hx => by
  obtain ⟨v, as, h1, h2, h3⟩ := n.s i x u h hx
  exact ⟨v, as, h1, h2.keep e t, h3⟩⟩
theorem Ok.heap (ok : Ok K F G H σ ρ) (t : Same H H') : Ok K F G H' σ ρ := ok.ge (Same.refl F) (ok.sub.trans t) t fun _ _ h => .inl h
/-- a new object, data at once -/
theorem Ok.alloc {p : Addr} {o : HO} (ok : Ok K F G H σ ρ) (hp : H p = none) : Same F (upd F p o) ∧ Ok K (upd F p o) G (upd H p o) σ ρ := by
  have hf : F p = none := Same.free ok.sub hp
  refine ⟨Same.new hf, ok.ge (Same.new hf) (fun a u h => ?_) (Same.new hp) fun a u h => ?_⟩
  · by_cases e : a = p
    · subst e
      rw [upd_same] at h ⊢
      exact h
    · rw [upd_ne e] at h ⊢
      exact ok.sub _ _ h
  · by_cases e : a = p
    · exact .inr (e ▸ hp)
    · rw [upd_ne e] at h
      exact .inl h
/-- what stands in no heap is new -/
theorem Ok.newNone {p : Addr} (ok : Ok K F G H σ ρ) (hp : H p = none) : New K F G H σ ρ p := ⟨Same.free ok.sub hp, Same.free ok.gsub hp, fun i x t h hx => by
  obtain ⟨v, as, h1, h2, _, _⟩ := ok.hold i x t h hx
  refine ⟨v, as, h1, h2, fun ha => ?_⟩
  obtain ⟨o, ho⟩ := h2.some _ _ _ p ha
  rw [hp] at ho
  cases ho⟩
/-- a new object, owned by who made it -/
theorem Ok.fresh {p : Addr} {o : HO} (ok : Ok K F G H σ ρ) (hp : H p = none) : Ok K F G (upd H p o) σ ρ ∧ New K F G (upd H p o) σ ρ p :=
  ⟨ok.heap (Same.new hp), (ok.newNone hp).ge (Same.refl F) (Same.new hp) (Same.free ok.sub hp)⟩
/-- what was owned becomes data -/
theorem Ok.freeze {p : Addr} {o : HO} (ok : Ok K F G H σ ρ) (ho : H p = some o) (n : New K F G H σ ρ p) : Same F (upd F p o) ∧ Ok K (upd F p o) G H σ ρ := by
  have e : Same F (upd F p o) := Same.new n.f
  refine ⟨e, ⟨fun a u h => ?_, ok.gsub, fun a u h => ?_, ok.len, fun i d h => let ⟨v, h1, h2⟩ := ok.val i d h; ⟨v, h1, Rp.mono e _ _ h2⟩, fun i x t h hx => ?_, fun i ns h => let ⟨a, h1, h2⟩ := ok.scr i ns h; ⟨a, h1, e.seq h2⟩, fun i j x y u w hij h1 h2 h3 h4 => ?_⟩⟩
  · by_cases q : a = p
    · subst q
      rw [upd_same] at h
      rw [ho]
      exact h
    · rw [upd_ne q] at h
      exact ok.sub _ _ h
  · rw [upd_ne (fun q => by rw [q, n.g] at h; cases h)]
    exact ok.disj _ _ h
  · obtain ⟨v, as, h1, h2, h3, h4⟩ := ok.hold i x t h hx
    obtain ⟨w, bs, g1, g2, g3⟩ := n.s i x t h hx
    rw [h1] at g1; cases g1
    rw [TrAt.det _ _ _ _ g2 h2] at g3
    exact ⟨v, as, h1, h2.keep e (Same.refl H), h3, fun a ha => ⟨by rw [upd_ne (fun z => g3 (by rw [← z]; exact ha))]; exact (h4 a ha).1, (h4 a ha).2⟩⟩
  · obtain ⟨v, v', as, bs, g1, g2, g3, g4, g5⟩ := ok.apar i j x y u w hij h1 h2 h3 h4
    exact ⟨v, v', as, bs, g1, g2, g3.keep e (Same.refl H), g4.keep e (Same.refl H), g5⟩
/-- an address that nobody owns may change -/
theorem Ok.heapAt {p : Addr} {o : HO} (ok : Ok K F G H σ ρ) (n : New K F G H σ ρ p) : Ok K F G (upd H p o) σ ρ ∧ New K F G (upd H p o) σ ρ p := by
  have kp : ∀ {t : Tr} {v : V} {as : List Addr}, p ∉ as → TrAt K F H t v as → TrAt K F (upd H p o) t v as := fun {t v as} hp h => h.mono (Same.refl F) _ _ _ fun a ha => upd_ne fun z => hp (by rw [← z]; exact ha)
  have own : ∀ {i : Nat} {x : Sl} {t : Tr} {v : V} {as : List Addr}, ρ[i]? = some x → x.tr = some t → σ[i]? = some (some v) → TrAt K F H t v as → p ∉ as := fun {i x t v as} h hx hs ha => by
    obtain ⟨w, bs, h1, h2, h3⟩ := n.s i x t h hx
    rw [hs] at h1; cases h1
    rw [TrAt.det _ _ _ _ ha h2]
    exact h3
  refine ⟨⟨fun a u h => ?_, fun a u h => ?_, ok.disj, ok.len, ok.val, fun i x t h hx => ?_, ok.scr, fun i j x y u w hij h1 h2 h3 h4 => ?_⟩, n.f, n.g, fun i x t h hx => ?_⟩
  · rw [upd_ne (fun q => by rw [q, n.f] at h; cases h)]; exact ok.sub _ _ h
  · rw [upd_ne (fun q => by rw [q, n.g] at h; cases h)]; exact ok.gsub _ _ h
  · obtain ⟨v, as, h1, h2, h3⟩ := ok.hold i x t h hx
    exact ⟨v, as, h1, kp (own h hx h1 h2) h2, h3⟩
  · obtain ⟨v, v', as, bs, g1, g2, g3, g4, g5⟩ := ok.apar i j x y u w hij h1 h2 h3 h4
    exact ⟨v, v', as, bs, g1, g2, kp (own h1 h2 g1 g3) g3, kp (own h3 h4 g2 g4) g4, g5⟩
  · obtain ⟨v, as, h1, h2, h3⟩ := n.s i x t h hx
    exact ⟨v, as, h1, kp h3 h2, h3⟩
theorem set_get? {α : Type} {l : List α} {i j : Nat} {x y : α} (h : (l.set i x)[j]? = some y) : (j = i ∧ i < l.length ∧ x = y) ∨ (j ≠ i ∧ l[j]? = some y) := by
  by_cases e : i = j
  · subst e
    by_cases hl : i < l.length
    · rw [List.getElem?_set_self hl] at h
      exact .inl ⟨rfl, hl, Option.some.inj h⟩
    · rw [List.getElem?_eq_none (by simpa using hl)] at h
      cases h
  · rw [List.getElem?_set_ne e] at h
    exact .inr ⟨fun z => e z.symm, h⟩
/-- slot i takes a value, of whatever kind -/
theorem Ok.putT {i : Nat} {x : V} {r : Sl} (ok : Ok K F G H σ ρ) (hv : ∀ d, r = .v d → Rp K F d x) (ho : ∀ t, r.tr = some t → ∃ as, TrAt K F H t x as ∧ as.Nodup ∧ ∀ a ∈ as, New K F G H σ ρ a) (hs : ∀ ns, r = .s ns → ∃ a, x = .ref a ∧ SqL K F a (ns.map V.int)) :
    Ok K F G H (σ.set i (some x)) (ρ.set i r) := by
  have hl := ok.len
  have gt : ∀ {j : Nat} {y : Option V}, j ≠ i → σ[j]? = some y → (σ.set i (some x))[j]? = some y := fun {j y} hj h => by
    rw [List.getElem?_set_ne (Ne.symm hj)]
    exact h
  refine ⟨ok.sub, ok.gsub, ok.disj, by rw [List.length_set, List.length_set]; exact hl, fun j d h => ?_, fun j y t h hy => ?_, fun j ns h => ?_, fun j k y z t u hjk h1 h2 h3 h4 => ?_⟩
  · rcases set_get? h with ⟨rfl, hi, e⟩ | ⟨hj, h⟩
    · exact ⟨x, List.getElem?_set_self (by rw [hl]; exact hi), hv d e⟩
    · obtain ⟨v, h1, h2⟩ := ok.val j d h
      exact ⟨v, gt hj h1, h2⟩
  · rcases set_get? h with ⟨rfl, hi, e⟩ | ⟨hj, h⟩
    · subst e
      obtain ⟨as, h1, h2, h3⟩ := ho t hy
      exact ⟨x, as, List.getElem?_set_self (by rw [hl]; exact hi), h1, h2, fun a ha => ⟨(h3 a ha).f, (h3 a ha).g⟩⟩
    · obtain ⟨v, as, h1, h2⟩ := ok.hold j y t h hy
      exact ⟨v, as, gt hj h1, h2⟩
  · rcases set_get? h with ⟨rfl, hi, e⟩ | ⟨hj, h⟩
    · obtain ⟨a, rfl, hb⟩ := hs ns e
      exact ⟨a, List.getElem?_set_self (by rw [hl]; exact hi), hb⟩
    · obtain ⟨p, h1, h2⟩ := ok.scr j ns h
      exact ⟨p, gt hj h1, h2⟩
  · rcases set_get? h1 with ⟨rfl, hi, e1⟩ | ⟨hj, g1⟩
    · subst e1
      rcases set_get? h3 with ⟨rfl, _, _⟩ | ⟨hk, g2⟩
      · exact (hjk rfl).elim
      · obtain ⟨as, a1, a2, a3⟩ := ho t h2
        obtain ⟨w, bs, b1, b2, b3⟩ := ok.hold k z u g2 h4
        refine ⟨x, w, as, bs, List.getElem?_set_self (by rw [hl]; exact hi), gt hk b1, a1, b2, fun a ha hb => ?_⟩
        obtain ⟨w', cs, c1, c2, c3⟩ := (a3 a ha).s k z u g2 h4
        rw [b1] at c1; cases c1
        rw [TrAt.det _ _ _ _ c2 b2] at c3
        exact c3 hb
    · rcases set_get? h3 with ⟨rfl, hi, e2⟩ | ⟨hk, g2⟩
      · subst e2
        obtain ⟨as, a1, a2, a3⟩ := ho u h4
        obtain ⟨w, bs, b1, b2, b3⟩ := ok.hold j y t g1 h2
        refine ⟨w, x, bs, as, gt hj b1, List.getElem?_set_self (by rw [hl]; exact hi), b2, a1, fun a hb ha => ?_⟩
        obtain ⟨w', cs, c1, c2, c3⟩ := (a3 a ha).s j y t g1 h2
        rw [b1] at c1; cases c1
        rw [TrAt.det _ _ _ _ c2 b2] at c3
        exact c3 hb
      · obtain ⟨v, w, as, bs, a1, a2, a3⟩ := ok.apar j k y z t u hjk g1 h2 g2 h4
        exact ⟨v, w, as, bs, gt hj a1, gt hk a2, a3⟩
theorem Ok.put {i : Nat} {x : V} {r : Sl} (ok : Ok K F G H σ ρ) (hv : ∀ d, r = .v d → Rp K F d x) (ho : ∀ b, r = .o b → ∃ p, x = .ref p ∧ New K F G H σ ρ p ∧ OwnAt K F H p b) (hs : ∀ ns, r = .s ns → ∃ a, x = .ref a ∧ SqL K F a (ns.map V.int)) (ht : ∀ t, r ≠ .t t := by intro t e; cases e) :
    Ok K F G H (σ.set i (some x)) (ρ.set i r) := ok.putT hv (fun t e => by
  cases r with
  | o b =>
    cases e
    obtain ⟨p, rfl, n, o⟩ := ho b rfl
    exact ⟨[p], ⟨p, rfl, rfl, o⟩, (by simp), fun a ha => by rw [List.mem_singleton] at ha; subst ha; exact n⟩
  | t u => exact absurd rfl (ht u)
  | _ => cases e) hs
/-- a slot is forgotten -/
theorem Ok.drop (ok : Ok K F G H σ ρ) (i : Nat) : Ok K F G H σ (ρ.set i .u) := by
  refine ⟨ok.sub, ok.gsub, ok.disj, by rw [List.length_set]; exact ok.len, fun j d h => ?_, fun j x t h hx => ?_, fun j ns h => ?_, fun j k x y t u hjk h1 h2 h3 h4 => ?_⟩
  · rcases set_get? h with ⟨rfl, hi, e⟩ | ⟨hj, h⟩
    · cases e
    · exact ok.val j d h
  · rcases set_get? h with ⟨rfl, hi, e⟩ | ⟨hj, h⟩
    · subst e; cases hx
    · exact ok.hold j x t h hx
  · rcases set_get? h with ⟨rfl, hi, e⟩ | ⟨hj, h⟩
    · cases e
    · exact ok.scr j ns h
  · rcases set_get? h1 with ⟨_, _, e⟩ | ⟨hj, h1⟩
    · subst e; cases h2
    · rcases set_get? h3 with ⟨_, _, e⟩ | ⟨hk, h3⟩
      · subst e; cases h4
      · exact ok.apar j k x y t u hjk h1 h2 h3 h4
/-- an own slot's addresses as nobody's -/
theorem Ok.newOfT {i : Nat} {x : Sl} {t : Tr} {v : V} {as : List Addr} (ok : Ok K F G H σ ρ) (h : ρ[i]? = some x) (e : x.tr = some t) (hs : σ[i]? = some (some v)) (ha : TrAt K F H t v as) : ∀ a ∈ as, New K F G H σ (ρ.set i .u) a := fun a hm => by
  obtain ⟨_, g⟩ := ok.fp (K' := K) h e hs ha
  refine ⟨(g a hm).1, (g a hm).2, fun j y u hj hy => ?_⟩
  rcases set_get? hj with ⟨_, _, e'⟩ | ⟨hj', h1⟩
  · subst e'; cases hy
  · obtain ⟨v', w, cs, bs, a1, a2, a3, a4, a5⟩ := ok.apar i j x y t u (Ne.symm hj') h e h1 hy
    rw [hs] at a1; cases a1
    rw [TrAt.det _ _ _ _ a3 ha] at a5
    exact ⟨w, bs, a2, a4, a5 a hm⟩
theorem Ok.newOf {i : Nat} {b : Own} {p : Addr} (ok : Ok K F G H σ ρ) (h : ρ[i]? = some (.o b)) (hs : σ[i]? = some (some (.ref p))) : New K F G H σ (ρ.set i .u) p := by
  obtain ⟨q, h1, h2, h3, h4⟩ := ok.own i b h
  rw [hs] at h1; cases h1
  exact ok.newOfT (as := [p]) h rfl hs ⟨p, rfl, rfl, h4⟩ p List.mem_cons_self
/-- the tree of slot i changes: its addresses are old ones of it, or such as stood nowhere; all else stays -/
theorem Ok.turnT {i : Nat} {x x' : Sl} {t t' : Tr} {v : V} {as bs : List Addr} (ok : Ok K F G H σ ρ) (h : ρ[i]? = some x) (e : x.tr = some t) (hs : σ[i]? = some (some v)) (ha : TrAt K F H t v as) (e' : x'.tr = some t') (hnv : ∀ d, x' ≠ .v d) (hns : ∀ ns, x' ≠ .s ns)
    (hk : ∀ a o, H a = some o → a ∉ as → H' a = some o) (hb : TrAt K F H' t' v bs) (nd : bs.Nodup) (hold : ∀ a ∈ bs, a ∈ as ∨ H a = none) : Ok K F G H' σ (ρ.set i x') := by
  obtain ⟨_, g⟩ := ok.fp (K' := K) h e hs ha
  have kF : Same F H' := fun a o q => hk a o (ok.sub _ _ q) fun z => by rw [(g a z).1] at q; cases q
  have kG : Same G H' := fun a o q => hk a o (ok.gsub _ _ q) fun z => by rw [(g a z).2] at q; cases q
  -- the other trees stand as they stood
  have oth : ∀ (j : Nat) (y : Sl) (u : Tr), j ≠ i → ρ[j]? = some y → y.tr = some u → ∃ w cs, σ[j]? = some (some w) ∧ TrAt K F H' u w cs ∧ cs.Nodup ∧ (∀ a ∈ cs, F a = none ∧ G a = none) ∧ ∀ a ∈ bs, a ∉ cs := fun j y u hj hy hu => by
    obtain ⟨w, cs, c1, c2, c3, c4⟩ := ok.hold j y u hy hu
    obtain ⟨v', w', as', cs', d1, d2, d3, d4, d5⟩ := ok.apar i j x y t u (Ne.symm hj) h e hy hu
    rw [hs] at d1; cases d1
    rw [c1] at d2; cases d2
    rw [TrAt.det _ _ _ _ d3 ha, TrAt.det _ _ _ _ d4 c2] at d5
    refine ⟨w, cs, c1, c2.mono (Same.refl F) _ _ _ fun a hm => ?_, c3, c4, fun a hm hc => ?_⟩
    · obtain ⟨o, ho⟩ := c2.some _ _ _ a hm
      exact (hk a o ho fun z => d5 a z hm).trans ho.symm
    · rcases hold a hm with z | z
      · exact d5 a z hc
      · obtain ⟨o, ho⟩ := c2.some _ _ _ a hc
        rw [z] at ho; cases ho
  have fb : ∀ a ∈ bs, F a = none ∧ G a = none := fun a hm => by
    rcases hold a hm with z | z
    · exact g a z
    · exact ⟨Same.free ok.sub z, Same.free ok.gsub z⟩
  have hl := ok.len
  refine ⟨kF, kG, ok.disj, by rw [List.length_set]; exact hl, fun j d h => ?_, fun j y u hj hu => ?_, fun j ns h => ?_, fun j l y z u w hjl h1 h2 h3 h4 => ?_⟩
  · rcases set_get? h with ⟨rfl, hi, z⟩ | ⟨hj, h⟩
    · exact absurd z (hnv d)
    · exact ok.val j d h
  · rcases set_get? hj with ⟨rfl, hi, z⟩ | ⟨hj', hj⟩
    · subst z
      rw [e'] at hu; cases hu
      exact ⟨v, bs, hs, hb, nd, fb⟩
    · obtain ⟨w, cs, c1, c2, c3, c4, _⟩ := oth j y u hj' hj hu
      exact ⟨w, cs, c1, c2, c3, c4⟩
  · rcases set_get? h with ⟨rfl, hi, z⟩ | ⟨hj, h⟩
    · exact absurd z (hns ns)
    · exact ok.scr j ns h
  · rcases set_get? h1 with ⟨rfl, hi, z1⟩ | ⟨hj, g1⟩
    · subst z1
      rw [e'] at h2; cases h2
      rcases set_get? h3 with ⟨rfl, _, _⟩ | ⟨hk', g2⟩
      · exact absurd rfl hjl
      · obtain ⟨w', cs, c1, c2, _, _, c5⟩ := oth l z w hk' g2 h4
        exact ⟨v, w', bs, cs, hs, c1, hb, c2, c5⟩
    · rcases set_get? h3 with ⟨rfl, hi, z2⟩ | ⟨hk', g2⟩
      · subst z2
        rw [e'] at h4; cases h4
        obtain ⟨w', cs, c1, c2, _, _, c5⟩ := oth j y u hj g1 h2
        exact ⟨w', v, cs, bs, c1, hs, c2, hb, fun a ha hb => c5 a hb ha⟩
      · obtain ⟨v1, v2, cs, ds, c1, c2, c3, c4, c5⟩ := ok.apar j l y z u w hjl g1 h2 g2 h4
        obtain ⟨w1, cs', d1, d2, _⟩ := oth j y u hj g1 h2
        obtain ⟨w2, ds', f1, f2, _⟩ := oth l z w hk' g2 h4
        rw [d1] at c1; cases c1
        rw [f1] at c2; cases c2
        have stay : ∀ {j : Nat} {y : Sl} {u : Tr} {w : V} {cs : List Addr}, j ≠ i → ρ[j]? = some y → y.tr = some u → σ[j]? = some (some w) → TrAt K F H u w cs → TrAt K F H' u w cs := fun {j y u w cs} hj hy hu hw hc => by
          obtain ⟨v', w', as', cs', d1, d2, d3, d4, d5⟩ := ok.apar i j x y t u (Ne.symm hj) h e hy hu
          rw [hs] at d1; cases d1
          rw [hw] at d2; cases d2
          rw [TrAt.det _ _ _ _ d3 ha, TrAt.det _ _ _ _ d4 hc] at d5
          exact hc.mono (Same.refl F) _ _ _ fun a hm => by
            obtain ⟨o, ho⟩ := hc.some _ _ _ a hm
            exact (hk a o ho fun z => d5 a z hm).trans ho.symm
        exact ⟨_, _, cs, ds, d1, f1, stay hj g1 h2 d1 c3, stay hk' g2 h4 f1 c4, c5⟩
/-- the own object of slot i changes -/
theorem Ok.turn {i : Nat} {b b' : Own} {p : Addr} {o : HO} (ok : Ok K F G H σ ρ) (h : ρ[i]? = some (.o b)) (hs : σ[i]? = some (some (.ref p))) (hb : OwnAt K F (upd H p o) p b') : Ok K F G (upd H p o) σ (ρ.set i (.o b')) := by
  obtain ⟨q, h1, h2, h3, h4⟩ := ok.own i b h
  rw [hs] at h1
  cases h1
  refine ok.turnT (as := [p]) (bs := [p]) h rfl hs ⟨p, rfl, rfl, h4⟩ rfl (fun d z => nomatch z) (fun d z => nomatch z) (fun a u ha hn => ?_) ⟨p, rfl, rfl, hb⟩ ((by simp)) fun a ha => .inl ha
  rw [upd_ne (fun z => hn (by rw [z]; exact List.mem_cons_self))]
  exact ha
end
end Fx
/-! Fx: expressions. -/
namespace Fx
open PySem PySem.Spec PyProof.Rows L2
variable [Wd]
abbrev M (α : Type) := Rho → Option (α × Rho)
def bnd {α β : Type} (a : M α) (f : α → M β) : M β := fun ρ => match a ρ with
  | some (x, ρ1) => f x ρ1
  | none => none
def ret {α : Type} (x : α) : M α := fun ρ => some (x, ρ)
def lft {α : Type} (o : Option α) : M α := fun ρ => match o with
  | some x => some (x, ρ)
  | none => none
theorem bnd_some {α β : Type} {a : M α} {f : α → M β} {ρ : Rho} {r : β × Rho} (h : bnd a f ρ = some r) : ∃ x ρ1, a ρ = some (x, ρ1) ∧ f x ρ1 = some r := by
  unfold bnd at h
  split at h
  · rename_i x ρ1 e
    exact ⟨x, ρ1, e, h⟩
  · cases h
theorem bnd_eq {α β : Type} {a : M α} {f : α → M β} {ρ ρ1 : Rho} {x : α} (h : a ρ = some (x, ρ1)) : bnd a f ρ = f x ρ1 := by
  unfold bnd
  rw [h]
theorem lft_some {α : Type} {o : Option α} {ρ ρ' : Rho} {x : α} (h : lft o ρ = some (x, ρ')) : o = some x ∧ ρ' = ρ := by
  unfold lft at h
  split at h
  · cases h
    exact ⟨rfl, rfl⟩
  · cases h
/-- a value or the place of an own object -/
inductive Rf where
  | val (d : D)
  | slot (i : Nat)
section
variable (K : Kf)
def rdV (m : M D) : TE := fun σ H Q => ∃ F G ρ d ρ', Ok K F G H σ ρ ∧ m ρ = some (d, ρ') ∧ ∀ v F' H', Same F F' → Ok K F' G H' σ ρ' → Rp K F' d v → Q v H'
def rdN (m : M Own) : TE := fun σ H Q => ∃ F G ρ b ρ', Ok K F G H σ ρ ∧ m ρ = some (b, ρ') ∧ ∀ p F' H', Same F F' → Ok K F' G H' σ ρ' → New K F' G H' σ ρ' p → OwnAt K F' H' p b → Q (.ref p) H'
def RfOk (F : Hp) (σ : L2.St) (v : V) : Rf → Prop
  | .val d => Rp K F d v
  | .slot i => σ[i]? = some (some v)
def rdB (m : M Rf) : TE := fun σ H Q => ∃ F G ρ r ρ', Ok K F G H σ ρ ∧ m ρ = some (r, ρ') ∧ ∀ v F' H', Same F F' → Ok K F' G H' σ ρ' → RfOk K F' σ v r → Q v H'
def rdT (m : M Bool) : TT := fun σ H Q => ∃ F G ρ b ρ', Ok K F G H σ ρ ∧ m ρ = some (b, ρ') ∧ ∀ F' H', Same F F' → Ok K F' G H' σ ρ' → Q b H'
def rdA (m : M (List D)) : TA := fun σ H Q => ∃ F G ρ ds ρ', Ok K F G H σ ρ ∧ m ρ = some (ds, ρ') ∧ ∀ vs F' H', Same F F' → Ok K F' G H' σ ρ' → Rps K F' ds vs → Q vs H'
def RfsOk (F : Hp) (σ : L2.St) : List Rf → List V → Prop
  | [], vs => vs = []
  | r :: rs, vs => ∃ v ws, vs = v :: ws ∧ RfOk K F σ v r ∧ RfsOk F σ rs ws
def rdC (m : M (List Rf)) : TA := fun σ H Q => ∃ F G ρ ds ρ', Ok K F G H σ ρ ∧ m ρ = some (ds, ρ') ∧ ∀ vs F' H', Same F F' → Ok K F' G H' σ ρ' → RfsOk K F' σ ds vs → Q vs H'
end
section
variable {X : Cx} {e : Expr} {es : List Expr}
theorem pe_imp {t t' : TE} (h : PE X e t) (i : ∀ σ H Q, t' σ H Q → t σ H Q) : PE X e t' := ⟨fun pins s σ H Q I q => h.run pins s σ H Q I (i σ H Q q)⟩
theorem pt_imp {t t' : TT} (h : PT X e t) (i : ∀ σ H Q, t' σ H Q → t σ H Q) : PT X e t' := ⟨fun pins s σ H Q I q => h.run pins s σ H Q I (i σ H Q q)⟩
theorem pw_imp {t t' : TT} (h : PW X e t) (i : ∀ σ H Q, t' σ H Q → t σ H Q) : PW X e t' := ⟨fun wh pins s σ H Q I q => h.run wh pins s σ H Q I (i σ H Q q)⟩
theorem pa_imp {t t' : TA} (h : PA X es t) (i : ∀ σ H Q, t' σ H Q → t σ H Q) : PA X es t' := ⟨fun p pins s σ H Q I q => h.run p pins s σ H Q I (i σ H Q q)⟩
end
/-- the value, and the object behind it may be locked -/
theorem pe_lock {X : Cx} {e : Expr} {t : TE} (h : PE X e t) : PE X e (fun σ H Q => t σ H fun v H1 => Q v H1 ∨ ∃ p u, v = .ref p ∧ H1 p = some u ∧ Mut (some u) ∧ ∀ od, Q v (upd H1 p (.frz od u))) := ⟨fun pins s σ H Q I q => by
  refine thn (h.run pins s σ H _ I q) fun u s1 ⟨v, H1, I1, rv, z⟩ => ?_
  rcases z with z | ⟨p, o, ev, ho, mu, z⟩
  · exact ⟨v, H1, I1, rv, z⟩
  · obtain ⟨od, I2⟩ := I1.lock ho mu
    exact ⟨v, _, I2, rv, z od⟩⟩
/-! ### names and constants -/
def getM (i : Nat) : M D := fun ρ => match ρ[i]? with
  | some (.v d) => some (d, ρ)
  | some (.o (.lst xs)) => some (.list xs, ρ.set i (.v (.list xs)))
  | some (.o (.dd kvs)) => some (.dict kvs, ρ.set i (.v (.dict kvs)))
  | _ => none
def refM (i : Nat) : M Rf := fun ρ => match ρ[i]? with
  | some (.v d) => some (.val d, ρ)
  | some (.o _) => some (.slot i, ρ)
  | _ => none
def cM (d : D) : M D := fun ρ => some (d, ρ)
def valM (m : M D) : M Rf := bnd m fun d => ret (.val d)
theorem set_self {α : Type} : ∀ {l : List α} {i : Nat} {x : α}, l[i]? = some x → l.set i x = l
  | [], _, _, h => by simp at h
  | a :: l, 0, x, h => by simp at h; subst h; rfl
  | a :: l, i + 1, x, h => by
    rw [List.set_cons_succ, set_self (i := i) (by simpa using h)]
theorem set_set {α : Type} : ∀ {l : List α} {i : Nat} {x y : α}, (l.set i x).set i y = l.set i y
  | [], _, _, _ => rfl
  | a :: l, 0, x, y => rfl
  | a :: l, i + 1, x, y => by rw [List.set_cons_succ, List.set_cons_succ, List.set_cons_succ, set_set]
section
variable {X : Cx} {e : Expr}
theorem Ok.freezeAt {K : Kf} {F G H : Hp} {σ : L2.St} {ρ : Rho} {i : Nat} {xs : List D} (ok : Ok K F G H σ ρ) (h : ρ[i]? = some (.o (.lst xs))) : ∃ p F', σ[i]? = some (some (.ref p)) ∧ Same F F' ∧ Ok K F' G H σ (ρ.set i (.v (.list xs))) ∧ Rp K F' (.list xs) (.ref p) := by
  obtain ⟨p, h1, h2, h3, vs, h4, h5⟩ := ok.own i _ h
  have n := ok.newOf h h1
  obtain ⟨e1, ok1⟩ := (ok.drop i).freeze h4 n
  have r : Rp K (upd F p (.lst vs)) (.list xs) (.ref p) := ⟨p, vs, rfl, upd_same, Rps.mono e1 _ _ h5⟩
  refine ⟨p, upd F p (.lst vs), h1, e1, ?_, r⟩
  have ok2 := ok1.put (i := i) (x := .ref p) (r := .v (.list xs)) (fun d hd => by cases hd; exact r) (fun b hb => by cases hb) (fun ns hb => by cases hb)
  rw [set_set, set_self h1] at ok2
  exact ok2
/-- a dict that nobody owns becomes data: it is locked -/
theorem Ok.lockNew {K : Kf} {F G H : Hp} {σ : L2.St} {ρ : Rho} {kvs : List (D × D)} {p : Addr} (ok : Ok K F G H σ ρ) (n : New K F G H σ ρ p) (h : DcAt K F H p kvs) : ∃ u, H p = some u ∧ Mut (some u) ∧ ∀ od, ∃ F', Same F F' ∧ Ok K F' G (upd H p (.frz od u)) σ ρ ∧ Rp K F' (.dict kvs) (.ref p) := by
  rcases h with ⟨ws, h1, h2⟩ | ⟨es, h1, h2⟩
  · refine ⟨_, h1, trivial, fun od => ?_⟩
    obtain ⟨ok1, n1⟩ := ok.heapAt (o := .frz od (.dK ws)) n
    obtain ⟨e1, ok2⟩ := ok1.freeze upd_same n1
    exact ⟨_, e1, ok2, p, od, rfl, .inl ⟨ws, upd_same, Rpk.mono e1 _ _ h2⟩⟩
  · refine ⟨_, h1, trivial, fun od => ?_⟩
    obtain ⟨ok1, n1⟩ := ok.heapAt (o := .frz od (DictO p es)) n
    obtain ⟨e1, ok2⟩ := ok1.freeze upd_same n1
    exact ⟨_, e1, ok2, p, od, rfl, .inr ⟨es, upd_same, Rpe.mono e1 _ _ h2⟩⟩
theorem Ok.lockAt {K : Kf} {F G H : Hp} {σ : L2.St} {ρ : Rho} {i : Nat} {kvs : List (D × D)} (ok : Ok K F G H σ ρ) (h : ρ[i]? = some (.o (.dd kvs))) : ∃ p u, σ[i]? = some (some (.ref p)) ∧ H p = some u ∧ Mut (some u) ∧
    ∀ od, ∃ F', Same F F' ∧ Ok K F' G (upd H p (.frz od u)) σ (ρ.set i (.v (.dict kvs))) ∧ Rp K F' (.dict kvs) (.ref p) := by
  obtain ⟨p, h1, h2, h3, h4⟩ := ok.own i _ h
  obtain ⟨u, hu, mu, q⟩ := (ok.drop i).lockNew (ok.newOf h h1) h4
  refine ⟨p, u, h1, hu, mu, fun od => ?_⟩
  obtain ⟨F', e, ok1, r⟩ := q od
  have ok2 := ok1.put (i := i) (x := .ref p) (r := .v (.dict kvs)) (fun d hd => by cases hd; exact r) (fun b hb => by cases hb) (fun ns hb => by cases hb)
  rw [set_set, set_self h1] at ok2
  exact ⟨F', e, ok2, r⟩
theorem v_name (i : Nat) {x : Str} {pos : Pos} (hN : X.N[i]? = some x := by rfl) (hv : Vis X.env.scope x := by first | exact Or.inl rfl | exact Or.inr (Or.inl rfl) | exact Or.inr (Or.inr rfl)) (hd : (x == ("__debug__" : Str)) = false := by decide)
    (hcd : (x == ("__classdict__" : Str)) = false := by decide) : PE X (.Name x pos) (rdV X.K (getM i)) := by
  refine pe_imp (pe_lock (pe_var hN hv hd hcd)) fun σ H Q h => ?_
  obtain ⟨F, G, ρ, d, ρ', ok, hm, q⟩ := h
  unfold getM at hm
  split at hm
  · rename_i d' e
    cases hm
    obtain ⟨v, h1, h2⟩ := ok.val i _ e
    exact ⟨v, h1, .inl (q v F H (Same.refl F) ok h2)⟩
  · rename_i xs e
    cases hm
    obtain ⟨p, F', h1, h2, h3, h4⟩ := ok.freezeAt e
    exact ⟨_, h1, .inl (q _ F' H h2 h3 h4)⟩
  · rename_i kvs e
    cases hm
    obtain ⟨p, u, h1, h2, h3, h4⟩ := ok.lockAt e
    refine ⟨_, h1, .inr ⟨p, u, rfl, h2, h3, fun od => ?_⟩⟩
    obtain ⟨F', e1, ok1, r1⟩ := h4 od
    exact q _ F' _ e1 ok1 r1
  · cases hm
theorem b_name (i : Nat) {x : Str} {pos : Pos} (hN : X.N[i]? = some x := by rfl) (hv : Vis X.env.scope x := by first | exact Or.inl rfl | exact Or.inr (Or.inl rfl) | exact Or.inr (Or.inr rfl)) (hd : (x == ("__debug__" : Str)) = false := by decide)
    (hcd : (x == ("__classdict__" : Str)) = false := by decide) : PE X (.Name x pos) (rdB X.K (refM i)) := by
  refine pe_imp (pe_var hN hv hd hcd) fun σ H Q h => ?_
  obtain ⟨F, G, ρ, d, ρ', ok, hm, q⟩ := h
  unfold refM at hm
  split at hm
  · rename_i d' e
    cases hm
    obtain ⟨v, h1, h2⟩ := ok.val i _ e
    exact ⟨v, h1, q v F H (Same.refl F) ok h2⟩
  · rename_i b e
    cases hm
    obtain ⟨p, h1, h2, h3, h4⟩ := ok.own i _ e
    exact ⟨_, h1, q _ F H (Same.refl F) ok h1⟩
  · cases hm
theorem v_const {d : D} {v : V} (h : PE X e (tC v)) (r : ∀ F, Rp X.K F d v) : PE X e (rdV X.K (cM d)) := by
  refine pe_imp h fun σ H Q h => ?_
  obtain ⟨F, G, ρ, d, ρ', ok, hm, q⟩ := h
  cases hm
  exact q v F H (Same.refl F) ok (r F)
theorem v_int {i : Int} {j : Nat} {pos : Pos} : PE X (.Constant (.int i) j pos) (rdV X.K (cM (.int i))) := v_const pe_int fun _ => rfl
theorem v_bl {b : Bool} {j : Nat} {pos : Pos} : PE X (.Constant (.bool b) j pos) (rdV X.K (cM (.bool b))) := v_const pe_bl fun _ => rfl
theorem v_non {j : Nat} {pos : Pos} : PE X (.Constant .none j pos) (rdV X.K (cM .none)) := v_const pe_non fun _ => rfl
theorem v_str {x : Str} {j : Nat} {pos : Pos} : PE X (.Constant (.str x) j pos) (rdV X.K (cM (.str x))) := v_const pe_str fun _ => rfl
/-- a constant of the module -/
theorem v_glob {x : Str} {d : D} {v : V} {u : Value} {pos : Pos} (hg : Gl X x) (hm : X.mg x = some u) (r : RelV v u) (hd : ∀ F, Rp X.K F d v) (hdb : (x == ("__debug__" : Str)) = false := by decide) : PE X (.Name x pos) (rdV X.K (cM d)) := v_const (pe_glob hg hm r hdb) hd
theorem b_val {m : M D} (h : PE X e (rdV X.K m)) : PE X e (rdB X.K (valM m)) := by
  refine pe_imp h fun σ H Q h => ?_
  obtain ⟨F, G, ρ, r, ρ', ok, hm, q⟩ := h
  obtain ⟨d, ρ1, h1, h2⟩ := bnd_some hm
  cases h2
  exact ⟨F, G, ρ, d, _, ok, h1, fun v F' H' e ok' r => q v F' H' e ok' r⟩
/-- an own list that is just made becomes data -/
def frzM (m : M Own) : M D := bnd m fun b => match b with
  | .lst xs => ret (.list xs)
  | .dd kvs => ret (.dict kvs)
  | _ => fun _ => none
theorem v_new {m : M Own} (h : PE X e (rdN X.K m)) : PE X e (rdV X.K (frzM m)) := by
  refine pe_imp (pe_lock h) fun σ H Q h => ?_
  obtain ⟨F, G, ρ, r, ρ', ok, hm, q⟩ := h
  obtain ⟨b, ρ1, h1, h2⟩ := bnd_some hm
  refine ⟨F, G, ρ, b, ρ1, ok, h1, fun p F' H' e ok' n o => ?_⟩
  cases b with
  | lst xs =>
    cases h2
    obtain ⟨vs, h4, h5⟩ := o
    obtain ⟨e2, ok2⟩ := ok'.freeze h4 n
    exact .inl (q _ _ H' (e.trans e2) ok2 ⟨p, vs, rfl, upd_same, Rps.mono e2 _ _ h5⟩)
  | dd kvs =>
    cases h2
    obtain ⟨u, hu, mu, z⟩ := ok'.lockNew n o
    refine .inr ⟨p, u, rfl, hu, mu, fun od => ?_⟩
    obtain ⟨F2, e2, ok2, r2⟩ := z od
    exact q _ _ _ (e.trans e2) ok2 r2
  | dk _ => cases h2
  | dt _ => cases h2
/-! ### what is read of a value or an own list -/
/-- the content, at once -/
def look (ρ : Rho) : Rf → Option D
  | .val d => some d
  | .slot i => match ρ[i]? with
    | some (.o (.lst xs)) => some (.list xs)
    | some (.o (.dd kvs)) => some (.dict kvs)
    | _ => none
/-- v is d: data, or an own list or dict of data -/
def Vw (K : Kf) (F H : Hp) (v : V) (d : D) : Prop := Rp K F d v ∨ (∃ p vs xs, v = .ref p ∧ d = .list xs ∧ H p = some (.lst vs) ∧ Rps K F xs vs) ∨ ∃ p kvs, v = .ref p ∧ d = .dict kvs ∧ DcAt K F H p kvs
theorem look_ok {K : Kf} {F G H : Hp} {σ : L2.St} {ρ : Rho} {r : Rf} {v : V} {d : D} (ok : Ok K F G H σ ρ) (hr : RfOk K F σ v r) (h : look ρ r = some d) : Vw K F H v d := by
  cases r with
  | val e =>
    cases h
    exact .inl hr
  | slot i =>
    have hs : σ[i]? = some (some v) := hr
    have h : (match ρ[i]? with
      | some (.o (.lst xs)) => some (PyData.list xs)
      | some (.o (.dd kvs)) => some (PyData.dict kvs)
      | _ => none) = some d := h
    split at h
    · rename_i xs e
      cases h
      obtain ⟨p, h1, h2, h3, vs, h4, h5⟩ := ok.own i _ e
      rw [hs] at h1
      cases h1
      exact .inr (.inl ⟨p, vs, xs, rfl, rfl, h4, h5⟩)
    · rename_i kvs e
      cases h
      obtain ⟨p, h1, h2, h3, h4⟩ := ok.own i _ e
      rw [hs] at h1
      cases h1
      exact .inr (.inr ⟨p, kvs, rfl, rfl, h4⟩)
    · cases h
theorem RfOk.mono {K : Kf} {F F' : Hp} {σ : L2.St} {r : Rf} {v : V} (e : Same F F') (h : RfOk K F σ v r) : RfOk K F' σ v r := by
  cases r with
  | val d => exact Rp.mono e _ _ h
  | slot i => exact h
theorem Vw.list {K : Kf} {F H : Hp} {v : V} {xs : List D} (h : Vw K F H v (.list xs)) (s : Same F H) : ∃ p vs, v = .ref p ∧ H p = some (.lst vs) ∧ Rps K F xs vs := by
  rcases h with h | ⟨p, vs, ys, rfl, e, h1, h2⟩ | ⟨p, kvs, rfl, e, h1⟩
  · obtain ⟨a, vs, rfl, h1, h2⟩ := h
    exact ⟨a, vs, rfl, s _ _ h1, h2⟩
  · cases e
    exact ⟨p, vs, rfl, h1, h2⟩
  · cases e
theorem Vw.tuple {K : Kf} {F H : Hp} {v : V} {xs : List D} (h : Vw K F H v (.tuple xs)) (s : Same F H) : ∃ p vs, v = .ref p ∧ SqT K H p vs ∧ SqT K F p vs ∧ Rps K F xs vs := by
  rcases h with h | ⟨p, vs, ys, rfl, e, h1, h2⟩ | ⟨p, kvs, rfl, e, h1⟩
  · obtain ⟨a, vs, rfl, h1, h2⟩ := h
    exact ⟨a, vs, rfl, Same.seqT s h1, h1, h2⟩
  · cases e
  · cases e
theorem Vw.flat {K : Kf} {F H : Hp} {v : V} {d : D} (h : Vw K F H v d) (hd : ∀ xs, d ≠ .list xs) (hd2 : ∀ xs, d ≠ .dict xs := by intro _ z; cases z) : Rp K F d v := by
  rcases h with h | ⟨p, vs, ys, rfl, e, h1, h2⟩ | ⟨p, kvs, rfl, e, h1⟩
  · exact h
  · exact (hd _ e).elim
  · exact (hd2 _ e).elim
theorem Vw.dp {K : Kf} {F H : Hp} {v : V} {d : D} (h : Vw K F H v d) (s : Same F H) (c : d.canLay0 = true) : Dp K H v d := by
  rcases h with h | ⟨p, vs, ys, rfl, rfl, h1, h2⟩ | ⟨p, kvs, rfl, rfl, h1⟩
  · exact Rp.dp _ _ c (Rp.mono s _ _ h)
  · exact .lst (SqL.of h1) (Rps.dp _ _ c (Rps.mono s _ _ h2))
  · cases c
/-! ### operators -/
/-- an operator's rule gives f, on what stands (the right operand, and the left) -/
def OpD (K : Kf) (f : D → D → Option D) (r : R2) : Prop :=
  ∀ (F G H : Hp) (σ : L2.St) (ρ : Rho) (x y d : D) (v w : V) (Q : VK), Ok K F G H σ ρ → Vw K F H v x → Vw K F H w y → f x y = some d → (∀ z F' H', Same F F' → Ok K F' G H' σ ρ → Rp K F' d z → Q z H') → r v w H Q
/-- an operator that makes a new list -/
def OpN (K : Kf) (f : D → D → Option Own) (r : R2) : Prop :=
  ∀ (F G H : Hp) (σ : L2.St) (ρ : Rho) (x y : D) (d : Own) (v w : V) (Q : VK), Ok K F G H σ ρ → Vw K F H v x → Vw K F H w y → f x y = some d → (∀ p F' H', Same F F' → Ok K F' G H' σ ρ → New K F' G H' σ ρ p → OwnAt K F' H' p d → Q (.ref p) H') → r v w H Q
def binM {α : Type} (f : D → D → Option α) (a b : M Rf) : M α := bnd a fun r => bnd b fun s => fun ρ => match look ρ r, look ρ s with
  | some x, some y => (f x y).map fun z => (z, ρ)
  | _, _ => none
theorem binM_some {α : Type} {f : D → D → Option α} {a b : M Rf} {ρ ρ' : Rho} {z : α} (h : binM f a b ρ = some (z, ρ')) : ∃ r ρ1 s x y, a ρ = some (r, ρ1) ∧ b ρ1 = some (s, ρ') ∧ look ρ' r = some x ∧ look ρ' s = some y ∧ f x y = some z := by
  obtain ⟨r, ρ1, h1, h⟩ := bnd_some h
  obtain ⟨s, ρ2, h2, h⟩ := bnd_some h
  have h : (match look ρ2 r, look ρ2 s with
    | some x, some y => (f x y).map fun z => (z, ρ2)
    | _, _ => none) = some (z, ρ') := h
  split at h
  · rename_i x y e1 e2
    cases hf : f x y with
    | none => rw [hf] at h; cases h
    | some w =>
      rw [hf] at h
      cases h
      exact ⟨r, ρ1, s, x, y, h1, h2, e1, e2, hf⟩
  · cases h
theorem v_op {f : D → D → Option D} {r : R2} {op : Operator} {a b : Expr} {ma mb : M Rf} {pos : Pos} (ho : OpR X (binaryOp op) r) (hf : OpD X.K f r) (ha : PE X a (rdB X.K ma)) (hb : PE X b (rdB X.K mb)) : PE X (.BinOp a op b pos) (rdV X.K (binM f ma mb)) := by
  refine pe_imp (pe_op ho ha hb) fun σ H Q h => ?_
  obtain ⟨F, G, ρ, d, ρ', ok, hm, q⟩ := h
  obtain ⟨r, ρ1, s, x, y, h1, h2, e1, e2, e3⟩ := binM_some hm
  refine ⟨F, G, ρ, r, ρ1, ok, h1, fun v F1 H1 s1 ok1 r1 => ⟨F1, G, ρ1, s, ρ', ok1, h2, fun w F2 H2 s2 ok2 r2 => ?_⟩⟩
  exact hf F2 G H2 σ ρ' x y d v w Q ok2 (look_ok ok2 (r1.mono s2) e1) (look_ok ok2 r2 e2) e3 fun z F' H' s3 ok3 r3 => q z F' H' ((s1.trans s2).trans s3) ok3 r3
theorem n_op {f : D → D → Option Own} {r : R2} {op : Operator} {a b : Expr} {ma mb : M Rf} {pos : Pos} (ho : OpR X (binaryOp op) r) (hf : OpN X.K f r) (ha : PE X a (rdB X.K ma)) (hb : PE X b (rdB X.K mb)) : PE X (.BinOp a op b pos) (rdN X.K (binM f ma mb)) := by
  refine pe_imp (pe_op ho ha hb) fun σ H Q h => ?_
  obtain ⟨F, G, ρ, d, ρ', ok, hm, q⟩ := h
  obtain ⟨r, ρ1, s, x, y, h1, h2, e1, e2, e3⟩ := binM_some hm
  refine ⟨F, G, ρ, r, ρ1, ok, h1, fun v F1 H1 s1 ok1 r1 => ⟨F1, G, ρ1, s, ρ', ok1, h2, fun w F2 H2 s2 ok2 r2 => ?_⟩⟩
  exact hf F2 G H2 σ ρ' x y d v w Q ok2 (look_ok ok2 (r1.mono s2) e1) (look_ok ok2 r2 e2) e3 fun z F' H' s3 ok3 r3 => q z F' H' ((s1.trans s2).trans s3) ok3 r3
theorem v_cmp {f : D → D → Option D} {r : R2} {op : CmpOp} {a b : Expr} {ma mb : M Rf} {pos : Pos} (ho : OpR X (compareOp op) r) (hf : OpD X.K f r) (ha : PE X a (rdB X.K ma)) (hb : PE X b (rdB X.K mb)) (hm : behindInMarks op b = false) : PE X (.Compare a [op] [b] pos) (rdV X.K (binM f ma mb)) := by
  refine pe_imp (pe_cmpR ho ha hb hm) fun σ H Q h => ?_
  obtain ⟨F, G, ρ, d, ρ', ok, hm, q⟩ := h
  obtain ⟨r, ρ1, s, x, y, h1, h2, e1, e2, e3⟩ := binM_some hm
  refine ⟨F, G, ρ, r, ρ1, ok, h1, fun v F1 H1 s1 ok1 r1 => ⟨F1, G, ρ1, s, ρ', ok1, h2, fun w F2 H2 s2 ok2 r2 => ?_⟩⟩
  exact hf F2 G H2 σ ρ' x y d v w Q ok2 (look_ok ok2 (r1.mono s2) e1) (look_ok ok2 r2 e2) e3 fun z F' H' s3 ok3 r3 => q z F' H' ((s1.trans s2).trans s3) ok3 r3
def unM (f : D → Option D) (a : M D) : M D := bnd a fun x => lft (f x)
theorem v_un {f : D → Option D} {r : V → Hp → VK → Prop} {op : UnaryOp} {a : Expr} {ma : M D} {pos : Pos} (ho : UnR X (unaryOp op) r) (hf : ∀ (F H : Hp) (x d : D) (v : V) (Q : VK), Rp X.K F x v → f x = some d → (∀ z, Rp X.K F d z → Q z H) → r v H Q)
    (ha : PE X a (rdV X.K ma)) : PE X (.UnaryOp op a pos) (rdV X.K (unM f ma)) := by
  refine pe_imp (pe_un ho ha) fun σ H Q h => ?_
  obtain ⟨F, G, ρ, d, ρ', ok, hm, q⟩ := h
  obtain ⟨x, ρ1, h1, h2⟩ := bnd_some hm
  obtain ⟨h3, rfl⟩ := lft_some h2
  exact ⟨F, G, ρ, x, ρ', ok, h1, fun v F1 H1 s1 ok1 r1 => hf F1 H1 x d v Q r1 h3 fun z r => q z F1 H1 s1 ok1 r⟩
end
end Fx
/-! Fx: dicts as data and as own objects: what is asked of them, what is put -/
namespace Fx
open PySem PySem.Spec PyProof.Rows L2
variable [Wd]
def lookD (kvs : List (D × D)) (k : D) : Option D := (kvs.find? fun e => PyData.eqv e.1 k).map (·.2)
def hasD (kvs : List (D × D)) (k : D) : Bool := kvs.any fun e => PyData.eqv e.1 k
def putD (kvs : List (D × D)) (k v : D) : List (D × D) := if hasD kvs k then kvs.map (fun e => if PyData.eqv e.1 k then (e.1, v) else e) else kvs ++ [(k, v)]
/-- the keys are all of one kind: ints and texts, or tuples -/
def keyFit (kvs : List (D × D)) (k : D) : Bool := match keyD k with
  | some _ => kvs.all fun e => (keyD e.1).isSome
  | none => keyT k && kvs.all fun e => keyT e.1
theorem key_v {K : Kf} {F : Hp} {x : D} {k : Key} {v : V} (h : keyD x = some k) (r : Rp K F x v) : v = kV k := by
  cases x with
  | int i => cases h; exact r
  | str s => cases h; exact r
  | _ => cases h
theorem keyD_eqv {x y : D} {p q : Key} (hx : keyD x = some p) (hy : keyD y = some q) : PyData.eqv x y = decide (p = q) := by
  cases x with
  | int i =>
    cases hx
    cases y with
    | int j => cases hy; rw [Bool.eq_iff_iff]; simp [PyData.eqv]
    | str s => cases hy; rw [Bool.eq_iff_iff]; simp [PyData.eqv]
    | _ => cases hy
  | str s =>
    cases hx
    cases y with
    | int j => cases hy; rw [Bool.eq_iff_iff]; simp [PyData.eqv]
    | str s => cases hy; rw [Bool.eq_iff_iff]; simp [PyData.eqv]
    | _ => cases hy
  | _ => cases hx
theorem keyT_atom {k : D} (h : keyT k = true) : keyD k = none := by
  cases k with
  | tuple xs => rfl
  | _ => first | rfl | (exfalso; unfold keyT at h; cases h)
def RpO (K : Kf) (F : Hp) : Option D → Option V → Prop
  | none, none => True
  | some d, some v => Rp K F d v
  | _, _ => False
section
variable {K : Kf} {F : Hp}
theorem RpO.some {d : D} {o : Option V} (h : RpO K F (some d) o) : ∃ v, o = some v ∧ Rp K F d v := by
  cases o with
  | none => exact h.elim
  | some v => exact ⟨v, rfl, h⟩
theorem RpO.none {o : Option V} (h : RpO K F none o) : o = none := by
  cases o with
  | none => rfl
  | some v => exact h.elim
theorem RpO.isSome {o : Option D} {p : Option V} (h : RpO K F o p) : p.isSome = o.isSome := by
  cases o with
  | none => rw [h.none]; rfl
  | some d => obtain ⟨v, rfl, _⟩ := h.some; rfl
theorem lookD_K {k : D} {q : Key} (hk : keyD k = some q) : ∀ {kvs : List (D × D)} {ws : List (Key × V)}, Rpk K F kvs ws → RpO K F (lookD kvs k) (valV ws q)
  | [], ws, h => by cases h; exact trivial
  | (k', d) :: kvs, ws, h => by
    obtain ⟨q', v, r, rfl, h1, h2, h3⟩ := h
    have ih := lookD_K hk h3
    unfold lookD valV at ih ⊢
    rw [List.find?_cons, List.find?_cons, keyD_eqv h1 hk]
    by_cases e : q' = q
    · rw [decide_eq_true e]; exact h2
    · rw [decide_eq_false e]; exact ih
theorem lookD_E {k : D} : ∀ {kvs : List (D × D)} {es : List (D × Addr × V)}, Rpe K F kvs es → RpO K F (lookD kvs k) (lookE es k)
  | [], es, h => by cases h; exact trivial
  | (k', d) :: kvs, es, h => by
    obtain ⟨b, v, r, rfl, h1, h2, h3⟩ := h
    have ih := lookD_E (k := k) h3
    unfold lookD lookE at ih ⊢
    rw [List.find?_cons, List.find?_cons]
    cases h : PyData.eqv k' k with
    | true => exact h2
    | false => exact ih
theorem Rpk.keys : ∀ {kvs : List (D × D)} {ws : List (Key × V)}, Rpk K F kvs ws → ∀ e ∈ kvs, (keyD e.1).isSome = true
  | [], _, _, _, h => by cases h
  | (k', d) :: kvs, ws, h, e, he => by
    obtain ⟨q', v, r, rfl, h1, h2, h3⟩ := h
    rcases List.mem_cons.mp he with z | z
    · rw [z]; show (keyD k').isSome = true; rw [h1]; rfl
    · exact Rpk.keys h3 e z
theorem Rpk.len : ∀ {kvs : List (D × D)} {ws : List (Key × V)}, Rpk K F kvs ws → ws.length = kvs.length
  | [], _, h => by cases h; rfl
  | (k', d) :: kvs, ws, h => by
    obtain ⟨q', v, r, rfl, h1, h2, h3⟩ := h
    rw [List.length_cons, List.length_cons, Rpk.len h3]
theorem Rpe.len : ∀ {kvs : List (D × D)} {ws : List (D × Addr × V)}, Rpe K F kvs ws → ws.length = kvs.length
  | [], _, h => by cases h; rfl
  | (k', d) :: kvs, ws, h => by
    obtain ⟨q', v, r, rfl, h1, h2, h3⟩ := h
    rw [List.length_cons, List.length_cons, Rpe.len h3]
theorem Rpe.keys : ∀ {kvs : List (D × D)} {es : List (D × Addr × V)}, Rpe K F kvs es → es.map (·.1) = kvs.map (·.1)
  | [], _, h => by cases h; rfl
  | (k', d) :: kvs, ws, h => by
    obtain ⟨b, v, r, rfl, h1, h2, h3⟩ := h
    rw [List.map_cons, List.map_cons, Rpe.keys h3]
theorem Rpe.at : ∀ {kvs : List (D × D)} {es : List (D × Addr × V)}, Rpe K F kvs es → ∀ e ∈ es, Rp K F e.1 (.ref e.2.1)
  | [], _, h, _, he => by cases h; cases he
  | (k', d) :: kvs, ws, h, e, he => by
    obtain ⟨b, v, r, rfl, h1, h2, h3⟩ := h
    rcases List.mem_cons.mp he with z | z
    · rw [z]; exact h1
    · exact Rpe.at h3 e z
theorem putD_any_K {k : D} {q : Key} (hk : keyD k = some q) : ∀ {kvs : List (D × D)} {ws : List (Key × V)}, Rpk K F kvs ws → hasD kvs k = ws.any fun e => decide (e.1 = q)
  | [], ws, h => by cases h; rfl
  | (k', d) :: kvs, ws, h => by
    obtain ⟨q', v, r, rfl, h1, h2, h3⟩ := h
    have ih := putD_any_K hk h3
    unfold hasD at ih ⊢
    rw [List.any_cons, List.any_cons, ih, keyD_eqv h1 hk]
theorem putD_any_E {k : D} : ∀ {kvs : List (D × D)} {es : List (D × Addr × V)}, Rpe K F kvs es → hasD kvs k = es.any fun e => PyData.eqv e.1 k
  | [], ws, h => by cases h; rfl
  | (k', d) :: kvs, ws, h => by
    obtain ⟨b, v, r, rfl, h1, h2, h3⟩ := h
    have ih := putD_any_E (k := k) h3
    unfold hasD at ih ⊢
    rw [List.any_cons, List.any_cons, ih]
theorem putD_K {k d : D} {q : Key} {v : V} (hk : keyD k = some q) (rv : Rp K F d v) {kvs : List (D × D)} {ws : List (Key × V)} (h : Rpk K F kvs ws) : Rpk K F (putD kvs k d) (putK ws q v) := by
  have h1 : ∀ {kvs : List (D × D)} {ws : List (Key × V)}, Rpk K F kvs ws → Rpk K F (kvs.map fun e => if PyData.eqv e.1 k then (e.1, d) else e) (ws.map fun e => if e.1 = q then (e.1, v) else e) := by
    intro kvs
    induction kvs with
    | nil => intro ws h; cases h; rfl
    | cons e kvs ih =>
      obtain ⟨k', d'⟩ := e
      intro ws h
      obtain ⟨q', v', r, rfl, h1, h2, h3⟩ := h
      have ih := ih h3
      rw [List.map_cons, List.map_cons]
      have e := keyD_eqv h1 hk
      by_cases hq : q' = q
      · rw [decide_eq_true hq] at e
        rw [if_pos (show PyData.eqv (k', d').1 k = true from e), if_pos (show (q', v').1 = q from hq)]
        exact ⟨q', v, _, rfl, h1, rv, ih⟩
      · rw [decide_eq_false hq] at e
        rw [if_neg (show ¬ PyData.eqv (k', d').1 k = true by rw [show PyData.eqv (k', d').1 k = false from e]; exact Bool.false_ne_true), if_neg (show ¬ (q', v').1 = q from hq)]
        exact ⟨q', v', _, rfl, h1, h2, ih⟩
  have h2 : ∀ {kvs : List (D × D)} {ws : List (Key × V)}, Rpk K F kvs ws → Rpk K F (kvs ++ [(k, d)]) (ws ++ [(q, v)]) := by
    intro kvs
    induction kvs with
    | nil => intro ws h; cases h; exact ⟨q, v, [], rfl, hk, rv, rfl⟩
    | cons e kvs ih =>
      obtain ⟨k', d'⟩ := e
      intro ws h
      obtain ⟨q', v', r, rfl, h1, h2, h3⟩ := h
      exact ⟨q', v', _, rfl, h1, h2, ih h3⟩
  unfold putD putK
  rw [putD_any_K hk h]
  split
  · exact h1 h
  · exact h2 h
theorem putD_E {k d : D} {b : Addr} {v : V} (rk : Rp K F k (.ref b)) (rv : Rp K F d v) {kvs : List (D × D)} {es : List (D × Addr × V)} (h : Rpe K F kvs es) : Rpe K F (putD kvs k d) (putE es k b v) := by
  have h1 : ∀ {kvs : List (D × D)} {es : List (D × Addr × V)}, Rpe K F kvs es → Rpe K F (kvs.map fun e => if PyData.eqv e.1 k then (e.1, d) else e) (es.map fun e => if PyData.eqv e.1 k then (e.1, e.2.1, v) else e) := by
    intro kvs
    induction kvs with
    | nil => intro ws h; cases h; rfl
    | cons e kvs ih =>
      obtain ⟨k', d'⟩ := e
      intro ws h
      obtain ⟨b', v', r, rfl, h1, h2, h3⟩ := h
      have ih := ih h3
      rw [List.map_cons, List.map_cons]
      cases e : PyData.eqv k' k with
      | true =>
        rw [if_pos rfl, if_pos rfl]
        exact ⟨b', v, _, rfl, h1, rv, ih⟩
      | false =>
        rw [if_neg Bool.false_ne_true, if_neg Bool.false_ne_true]
        exact ⟨b', v', _, rfl, h1, h2, ih⟩
  have h2 : ∀ {kvs : List (D × D)} {es : List (D × Addr × V)}, Rpe K F kvs es → Rpe K F (kvs ++ [(k, d)]) (es ++ [(k, b, v)]) := by
    intro kvs
    induction kvs with
    | nil => intro ws h; cases h; exact ⟨b, v, [], rfl, rk, rv, rfl⟩
    | cons e kvs ih =>
      obtain ⟨k', d'⟩ := e
      intro ws h
      obtain ⟨q', v', r, rfl, h1, h2, h3⟩ := h
      exact ⟨q', v', _, rfl, h1, h2, ih h3⟩
  unfold putD putE
  rw [putD_any_E h]
  split
  · exact h1 h
  · exact h2 h
end
theorem putD_len (kvs : List (D × D)) (k v : D) : (putD kvs k v).length ≤ kvs.length + 1 := by
  unfold putD
  split
  · rw [List.length_map]; omega
  · rw [List.length_append]; exact Nat.le_refl _
/-- p's dict, locked or not, of these entries -/
def DcR (K : Kf) (F H : Hp) (p : Addr) (kvs : List (D × D)) : Prop := (∃ ws, Rd H p (.dK ws) ∧ Rpk K F kvs ws) ∨ ∃ es : List (D × Addr × V), Rd H p (DictO p es) ∧ Rpe K F kvs es
theorem Vw.dict {K : Kf} {F H : Hp} {v : V} {kvs : List (D × D)} (h : Vw K F H v (.dict kvs)) (s : Same F H) : ∃ p, v = .ref p ∧ DcR K F H p kvs := by
  rcases h with h | ⟨p, vs, ys, rfl, e, h1, h2⟩ | ⟨p, kvs, rfl, e, h1⟩
  · obtain ⟨a, o, rfl, h⟩ := h
    rcases h with ⟨ws, h1, h2⟩ | ⟨es, h1, h2⟩
    · exact ⟨a, rfl, .inl ⟨ws, .inr ⟨o, s _ _ h1⟩, h2⟩⟩
    · exact ⟨a, rfl, .inr ⟨es, .inr ⟨o, s _ _ h1⟩, h2⟩⟩
  · cases e
  · cases e
    rcases h1 with ⟨ws, h1, h2⟩ | ⟨es, h1, h2⟩
    · exact ⟨p, rfl, .inl ⟨ws, .inl h1, h2⟩⟩
    · exact ⟨p, rfl, .inr ⟨es, .inl h1, h2⟩⟩
section
variable {X : Cx} {F H : Hp} {p : Addr} {kvs : List (D × D)} {k : D} {y : V}
theorem keyT_at {K : Kf} (hk : keyT k = true) (r : Rp K F k y) : ∃ b, y = .ref b := by
  cases k with
  | tuple xs => obtain ⟨a, vs, rfl, _⟩ := r; exact ⟨a, rfl⟩
  | _ => (exfalso; unfold keyT at hk; cases hk)
theorem Rp.dpT (s : Same F H) (hk : keyT k = true) (r : Rp X.K F k y) : Dp X.K H y k := Rp.dp _ _ (keyLay 7 _ (keyT_ok hk).1).1 (Rp.mono s _ _ r)
theorem provE (hw : X.w = Wd.w) (s : Same F H) {es : List (D × Addr × V)} (e : Rd H p (DictO p es)) (r : Rpe X.K F kvs es) (ht : ∀ e ∈ es, keyT e.1 = true) : ProvE X H p es := fun I => dict_of hw I e fun x hx => Rp.dpT s (ht x hx) (r.at x hx)
theorem DictO.keys {X : Cx} {H : Hp} {p : Addr} {es : List (D × Addr × V)} {pins : List (Addr × Obj)} {σ : L2.St} {s : Shared} (I : Inv X pins σ H s) (e : Rd H p (DictO p es)) : ∀ e ∈ es, keyT e.1 = true := by
  obtain ⟨⟨z, lo, nd, kt, _⟩, _⟩ := (show ObjOk X.prog X.w H _ p (DictO p es) from e.ok I.hok)
  exact kt
/-- a lookup, whatever the kind of the keys -/
theorem DcR.get (hw : X.w = Wd.w) (s : Same F H) (h : DcR X.K F H p kvs) (fit : keyFit kvs k = true) (r : Rp X.K F k y) : ∃ o, DG X H p y o ∧ RpO X.K F (lookD kvs k) o := by
  unfold keyFit at fit
  split at fit
  · rename_i q hq
    cases key_v hq r
    rcases h with ⟨ws, h1, h2⟩ | ⟨es, h1, h2⟩
    · exact ⟨_, DG.flat (ProvK.of h1), lookD_K hq h2⟩
    · cases kvs with
      | nil =>
        cases h2
        exact ⟨_, DG.flat (Empty.k (empty_E h1)), trivial⟩
      | cons e kvs =>
        obtain ⟨k', d⟩ := e
        obtain ⟨b, v, r, rfl, g1, g2, g3⟩ := h2
        have := (List.all_eq_true.mp fit) (k', d) List.mem_cons_self
        exfalso
        obtain ⟨q', hq'⟩ := Option.isSome_iff_exists.mp this
        have := key_v hq' g1
        cases q' <;> cases this
  · rw [Bool.and_eq_true] at fit
    obtain ⟨b, rfl⟩ := keyT_at fit.1 r
    have hd := Rp.dpT (X := X) s fit.1 r
    rcases h with ⟨ws, h1, h2⟩ | ⟨es, h1, h2⟩
    · cases kvs with
      | nil =>
        cases h2
        exact ⟨_, DG.nest (Empty.e (empty_K h1)) fit.1 hd, trivial⟩
      | cons e kvs =>
        have a1 := Rpk.keys h2 e List.mem_cons_self
        have a2 := (List.all_eq_true.mp fit.2) e List.mem_cons_self
        rw [keyT_atom a2] at a1
        cases a1
    · refine ⟨_, DG.nest (provE hw s h1 h2 fun x hx => ?_) fit.1 hd, lookD_E h2⟩
      have hm : x.1 ∈ kvs.map (·.1) := by rw [← h2.keys]; exact List.mem_map.mpr ⟨x, hx, rfl⟩
      obtain ⟨e, he, ee⟩ := List.mem_map.mp hm
      rw [← ee]
      exact (List.all_eq_true.mp fit.2) e he
/-- the key k takes the value d -/
theorem DcAt.put (hw : X.w = Wd.w) (s : Same F H) (h : DcAt X.K F H p kvs) (fit : keyFit kvs k = true) (hl : kvs.length < sizeLine) (r : Rp X.K F k y) {d : D} {v : V} (rv : Rp X.K F d v) :
    ∃ u, DP X H p y v (upd H p u) ∧ DcAt X.K F (upd H p u) p (putD kvs k d) := by
  unfold keyFit at fit
  split at fit
  · rename_i q hq
    cases key_v hq r
    rcases h with ⟨ws, h1, h2⟩ | ⟨es, h1, h2⟩
    · exact ⟨_, DP.flat h1 trivial (ProvK.of (.inl h1)) (by rw [h2.len]; exact hl), .inl ⟨_, upd_same, putD_K hq rv h2⟩⟩
    · cases kvs with
      | nil =>
        cases h2
        exact ⟨_, DP.flat h1 trivial (Empty.k (empty_E (.inl h1))) hl, .inl ⟨_, upd_same, putD_K hq rv (kvs := []) (ws := []) rfl⟩⟩
      | cons e kvs =>
        obtain ⟨k', d⟩ := e
        obtain ⟨b, v, r, rfl, g1, g2, g3⟩ := h2
        have := (List.all_eq_true.mp fit) (k', d) List.mem_cons_self
        exfalso
        obtain ⟨q', hq'⟩ := Option.isSome_iff_exists.mp this
        have := key_v hq' g1
        cases q' <;> cases this
  · rw [Bool.and_eq_true] at fit
    obtain ⟨b, rfl⟩ := keyT_at fit.1 r
    have hd := Rp.dpT (X := X) s fit.1 r
    rcases h with ⟨ws, h1, h2⟩ | ⟨es, h1, h2⟩
    · cases kvs with
      | nil =>
        cases h2
        exact ⟨_, DP.nest hw h1 trivial (Empty.e (empty_K (.inl h1))) fit.1 hd hl, .inr ⟨_, upd_same, putD_E r rv (kvs := []) (es := []) rfl⟩⟩
      | cons e kvs =>
        have a1 := Rpk.keys h2 e List.mem_cons_self
        have a2 := (List.all_eq_true.mp fit.2) e List.mem_cons_self
        rw [keyT_atom a2] at a1
        cases a1
    · refine ⟨_, DP.nest hw h1 trivial (provE hw s (.inl h1) h2 fun x hx => ?_) fit.1 hd (by rw [h2.len]; exact hl), .inr ⟨_, upd_same, putD_E r rv h2⟩⟩
      have hm : x.1 ∈ kvs.map (·.1) := by rw [← h2.keys]; exact List.mem_map.mpr ⟨x, hx, rfl⟩
      obtain ⟨e, he, ee⟩ := List.mem_map.mp hm
      rw [← ee]
      exact (List.all_eq_true.mp fit.2) e he
end
end Fx
/-! Fx: operators by values. -/
namespace Fx
open PySem PySem.Spec PyProof.Rows L2
variable [Wd]
theorem OpR.or {X : Cx} {f : Value → Value → Sem Value} {r r' : R2} (h : OpR X f r) (h' : OpR X f r') : OpR X f (fun x y H Q => r x y H Q ∨ r' x y H Q) := fun pins s σ H x y v u Q I rx ry q => by
  rcases q with q | q
  · exact h pins s σ H x y v u Q I rx ry q
  · exact h' pins s σ H x y v u Q I rx ry q
def fitS (n : Nat) : Bool := decide (n ≤ sizeLine)
def addD : D → D → Option D
  | .int i, .int j => some (.int (i + j))
  | .str a, .str b => if fitS (a.length + b.length) then some (.str (a ++ b)) else none
  | .tuple xs, .tuple ys => if fitS (xs.length + ys.length) then some (.tuple (xs ++ ys)) else none
  | .list xs, .list ys => if fitS (xs.length + ys.length) then some (.list (xs ++ ys)) else none
  | _, _ => none
def subD : D → D → Option D
  | .int i, .int j => some (.int (i - j))
  | _, _ => none
def mulFit (i j : Int) : Bool := decide (i.natAbs < 2 ^ 64) || decide (j.natAbs < 2 ^ 64) || decide (i.natAbs.log2 + j.natAbs.log2 < 1000000)
def mulD : D → D → Option D
  | .int i, .int j => if mulFit i j then some (.int (i * j)) else none
  | .list xs, .int k => if decide (-(2 ^ 63) ≤ k) && decide (k < 2 ^ 63) && fitS (xs.length * k.toNat) then some (.list (List.replicate k.toNat xs).flatten) else none
  | _, _ => none
def divFit (j : Int) : Bool := decide (0 < j) && decide (j.natAbs.log2 < 9000)
def fdivD : D → D → Option D
  | .int i, .int j => if divFit j then some (.int (i / j)) else none
  | _, _ => none
def modD : D → D → Option D
  | .int i, .int j => if decide (0 < j) then some (.int (i % j)) else none
  | _, _ => none
def powFit (i j : Int) : Bool := decide (0 ≤ j) && decide (j ≤ 1000000) && decide (i.natAbs < 2 ^ 64)
def powD : D → D → Option D
  | .int i, .int j => if powFit i j then some (.int (i ^ j.toNat)) else none
  | _, _ => none
def shlD : D → D → Option D
  | .int i, .int j => if powFit i j then some (.int (i * 2 ^ j.toNat)) else none
  | _, _ => none
def negD : D → Option D
  | .int i => some (.int (-i))
  | _ => none
def cmpD (p : Int → Int → Bool) : D → D → Option D
  | .int i, .int j => some (.bool (p i j))
  | _, _ => none
abbrev ltD := cmpD fun i j => decide (i < j)
abbrev leD := cmpD fun i j => decide (i ≤ j)
abbrev gtD := cmpD fun i j => decide (j < i)
abbrev geD := cmpD fun i j => decide (j ≤ i)
def eqD (x y : D) : Option D := if SeqAt.shaped x && SeqAt.shaped y then some (.bool (PyData.eqv x y)) else none
def neD (x y : D) : Option D := if SeqAt.shaped x && SeqAt.shaped y then some (.bool (!PyData.eqv x y)) else none
def catO : D → D → Option Own
  | .list xs, .list ys => if fitS (xs.length + ys.length) then some (.lst (xs ++ ys)) else none
  | _, _ => none
def repO : D → D → Option Own
  | .list xs, .int k => if decide (-(2 ^ 63) ≤ k) && decide (k < 2 ^ 63) && fitS (xs.length * k.toNat) then some (.lst (List.replicate k.toNat xs).flatten) else none
  | _, _ => none
section
variable {K : Kf}
theorem Vw.int {F H : Hp} {v : V} {i : Int} (h : Vw K F H v (.int i)) : v = .int i := h.flat (fun _ z => nomatch z)
theorem Vw.str {F H : Hp} {v : V} {i : Str} (h : Vw K F H v (.str i)) : v = .str i := h.flat (fun _ z => nomatch z)
theorem Vw.bl {F H : Hp} {v : V} {i : Bool} (h : Vw K F H v (.bool i)) : v = .bl i := h.flat (fun _ z => nomatch z)
theorem Vw.non {F H : Hp} {v : V} (h : Vw K F H v .none) : v = .non := h.flat (fun _ z => nomatch z)
theorem opd_add : OpD K addD (fun x y H Q => (rI0 fun i j => .int (i + j)) x y H Q ∨ (∃ i j, x = .str i ∧ y = .str j ∧ i.length + j.length ≤ sizeLine ∧ Q (.str (i ++ j)) H) ∨ rCatA K x y H Q ∨ rCat x y H Q) := by
  intro F G H σ ρ x y d v w Q ok hx hy hf q
  unfold addD at hf
  split at hf
  · cases hf
    have e1 := hx.int
    have e2 := hy.int
    subst e1 e2
    exact .inl ⟨_, _, rfl, rfl, q _ F H (Same.refl F) ok rfl⟩
  · split at hf
    · rename_i hz
      cases hf
      have e1 := hx.str
      have e2 := hy.str
      subst e1 e2
      exact .inr (.inl ⟨_, _, rfl, rfl, of_decide_eq_true hz, q _ F H (Same.refl F) ok rfl⟩)
    · cases hf
  · split at hf
    · rename_i xs ys hz
      cases hf
      obtain ⟨p, vs, rfl, h1, h1f, h2⟩ := hx.tuple ok.sub
      obtain ⟨p', vs', rfl, h1', h1f', h2'⟩ := hy.tuple ok.sub
      refine .inr (.inr (.inl ⟨p, p', vs, vs', rfl, rfl, h1, h1', by rw [h2.length, h2'.length]; exact of_decide_eq_true hz, fun e => ?_, fun _ e => ?_, fun _ _ r hr => ?_⟩))
      · subst e
        have e0 : xs = [] := List.length_eq_zero_iff.mp h2.length.symm
        subst e0
        exact q _ F H (Same.refl F) ok ⟨p', vs', rfl, h1f', h2'⟩
      · subst e
        have e0 : ys = [] := List.length_eq_zero_iff.mp h2'.length.symm
        subst e0
        rw [List.append_nil] at q
        exact q _ F H (Same.refl F) ok ⟨p, vs, rfl, h1f, h2⟩
      · obtain ⟨e, ok'⟩ := ok.alloc (o := .tup (vs ++ vs')) hr
        exact q _ _ _ e ok' ⟨r, _, rfl, SqT.of upd_same, Rps.mono e _ _ (h2.append h2')⟩
    · cases hf
  · split at hf
    · rename_i xs ys hz
      cases hf
      obtain ⟨p, vs, rfl, h1, h2⟩ := hx.list ok.sub
      obtain ⟨p', vs', rfl, h1', h2'⟩ := hy.list ok.sub
      refine .inr (.inr (.inr ⟨p, p', vs, vs', rfl, rfl, h1, h1', by rw [h2.length, h2'.length]; exact of_decide_eq_true hz, fun r hr => ?_⟩))
      obtain ⟨e, ok'⟩ := ok.alloc (o := .lst (vs ++ vs')) hr
      exact q _ _ _ e ok' ⟨r, _, rfl, upd_same, Rps.mono e _ _ (h2.append h2')⟩
    · cases hf
  · cases hf
/-- two ints give an int or a bool -/
theorem opd_ii {f : D → D → Option D} {C : Int → Int → Prop} {g : Int → Int → V} (h : ∀ x y d, f x y = some d → ∃ i j, x = .int i ∧ y = .int j ∧ C i j ∧ ∀ F, Rp K F d (g i j)) : OpD K f (rI C g) := by
  intro F G H σ ρ x y d v w Q ok hx hy hf q
  obtain ⟨i, j, rfl, rfl, hc, hr⟩ := h x y d hf
  have e1 := hx.int
  have e2 := hy.int
  subst e1 e2
  exact ⟨i, j, rfl, rfl, hc, q _ F H (Same.refl F) ok (hr F)⟩
theorem opd_ii0 {f : D → D → Option D} {g : Int → Int → V} (h : ∀ x y d, f x y = some d → ∃ i j, x = .int i ∧ y = .int j ∧ ∀ F, Rp K F d (g i j)) : OpD K f (rI0 g) := by
  intro F G H σ ρ x y d v w Q ok hx hy hf q
  obtain ⟨i, j, rfl, rfl, hr⟩ := h x y d hf
  have e1 := hx.int
  have e2 := hy.int
  subst e1 e2
  exact ⟨i, j, rfl, rfl, q _ F H (Same.refl F) ok (hr F)⟩
theorem opd_sub : OpD K subD (rI0 fun i j => .int (i - j)) := opd_ii0 fun x y d h => by
  unfold subD at h
  split at h
  · cases h; exact ⟨_, _, rfl, rfl, fun _ => rfl⟩
  · cases h
theorem opd_mul : OpD K mulD (fun x y H Q => (rI (fun i j => IntMulOk i j) fun i j => .int (i * j)) x y H Q ∨ rRep x y H Q) := by
  intro F G H σ ρ x y d v w Q ok hx hy hf q
  unfold mulD at hf
  split at hf
  · split at hf
    · rename_i hz
      cases hf
      have e1 := hx.int
      have e2 := hy.int
      subst e1 e2
      refine .inl ⟨_, _, rfl, rfl, ?_, q _ F H (Same.refl F) ok rfl⟩
      unfold mulFit at hz
      rw [Bool.or_eq_true, Bool.or_eq_true] at hz
      rcases hz with (hz | hz) | hz
      · exact CMul.ok (.inl (by have := of_decide_eq_true hz; omega))
      · exact CMul.ok (.inr (by have := of_decide_eq_true hz; omega))
      · have hz := of_decide_eq_true hz
        exact CMulW.ok hz
    · cases hf
  · split at hf
    · rename_i xs k hz
      cases hf
      rw [Bool.and_eq_true, Bool.and_eq_true] at hz
      obtain ⟨p, vs, rfl, h1, h2⟩ := hx.list ok.sub
      have e2 := hy.int
      subst e2
      refine .inr ⟨p, k, vs, rfl, rfl, h1, of_decide_eq_true hz.1.1, of_decide_eq_true hz.1.2, by rw [h2.length]; exact of_decide_eq_true hz.2, fun r hr => ?_⟩
      obtain ⟨e, ok'⟩ := ok.alloc (o := .lst (List.replicate k.toNat vs).flatten) hr
      exact q _ _ _ e ok' ⟨r, _, rfl, upd_same, Rps.mono e _ _ (h2.flat k.toNat)⟩
    · cases hf
  · cases hf
theorem opd_fdiv : OpD K fdivD (rI CDivW fun i j => .int (i / j)) := opd_ii fun x y d h => by
  unfold fdivD at h
  split at h
  · split at h
    · rename_i hz
      cases h
      unfold divFit at hz
      rw [Bool.and_eq_true] at hz
      exact ⟨_, _, rfl, rfl, ⟨of_decide_eq_true hz.1, of_decide_eq_true hz.2⟩, fun _ => rfl⟩
    · cases h
  · cases h
theorem opd_mod : OpD K modD (rI (fun _ j => 0 < j) fun i j => .int (i % j)) := opd_ii fun x y d h => by
  unfold modD at h
  split at h
  · split at h
    · rename_i hz
      cases h
      exact ⟨_, _, rfl, rfl, of_decide_eq_true hz, fun _ => rfl⟩
    · cases h
  · cases h
theorem powFit_ok {i j : Int} (h : powFit i j = true) : CPow i j := by
  unfold powFit at h
  rw [Bool.and_eq_true, Bool.and_eq_true] at h
  exact ⟨of_decide_eq_true h.1.1, of_decide_eq_true h.1.2, of_decide_eq_true h.2⟩
theorem opd_pow : OpD K powD (rI CPow fun i j => .int (i ^ j.toNat)) := opd_ii fun x y d h => by
  unfold powD at h
  split at h
  · split at h
    · rename_i hz
      cases h
      exact ⟨_, _, rfl, rfl, powFit_ok hz, fun _ => rfl⟩
    · cases h
  · cases h
theorem opd_shl : OpD K shlD (rI CPow fun i j => .int (i * 2 ^ j.toNat)) := opd_ii fun x y d h => by
  unfold shlD at h
  split at h
  · split at h
    · rename_i hz
      cases h
      exact ⟨_, _, rfl, rfl, powFit_ok hz, fun _ => rfl⟩
    · cases h
  · cases h
theorem opd_cmp {p : Int → Int → Bool} : OpD K (cmpD p) (rI0 fun i j => .bl (p i j)) := opd_ii0 fun x y d h => by
  unfold cmpD at h
  split at h
  · cases h; exact ⟨_, _, rfl, rfl, fun _ => rfl⟩
  · cases h
theorem opd_eq : OpD K eqD (rEqD K) := by
  intro F G H σ ρ x y d v w Q ok hx hy hf q
  unfold eqD at hf
  split at hf
  · rename_i hz
    cases hf
    rw [Bool.and_eq_true] at hz
    exact ⟨x, y, hx.dp ok.sub (SeqAt.canLay_of_shaped hz.1), hy.dp ok.sub (SeqAt.canLay_of_shaped hz.2), hz.1, hz.2, q _ F H (Same.refl F) ok rfl⟩
  · cases hf
theorem opd_ne : OpD K neD (rNeD K) := by
  intro F G H σ ρ x y d v w Q ok hx hy hf q
  unfold neD at hf
  split at hf
  · rename_i hz
    cases hf
    rw [Bool.and_eq_true] at hz
    exact ⟨x, y, hx.dp ok.sub (SeqAt.canLay_of_shaped hz.1), hy.dp ok.sub (SeqAt.canLay_of_shaped hz.2), hz.1, hz.2, q _ F H (Same.refl F) ok rfl⟩
  · cases hf
theorem opn_cat : OpN K catO rCat := by
  intro F G H σ ρ x y d v w Q ok hx hy hf q
  unfold catO at hf
  split at hf
  · split at hf
    · rename_i xs ys hz
      cases hf
      obtain ⟨p, vs, rfl, h1, h2⟩ := hx.list ok.sub
      obtain ⟨p', vs', rfl, h1', h2'⟩ := hy.list ok.sub
      refine ⟨p, p', vs, vs', rfl, rfl, h1, h1', by rw [h2.length, h2'.length]; exact of_decide_eq_true hz, fun r hr => ?_⟩
      obtain ⟨ok', n⟩ := ok.fresh (o := .lst (vs ++ vs')) hr
      exact q r F _ (Same.refl F) ok' n ⟨_, upd_same, h2.append h2'⟩
    · cases hf
  · cases hf
theorem opn_rep : OpN K repO rRep := by
  intro F G H σ ρ x y d v w Q ok hx hy hf q
  unfold repO at hf
  split at hf
  · split at hf
    · rename_i xs k hz
      cases hf
      rw [Bool.and_eq_true, Bool.and_eq_true] at hz
      obtain ⟨p, vs, rfl, h1, h2⟩ := hx.list ok.sub
      have e2 := hy.int
      subst e2
      refine ⟨p, k, vs, rfl, rfl, h1, of_decide_eq_true hz.1.1, of_decide_eq_true hz.1.2, by rw [h2.length]; exact of_decide_eq_true hz.2, fun r hr => ?_⟩
      obtain ⟨ok', n⟩ := ok.fresh (o := .lst (List.replicate k.toNat vs).flatten) hr
      exact q r F _ (Same.refl F) ok' n ⟨_, upd_same, h2.flat k.toNat⟩
    · cases hf
  · cases hf
end
def tstM (m : M D) : M Bool := bnd m fun d => match d with
  | .bool b => ret b
  | _ => fun _ => none
section
variable {X : Cx} {a b : Expr} {ma mb : M Rf} {pos : Pos}
theorem v_add (ha : PE X a (rdB X.K ma)) (hb : PE X b (rdB X.K mb)) : PE X (.BinOp a .Add b pos) (rdV X.K (binM addD ma mb)) := v_op (op_add.or (op_add_str.or (op_catA.or op_cat))) opd_add ha hb
theorem v_sub (ha : PE X a (rdB X.K ma)) (hb : PE X b (rdB X.K mb)) : PE X (.BinOp a .Sub b pos) (rdV X.K (binM subD ma mb)) := v_op op_sub opd_sub ha hb
theorem op_mulOk : OpR X (binaryOp .Mult) (rI (fun i j => IntMulOk i j) fun i j => .int (i * j)) := opI fun _ _ _ _ _ _ _ hc q => mul_int q hc
theorem v_mul (ha : PE X a (rdB X.K ma)) (hb : PE X b (rdB X.K mb)) : PE X (.BinOp a .Mult b pos) (rdV X.K (binM mulD ma mb)) := v_op (op_mulOk.or op_rep) opd_mul ha hb
theorem v_fdiv (ha : PE X a (rdB X.K ma)) (hb : PE X b (rdB X.K mb)) : PE X (.BinOp a .FloorDiv b pos) (rdV X.K (binM fdivD ma mb)) := v_op op_fdivW opd_fdiv ha hb
theorem v_mod (ha : PE X a (rdB X.K ma)) (hb : PE X b (rdB X.K mb)) : PE X (.BinOp a .Mod b pos) (rdV X.K (binM modD ma mb)) := v_op op_mod opd_mod ha hb
theorem v_pow (ha : PE X a (rdB X.K ma)) (hb : PE X b (rdB X.K mb)) : PE X (.BinOp a .Pow b pos) (rdV X.K (binM powD ma mb)) := v_op op_pow opd_pow ha hb
theorem v_shl (ha : PE X a (rdB X.K ma)) (hb : PE X b (rdB X.K mb)) : PE X (.BinOp a .LShift b pos) (rdV X.K (binM shlD ma mb)) := v_op op_shl opd_shl ha hb
theorem n_cat (ha : PE X a (rdB X.K ma)) (hb : PE X b (rdB X.K mb)) : PE X (.BinOp a .Add b pos) (rdN X.K (binM catO ma mb)) := n_op op_cat opn_cat ha hb
theorem n_rep (ha : PE X a (rdB X.K ma)) (hb : PE X b (rdB X.K mb)) : PE X (.BinOp a .Mult b pos) (rdN X.K (binM repO ma mb)) := n_op op_rep opn_rep ha hb
theorem v_neg {ma : M D} (ha : PE X a (rdV X.K ma)) : PE X (.UnaryOp .USub a pos) (rdV X.K (unM negD ma)) := v_un un_neg (fun F H x d v Q hx hf q => by
  unfold negD at hf
  split at hf
  · cases hf
    cases (show v = _ from hx)
    exact ⟨_, rfl, q _ rfl⟩
  · cases hf) ha
theorem v_lt (ha : PE X a (rdB X.K ma)) (hb : PE X b (rdB X.K mb)) : PE X (.Compare a [.Lt] [b] pos) (rdV X.K (binM ltD ma mb)) := v_cmp op_lt opd_cmp ha hb (nomark _)
theorem v_le (ha : PE X a (rdB X.K ma)) (hb : PE X b (rdB X.K mb)) : PE X (.Compare a [.LtE] [b] pos) (rdV X.K (binM leD ma mb)) := v_cmp op_le opd_cmp ha hb (nomark _)
theorem v_gt (ha : PE X a (rdB X.K ma)) (hb : PE X b (rdB X.K mb)) : PE X (.Compare a [.Gt] [b] pos) (rdV X.K (binM gtD ma mb)) := v_cmp op_gt opd_cmp ha hb (nomark _)
theorem v_ge (ha : PE X a (rdB X.K ma)) (hb : PE X b (rdB X.K mb)) : PE X (.Compare a [.GtE] [b] pos) (rdV X.K (binM geD ma mb)) := v_cmp op_ge opd_cmp ha hb (nomark _)
theorem v_eq (hu : X.A.units + 64 < cLine) (ha : PE X a (rdB X.K ma)) (hb : PE X b (rdB X.K mb)) : PE X (.Compare a [.Eq] [b] pos) (rdV X.K (binM eqD ma mb)) := v_cmp (op_eqD hu) opd_eq ha hb (nomark _)
theorem v_ne (hu : X.A.units + 64 < cLine) (ha : PE X a (rdB X.K ma)) (hb : PE X b (rdB X.K mb)) : PE X (.Compare a [.NotEq] [b] pos) (rdV X.K (binM neD ma mb)) := v_cmp (op_neD hu) opd_ne ha hb (nomark _)
/-! comparisons as tests -/
theorem t_cmp {f : D → D → Option D} {r : R2} {op : CmpOp} (ho : OpR X (compareOp op) r) (hf : OpD X.K f r) (ha : PE X a (rdB X.K ma)) (hb : PE X b (rdB X.K mb)) (hm : behindInMarks op b = false) : PT X (.Compare a [op] [b] pos) (rdT X.K (tstM (binM f ma mb))) := by
  refine pt_imp (pt_cmpR ho ha hb hm) fun σ H Q h => ?_
  obtain ⟨F, G, ρ, d, ρ', ok, hm, q⟩ := h
  obtain ⟨c, ρ2, hm1, hm2⟩ := bnd_some hm
  cases c with
  | bool c =>
    cases hm2
    obtain ⟨r, ρ1, s, x, y, h1, h2, e1, e2, e3⟩ := binM_some hm1
    refine ⟨F, G, ρ, r, ρ1, ok, h1, fun v F1 H1 s1 ok1 r1 => ⟨F1, G, ρ1, s, _, ok1, h2, fun w F2 H2 s2 ok2 r2 => ?_⟩⟩
    exact hf F2 G H2 σ _ x y _ v w _ ok2 (look_ok ok2 (r1.mono s2) e1) (look_ok ok2 r2 e2) e3 fun z F' H' s3 ok3 r3 => ⟨_, r3, q F' H' ((s1.trans s2).trans s3) ok3⟩
  | _ => cases hm2
theorem t_lt (ha : PE X a (rdB X.K ma)) (hb : PE X b (rdB X.K mb)) : PT X (.Compare a [.Lt] [b] pos) (rdT X.K (tstM (binM ltD ma mb))) := t_cmp op_lt opd_cmp ha hb (nomark _)
theorem t_le (ha : PE X a (rdB X.K ma)) (hb : PE X b (rdB X.K mb)) : PT X (.Compare a [.LtE] [b] pos) (rdT X.K (tstM (binM leD ma mb))) := t_cmp op_le opd_cmp ha hb (nomark _)
theorem t_gt (ha : PE X a (rdB X.K ma)) (hb : PE X b (rdB X.K mb)) : PT X (.Compare a [.Gt] [b] pos) (rdT X.K (tstM (binM gtD ma mb))) := t_cmp op_gt opd_cmp ha hb (nomark _)
theorem t_ge (ha : PE X a (rdB X.K ma)) (hb : PE X b (rdB X.K mb)) : PT X (.Compare a [.GtE] [b] pos) (rdT X.K (tstM (binM geD ma mb))) := t_cmp op_ge opd_cmp ha hb (nomark _)
theorem t_eq (hu : X.A.units + 64 < cLine) (ha : PE X a (rdB X.K ma)) (hb : PE X b (rdB X.K mb)) : PT X (.Compare a [.Eq] [b] pos) (rdT X.K (tstM (binM eqD ma mb))) := t_cmp (op_eqD hu) opd_eq ha hb (nomark _)
theorem t_ne (hu : X.A.units + 64 < cLine) (ha : PE X a (rdB X.K ma)) (hb : PE X b (rdB X.K mb)) : PT X (.Compare a [.NotEq] [b] pos) (rdT X.K (tstM (binM neD ma mb))) := t_cmp (op_neD hu) opd_ne ha hb (nomark _)
end
end Fx
/-! Fx: tests, and or not, subscripts, slices, displays, built-in functions. -/
namespace Fx
open PySem PySem.Spec PyProof.Rows L2
variable [Wd]
/-! ### tests -/
def andM (a b : M Bool) : M Bool := bnd a fun c => if c then b else ret false
def orM (a b : M Bool) : M Bool := bnd a fun c => if c then ret true else b
def notM (a : M Bool) : M Bool := bnd a fun c => ret (!c)
def iteM {α : Type} (c : M Bool) (a b : M α) : M α := bnd c fun x => if x then a else b
def blM (a : M Bool) : M D := bnd a fun c => ret (.bool c)
/-- truth of a value -/
def truD : D → Option Bool
  | .none => some false
  | .bool b => some b
  | .int i => some (i != 0)
  | .str s => if fitS s.length then some ((s.length : Int) != 0) else none
  | .list xs => some (!xs.isEmpty)
  | .tuple xs => some (!xs.isEmpty)
  | _ => none
def truM (m : M Rf) : M Bool := bnd m fun r => fun ρ => match look ρ r with
  | some d => (truD d).map fun b => (b, ρ)
  | none => none
section
variable {X : Cx} {a b c e : Expr} {rest : List Expr} {pos : Pos}
theorem tst_some {m : M D} {ρ ρ' : Rho} {b : Bool} (h : tstM m ρ = some (b, ρ')) : m ρ = some (.bool b, ρ') := by
  obtain ⟨d, ρ1, h1, h2⟩ := bnd_some h
  cases d with
  | bool b => cases h2; exact h1
  | _ => cases h2
theorem t_val {m : M D} (h : PE X e (rdV X.K m)) (he : ∀ whole, isTrue e X.env whole = (do let v ← whole; standAt e.pos; holding [v] (truthy v)) := by intro _; rfl) : PT X e (rdT X.K (tstM m)) := by
  refine pt_imp (pt_val h he) fun σ H Q h => ?_
  obtain ⟨F, G, ρ, b, ρ', ok, hm, q⟩ := h
  refine ⟨F, G, ρ, .bool b, ρ', ok, tst_some hm, fun v F' H' s ok' r => ⟨b, r, q F' H' s ok'⟩⟩
/-- a comparison, as a test -/
theorem isEmpty_rps {K : Kf} {F : Hp} {xs : List D} {vs : List V} (h : Rps K F xs vs) : vs.isEmpty = xs.isEmpty := by
  cases xs with
  | nil => cases h; rfl
  | cons d ds => obtain ⟨v, r, rfl, _⟩ := h; rfl
theorem t_tru {m : M Rf} (h : PE X e (rdB X.K m)) (he : ∀ whole, isTrue e X.env whole = (do let v ← whole; standAt e.pos; holding [v] (truthy v)) := by intro _; rfl) : PT X e (rdT X.K (truM m)) := by
  refine pt_imp (pt_truth h he) fun σ H Q h => ?_
  obtain ⟨F, G, ρ, b, ρ', ok, hm, q⟩ := h
  obtain ⟨r, ρ1, h1, h2⟩ := bnd_some hm
  have h2 : (match look ρ1 r with
    | some d => (truD d).map fun b => (b, ρ1)
    | none => none) = some (b, ρ') := h2
  split at h2
  · rename_i d hd
    cases ht : truD d with
    | none => rw [ht] at h2; cases h2
    | some k =>
      rw [ht] at h2
      cases h2
      refine ⟨F, G, ρ, r, _, ok, h1, fun v F' H' s ok' hr => ⟨b, ?_, q F' H' s ok'⟩⟩
      have w := look_ok ok' hr hd
      unfold truD at ht
      split at ht
      · cases ht; have e := w.non; subst e; rfl
      · cases ht; have e := w.bl; subst e; rfl
      · cases ht; have e := w.int; subst e; rfl
      · split at ht
        · rename_i hz
          cases ht
          have e := w.str
          subst e
          exact ⟨of_decide_eq_true hz, rfl⟩
        · cases ht
      · cases ht
        obtain ⟨p, vs, rfl, h4, h5⟩ := w.list ok'.sub
        exact .inl ⟨vs, SqL.of h4, by rw [isEmpty_rps h5]⟩
      · cases ht
        obtain ⟨p, vs, rfl, h4, _, h5⟩ := w.tuple ok'.sub
        exact .inr (.inl ⟨vs, h4, by rw [isEmpty_rps h5]⟩)
      · cases ht
  · cases h2
theorem w_and1 {m : M Bool} (h : PT X a (rdT X.K m)) : PW X (.BoolOp .And [a] pos) (rdT X.K m) := pw_and1 h
theorem w_or1 {m : M Bool} (h : PT X a (rdT X.K m)) : PW X (.BoolOp .Or [a] pos) (rdT X.K m) := pw_or1 h
theorem w_and {m n : M Bool} (ha : PT X a (rdT X.K m)) (hb : PW X (.BoolOp .And (b :: rest) pos) (rdT X.K n)) : PW X (.BoolOp .And (a :: b :: rest) pos) (rdT X.K (andM m n)) := by
  refine pw_imp (pw_and ha hb) fun σ H Q h => ?_
  obtain ⟨F, G, ρ, d, ρ', ok, hm, q⟩ := h
  obtain ⟨k, ρ1, h1, h2⟩ := bnd_some hm
  refine ⟨F, G, ρ, k, ρ1, ok, h1, fun F1 H1 s1 ok1 => ?_⟩
  cases k with
  | true => exact iteT ⟨F1, G, ρ1, d, ρ', ok1, h2, fun F2 H2 s2 ok2 => q F2 H2 (s1.trans s2) ok2⟩
  | false =>
    cases h2
    exact iteF (q F1 H1 s1 ok1)
theorem w_or {m n : M Bool} (ha : PT X a (rdT X.K m)) (hb : PW X (.BoolOp .Or (b :: rest) pos) (rdT X.K n)) : PW X (.BoolOp .Or (a :: b :: rest) pos) (rdT X.K (orM m n)) := by
  refine pw_imp (pw_or ha hb) fun σ H Q h => ?_
  obtain ⟨F, G, ρ, d, ρ', ok, hm, q⟩ := h
  obtain ⟨k, ρ1, h1, h2⟩ := bnd_some hm
  refine ⟨F, G, ρ, k, ρ1, ok, h1, fun F1 H1 s1 ok1 => ?_⟩
  cases k with
  | true =>
    cases h2
    exact iteT (q F1 H1 s1 ok1)
  | false => exact iteF ⟨F1, G, ρ1, d, ρ', ok1, h2, fun F2 H2 s2 ok2 => q F2 H2 (s1.trans s2) ok2⟩
theorem t_w {m : M Bool} (h : PW X e (rdT X.K m)) : PT X e (rdT X.K m) := PW.pt h
theorem t_not {m : M Bool} (h : PT X a (rdT X.K m)) : PT X (.UnaryOp .Not a pos) (rdT X.K (notM m)) := by
  refine pt_imp (pt_not h) fun σ H Q h => ?_
  obtain ⟨F, G, ρ, d, ρ', ok, hm, q⟩ := h
  obtain ⟨k, ρ1, h1, h2⟩ := bnd_some hm
  cases h2
  exact ⟨F, G, ρ, k, _, ok, h1, fun F1 H1 s1 ok1 => q F1 H1 s1 ok1⟩
/-- as values: bools -/
theorem v_one {op : BoolOp} {m : M Bool} (h : PE X a (rdV X.K (blM m))) : PE X (.BoolOp op [a] pos) (rdV X.K (blM m)) := pe_one h
theorem bl_some {m : M Bool} {ρ ρ' : Rho} {d : D} (h : blM m ρ = some (d, ρ')) : ∃ b, m ρ = some (b, ρ') ∧ d = .bool b := by
  obtain ⟨k, ρ1, h1, h2⟩ := bnd_some h
  cases h2
  exact ⟨_, h1, rfl⟩
theorem v_bool {m : M D} (h : PE X e (rdV X.K m)) : PE X e (rdV X.K (blM (tstM m))) := by
  refine pe_imp h fun σ H Q h => ?_
  obtain ⟨F, G, ρ, d, ρ', ok, hm, q⟩ := h
  obtain ⟨b, h1, rfl⟩ := bl_some hm
  exact ⟨F, G, ρ, _, ρ', ok, tst_some h1, q⟩
theorem v_and {m n : M Bool} (ha : PE X a (rdV X.K (blM m))) (hb : PE X (.BoolOp .And (b :: rest) pos) (rdV X.K (blM n))) : PE X (.BoolOp .And (a :: b :: rest) pos) (rdV X.K (blM (andM m n))) := by
  refine pe_imp (pe_and ha hb) fun σ H Q h => ?_
  obtain ⟨F, G, ρ, d, ρ', ok, hm, q⟩ := h
  obtain ⟨b, h1, rfl⟩ := bl_some hm
  obtain ⟨k, ρ1, h1, h2⟩ := bnd_some h1
  refine ⟨F, G, ρ, .bool k, ρ1, ok, by unfold blM bnd; rw [h1]; rfl, fun v F1 H1 s1 ok1 r1 => ⟨k, r1, ?_⟩⟩
  cases k with
  | true => exact iteT ⟨F1, G, ρ1, .bool b, ρ', ok1, by unfold blM bnd; rw [show n ρ1 = some (b, ρ') from h2]; rfl, fun w F2 H2 s2 ok2 r2 => q w F2 H2 (s1.trans s2) ok2 r2⟩
  | false =>
    cases h2
    exact iteF (q _ F1 H1 s1 ok1 rfl)
theorem v_or {m n : M Bool} (ha : PE X a (rdV X.K (blM m))) (hb : PE X (.BoolOp .Or (b :: rest) pos) (rdV X.K (blM n))) : PE X (.BoolOp .Or (a :: b :: rest) pos) (rdV X.K (blM (orM m n))) := by
  refine pe_imp (pe_or ha hb) fun σ H Q h => ?_
  obtain ⟨F, G, ρ, d, ρ', ok, hm, q⟩ := h
  obtain ⟨b, h1, rfl⟩ := bl_some hm
  obtain ⟨k, ρ1, h1, h2⟩ := bnd_some h1
  refine ⟨F, G, ρ, .bool k, ρ1, ok, by unfold blM bnd; rw [h1]; rfl, fun v F1 H1 s1 ok1 r1 => ⟨k, r1, ?_⟩⟩
  cases k with
  | true =>
    cases h2
    exact iteT (q _ F1 H1 s1 ok1 rfl)
  | false => exact iteF ⟨F1, G, ρ1, .bool b, ρ', ok1, by unfold blM bnd; rw [show n ρ1 = some (b, ρ') from h2]; rfl, fun w F2 H2 s2 ok2 r2 => q w F2 H2 (s1.trans s2) ok2 r2⟩
theorem v_not {m : M Bool} (ha : PE X a (rdV X.K (blM m))) : PE X (.UnaryOp .Not a pos) (rdV X.K (blM (notM m))) := by
  refine pe_imp (pe_not ha) fun σ H Q h => ?_
  obtain ⟨F, G, ρ, d, ρ', ok, hm, q⟩ := h
  obtain ⟨b, h1, rfl⟩ := bl_some hm
  obtain ⟨k, ρ1, h1, h2⟩ := bnd_some h1
  cases h2
  exact ⟨F, G, ρ, .bool k, _, ok, by unfold blM bnd; rw [h1]; rfl, fun v F1 H1 s1 ok1 r1 => ⟨k, r1, q _ F1 H1 s1 ok1 rfl⟩⟩
theorem v_ife {t : M Bool} {m n : M D} (hc : PT X c (rdT X.K t)) (ha : PE X a (rdV X.K m)) (hb : PE X b (rdV X.K n)) : PE X (.IfExp c a b pos) (rdV X.K (iteM t m n)) := by
  refine pe_imp (pe_ifExp hc ha hb) fun σ H Q h => ?_
  obtain ⟨F, G, ρ, d, ρ', ok, hm, q⟩ := h
  obtain ⟨k, ρ1, h1, h2⟩ := bnd_some hm
  refine ⟨F, G, ρ, k, ρ1, ok, h1, fun F1 H1 s1 ok1 => ?_⟩
  cases k with
  | true => exact iteT ⟨F1, G, ρ1, d, ρ', ok1, h2, fun v F2 H2 s2 ok2 r2 => q v F2 H2 (s1.trans s2) ok2 r2⟩
  | false => exact iteF ⟨F1, G, ρ1, d, ρ', ok1, h2, fun v F2 H2 s2 ok2 r2 => q v F2 H2 (s1.trans s2) ok2 r2⟩
/-- a chain of two comparisons of ints -/
def chainM (p p' : Int → Int → Bool) (a b c : M D) : M Bool := bnd a fun x => bnd b fun y => match x, y with
  | .int i, .int j => if p i j then bnd c fun z => (match z with
    | .int k => ret (p' j k)
    | _ => fun _ => none) else ret false
  | _, _ => fun _ => none
theorem chain_reads {K : Kf} {p p' : Int → Int → Bool} {ma mb mc : M D} {σ : L2.St} {H : Hp} {R : VK} (h : rdT K (chainM p p' ma mb mc) σ H fun k H' => R (.bl k) H') :
    tChain (rI0 fun i j => .bl (p i j)) (rI0 fun i j => .bl (p' i j)) (rdV K ma) (rdV K mb) (rdV K mc) σ H R := by
  obtain ⟨F, G, ρ, d, ρ', ok, hm, q⟩ := h
  obtain ⟨x, ρ1, h1, h2⟩ := bnd_some hm
  obtain ⟨y, ρ2, h3, h4⟩ := bnd_some h2
  refine ⟨F, G, ρ, x, ρ1, ok, h1, fun v F1 H1 s1 ok1 r1 => ⟨F1, G, ρ1, y, ρ2, ok1, h3, fun w F2 H2 s2 ok2 r2 => ?_⟩⟩
  cases x with
  | int i =>
    cases y with
    | int j =>
      cases (show v = _ from r1)
      cases (show w = _ from r2)
      refine ⟨i, j, rfl, rfl, p i j, rfl, ?_⟩
      have h4 : (if p i j = true then bnd mc fun z => (match z with
        | .int k => ret (p' j k)
        | _ => fun _ => none) else ret false) ρ2 = some (d, ρ') := h4
      cases hp : p i j with
      | true =>
        rw [hp, if_pos rfl] at h4
        refine iteT ?_
        obtain ⟨z, ρ3, h5, h6⟩ := bnd_some h4
        refine ⟨F2, G, ρ2, z, ρ3, ok2, h5, fun u F3 H3 s3 ok3 r3 => ?_⟩
        cases z with
        | int k =>
          cases h6
          cases (show u = _ from r3)
          exact ⟨j, k, rfl, rfl, q F3 H3 ((s1.trans s2).trans s3) ok3⟩
        | _ => cases h6
      | false =>
        rw [hp, if_neg Bool.false_ne_true] at h4
        cases h4
        exact iteF (q F2 H2 (s1.trans s2) ok2)
    | _ => cases h4
  | _ => cases h4
theorem t_chain {p p' : Int → Int → Bool} {op op' : CmpOp} {ma mb mc : M D} (ho : OpR X (compareOp op) (rI0 fun i j => .bl (p i j))) (ho' : OpR X (compareOp op') (rI0 fun i j => .bl (p' i j))) (ha : PE X a (rdV X.K ma)) (hb : PE X b (rdV X.K mb)) (hc : PE X c (rdV X.K mc))
    (hm : lastMarks [op, op'] [b, c] = false := by with_unfolding_all rfl) : PT X (.Compare a [op, op'] [b, c] pos) (rdT X.K (chainM p p' ma mb mc)) :=
  pt_imp (pt_chain ho ho' ha hb hc hm) fun σ H Q h => chain_reads (by
    obtain ⟨F, G, ρ, d, ρ', ok, hm, q⟩ := h
    exact ⟨F, G, ρ, d, ρ', ok, hm, fun F' H' s ok' => ⟨d, rfl, q F' H' s ok'⟩⟩)
theorem v_chain {p p' : Int → Int → Bool} {op op' : CmpOp} {ma mb mc : M D} (ho : OpR X (compareOp op) (rI0 fun i j => .bl (p i j))) (ho' : OpR X (compareOp op') (rI0 fun i j => .bl (p' i j))) (ha : PE X a (rdV X.K ma)) (hb : PE X b (rdV X.K mb)) (hc : PE X c (rdV X.K mc))
    (hm : lastMarks [op, op'] [b, c] = false := by with_unfolding_all rfl) : PE X (.Compare a [op, op'] [b, c] pos) (rdV X.K (blM (chainM p p' ma mb mc))) := by
  refine pe_imp (pe_chain ho ho' ha hb hc hm) fun σ H Q h => chain_reads ?_
  obtain ⟨F, G, ρ, d, ρ', ok, hm, q⟩ := h
  obtain ⟨b, h1, rfl⟩ := bl_some hm
  exact ⟨F, G, ρ, b, ρ', ok, h1, fun F' H' s ok' => q _ F' H' s ok' rfl⟩
/-- is None -/
def isNoneD : D → D → Option D := fun x y => match y with
  | .none => (match x with
    | .none => some (.bool true)
    | _ => some (.bool false))
  | _ => none
def notNoneD : D → D → Option D := fun x y => match y with
  | .none => (match x with
    | .none => some (.bool false)
    | _ => some (.bool true))
  | _ => none
theorem Vw.none_iff {K : Kf} {F H : Hp} {v : V} {d : D} (h : Vw K F H v d) : v = .non ↔ d = .none := by
  rcases h with h | ⟨p, vs, ys, rfl, rfl, h1, h2⟩ | ⟨p, kvs, rfl, rfl, h1⟩
  · cases d with
    | none => cases (show v = _ from h); simp
    | bool b => cases (show v = _ from h); simp
    | int b => cases (show v = _ from h); simp
    | str b => cases (show v = _ from h); simp
    | list ds => obtain ⟨a, vs, rfl, _⟩ := h; simp
    | tuple ds => obtain ⟨a, vs, rfl, _⟩ := h; simp
    | dict _ => obtain ⟨a, o, rfl, _⟩ := h; simp
  · simp
  · simp
theorem opd_isN {K : Kf} : OpD K isNoneD (fun x y H Q => y = .non ∧ Q (.bl (decide (x = .non))) H) := by
  intro F G H σ ρ x y d v w Q ok hx hy hf q
  unfold isNoneD at hf
  split at hf
  · have e := hy.non
    subst e
    have nx := hx.none_iff
    split at hf
    · cases hf
      have e := nx.mpr rfl
      subst e
      exact ⟨rfl, q _ F H (Same.refl F) ok rfl⟩
    · rename_i hne
      cases hf
      refine ⟨rfl, ?_⟩
      rw [decide_eq_false (fun z => hne (nx.mp z))]
      exact q _ F H (Same.refl F) ok rfl
  · cases hf
theorem opd_notN {K : Kf} : OpD K notNoneD (fun x y H Q => y = .non ∧ Q (.bl (!decide (x = .non))) H) := by
  intro F G H σ ρ x y d v w Q ok hx hy hf q
  unfold notNoneD at hf
  split at hf
  · have e := hy.non
    subst e
    have nx := hx.none_iff
    split at hf
    · cases hf
      have e := nx.mpr rfl
      subst e
      exact ⟨rfl, q _ F H (Same.refl F) ok rfl⟩
    · rename_i hne
      cases hf
      refine ⟨rfl, ?_⟩
      rw [decide_eq_false (fun z => hne (nx.mp z))]
      exact q _ F H (Same.refl F) ok rfl
  · cases hf
theorem t_isN {ma mb : M Rf} (ha : PE X a (rdB X.K ma)) (hb : PE X b (rdB X.K mb)) : PT X (.Compare a [.Is] [b] pos) (rdT X.K (tstM (binM isNoneD ma mb))) := t_cmp op_isN opd_isN ha hb (nomark _)
theorem t_notN {ma mb : M Rf} (ha : PE X a (rdB X.K ma)) (hb : PE X b (rdB X.K mb)) : PT X (.Compare a [.IsNot] [b] pos) (rdT X.K (tstM (binM notNoneD ma mb))) := t_cmp op_notN opd_notN ha hb (nomark _)
theorem v_isN {ma mb : M Rf} (ha : PE X a (rdB X.K ma)) (hb : PE X b (rdB X.K mb)) : PE X (.Compare a [.Is] [b] pos) (rdV X.K (binM isNoneD ma mb)) := v_cmp op_isN opd_isN ha hb (nomark _)
theorem v_notN {ma mb : M Rf} (ha : PE X a (rdB X.K ma)) (hb : PE X b (rdB X.K mb)) : PE X (.Compare a [.IsNot] [b] pos) (rdV X.K (binM notNoneD ma mb)) := v_cmp op_notN opd_notN ha hb (nomark _)
/-! ### subscripts -/
def ixD : D → D → Option D
  | .list xs, .int i => atI xs i
  | .tuple xs, .int i => atI xs i
  | .str s, .int i => if fitS s.length then (atI s.cps.toList i).map fun c => .str ⟨#[c]⟩ else none
  | .dict kvs, k => if keyFit kvs k then lookD kvs k else none
  | _, _ => none
/-- a key is no list and no dict -/
theorem keyFit_rp {K : Kf} {F H : Hp} {kvs : List (D × D)} {k : D} {y : V} (h : keyFit kvs k = true) (r : Vw K F H y k) : Rp K F k y := by
  unfold keyFit at h
  split at h
  · rename_i q hq
    exact r.flat (fun xs e => by rw [e] at hq; cases hq) (fun xs e => by rw [e] at hq; cases hq)
  · rw [Bool.and_eq_true] at h
    exact r.flat (fun xs e => by rw [e] at h; exact Bool.noConfusion h.1) (fun xs e => by rw [e] at h; exact Bool.noConfusion h.1)
def rIxDG (X : Cx) : R2 := fun x y H Q => ∃ a v, x = .ref a ∧ DG X H a y (some v) ∧ Q v H
theorem ix_dictG {X : Cx} (hu : X.A.units + 64 < cLine) : IxR X (rIxDG X) := by
  intro value slice pins s σ H x y v u Q I rx ry h hs
  obtain ⟨a, r, rfl, g, q⟩ := h
  obtain rfl : v = Value.ref a := rx
  exact tail_any (g.ty I) PySem.F.slot_dict_getitem.lookup (g.get (by omega) I ry rfl fun w' s' I' rw' => ⟨r, H, I', rw', q⟩) hs
theorem Rps.at {K : Kf} {F : Hp} {xs : List D} {vs : List V} {i : Int} {d : D} (h : Rps K F xs vs) (e : atI xs i = some d) : ∃ v, atI vs i = some v ∧ Rp K F d v := by
  unfold atI at e ⊢
  rw [h.length]
  cases hj : ixN xs.length i with
  | none => rw [hj] at e; cases e
  | some j =>
    rw [hj] at e
    exact h.get e
theorem opd_ix {X : Cx} (hw : X.w = Wd.w) : OpD X.K ixD (fun x y H Q => rIx X.K x y H Q ∨ rIxDG X x y H Q) := by
  intro F G H σ ρ x y d v w Q ok hx hy hf q
  unfold ixD at hf
  split at hf
  · have e := hy.int
    subst e
    obtain ⟨p, vs, rfl, h4, h5⟩ := hx.list ok.sub
    obtain ⟨z, hz, rz⟩ := h5.at hf
    exact .inl (.inl ⟨p, vs, _, z, rfl, rfl, SqL.of h4, hz, q z F H (Same.refl F) ok rz⟩)
  · have e := hy.int
    subst e
    obtain ⟨p, vs, rfl, h4, _, h5⟩ := hx.tuple ok.sub
    obtain ⟨z, hz, rz⟩ := h5.at hf
    exact .inl (.inr (.inl ⟨p, vs, _, z, rfl, rfl, h4, hz, q z F H (Same.refl F) ok rz⟩))
  · rename_i s i
    have e := hy.int
    subst e
    have e := hx.str
    subst e
    split at hf
    · rename_i hz
      cases hc : atI s.cps.toList i with
      | none => rw [hc] at hf; cases hf
      | some c =>
        rw [hc] at hf
        cases hf
        exact .inl (.inr (.inr ⟨s, i, c, rfl, rfl, of_decide_eq_true hz, hc, q _ F H (Same.refl F) ok rfl⟩))
    · cases hf
  · split at hf
    · rename_i hz
      obtain ⟨p, rfl, hd⟩ := hx.dict ok.sub
      obtain ⟨o, g, ro⟩ := hd.get hw ok.sub hz (keyFit_rp hz hy)
      rw [hf] at ro
      obtain ⟨z, rfl, rz⟩ := ro.some
      exact .inr ⟨p, z, rfl, g, q z F H (Same.refl F) ok rz⟩
    · cases hf
  · cases hf
theorem v_ix {ma mb : M Rf} (hu : X.A.units + 64 < cLine) (ha : PE X a (rdB X.K ma)) (hb : PE X b (rdB X.K mb)) (hs : PlainIx b := by exact fun _ _ => rfl) (hw : X.w = Wd.w := by rfl) : PE X (.Subscript a b pos) (rdV X.K (binM ixD ma mb)) := by
  refine pe_imp (pe_ix (ix_seq.or (ix_dictG hu)) ha hb hs) fun σ H Q h => ?_
  obtain ⟨F, G, ρ, d, ρ', ok, hm, q⟩ := h
  obtain ⟨r, ρ1, s, x, y, h1, h2, e1, e2, e3⟩ := binM_some hm
  refine ⟨F, G, ρ, r, ρ1, ok, h1, fun v F1 H1 s1 ok1 r1 => ⟨F1, G, ρ1, s, ρ', ok1, h2, fun w F2 H2 s2 ok2 r2 => ?_⟩⟩
  exact opd_ix hw F2 G H2 σ ρ' x y d v w Q ok2 (look_ok ok2 (r1.mono s2) e1) (look_ok ok2 r2 e2) e3 fun z F' H' s3 ok3 r3 => q z F' H' ((s1.trans s2).trans s3) ok3 r3
/-! ### slices -/
def cutG {α : Type} (xs : List α) (lo hi : Option Int) : List α := (xs.drop (HT.sIx xs.length 0 lo)).take (HT.sIx xs.length xs.length hi - HT.sIx xs.length 0 lo)
section
variable (K : Kf)
def rdO (m : M (Option Int)) : TO := fun σ H Q => ∃ F G ρ d ρ', Ok K F G H σ ρ ∧ m ρ = some (d, ρ') ∧ ∀ F' H', Same F F' → Ok K F' G H' σ ρ' → Q d H'
end
def noM : M (Option Int) := ret none
def partM (m : M D) : M (Option Int) := bnd m fun d => match d with
  | .int i => ret (some i)
  | _ => fun _ => none
theorem po_imp {x : Option Expr} {t t' : TO} (h : PO X x t) (i : ∀ σ H Q, t' σ H Q → t σ H Q) : PO X x t' := ⟨fun pins s σ H Q I q => h.run pins s σ H Q I (i σ H Q q)⟩
theorem o_none : PO X none (rdO X.K noM) := po_imp po_none fun σ H Q h => by
  obtain ⟨F, G, ρ, d, ρ', ok, hm, q⟩ := h
  cases hm
  exact q F H (Same.refl F) ok
theorem o_some {m : M D} (h : PE X e (rdV X.K m)) : PO X (some e) (rdO X.K (partM m)) := po_imp (po_some h) fun σ H Q h => by
  obtain ⟨F, G, ρ, d, ρ', ok, hm, q⟩ := h
  obtain ⟨x, ρ1, h1, h2⟩ := bnd_some hm
  cases x with
  | int i =>
    cases h2
    refine ⟨F, G, ρ, .int i, _, ok, h1, fun v F' H' s ok' r => ⟨i, r, q F' H' s ok'⟩⟩
  | _ => cases h2
def slM {α : Type} (f : D → Option Int → Option Int → Option α) (m : M Rf) (lo hi : M (Option Int)) : M α := bnd m fun r => bnd lo fun l => bnd hi fun h => fun ρ => match look ρ r with
  | some x => (f x l h).map fun z => (z, ρ)
  | none => none
theorem slM_some {α : Type} {f : D → Option Int → Option Int → Option α} {m : M Rf} {lo hi : M (Option Int)} {ρ ρ' : Rho} {z : α} (h : slM f m lo hi ρ = some (z, ρ')) :
    ∃ r ρ1 l ρ2 u x, m ρ = some (r, ρ1) ∧ lo ρ1 = some (l, ρ2) ∧ hi ρ2 = some (u, ρ') ∧ look ρ' r = some x ∧ f x l u = some z := by
  obtain ⟨r, ρ1, h1, h⟩ := bnd_some h
  obtain ⟨l, ρ2, h2, h⟩ := bnd_some h
  obtain ⟨u, ρ3, h3, h⟩ := bnd_some h
  have h : (match look ρ3 r with
    | some x => (f x l u).map fun z => (z, ρ3)
    | none => none) = some (z, ρ') := h
  split at h
  · rename_i x hx
    cases hf : f x l u with
    | none => rw [hf] at h; cases h
    | some w =>
      rw [hf] at h
      cases h
      exact ⟨r, ρ1, l, ρ2, u, x, h1, h2, h3, hx, hf⟩
  · cases h
def slD : D → Option Int → Option Int → Option D
  | .tuple xs, lo, hi => some (.tuple (cutG xs lo hi))
  | .str s, lo, hi => if fitS s.length then some (.str (cutS s lo hi)) else none
  | .list xs, lo, hi => some (.list (cutG xs lo hi))
  | _, _, _ => none
def slO : D → Option Int → Option Int → Option Own
  | .list xs, lo, hi => some (.lst (cutG xs lo hi))
  | _, _, _ => none
theorem Rps.cut {K : Kf} {F : Hp} {xs : List D} {vs : List V} (h : Rps K F xs vs) (lo hi : Option Int) : Rps K F (cutG xs lo hi) (cutV vs lo hi) := by
  unfold cutG cutV
  rw [h.length]
  exact (h.drop _).take _
theorem v_sl {m : M Rf} {lo hi : Option Expr} {ml mh : M (Option Int)} {p2 : Pos} (h : PE X e (rdB X.K m)) (hl : PO X lo (rdO X.K ml)) (hh : PO X hi (rdO X.K mh)) : PE X (.Subscript e (.Slice lo hi none p2) pos) (rdV X.K (slM slD m ml mh)) := by
  refine pe_imp (pe_slice (sl_tupA.or (sl_str.or sl_list)) h hl hh) fun σ H Q h => ?_
  obtain ⟨F, G, ρ, d, ρ', ok, hm, q⟩ := h
  obtain ⟨r, ρ1, l, ρ2, u, x, h1, h2, h3, hx, hf⟩ := slM_some hm
  refine ⟨F, G, ρ, r, ρ1, ok, h1, fun v F1 H1 s1 ok1 r1 => ⟨F1, G, ρ1, l, ρ2, ok1, h2, fun F2 H2 s2 ok2 => ⟨F2, G, ρ2, u, ρ', ok2, h3, fun F3 H3 s3 ok3 => ?_⟩⟩⟩
  have w := look_ok ok3 (r1.mono (s2.trans s3)) hx
  have sA := (s1.trans s2).trans s3
  unfold slD at hf
  split at hf
  · cases hf
    obtain ⟨p, vs, rfl, h4, h4f, h5⟩ := w.tuple ok3.sub
    refine .inl ⟨p, vs, rfl, h4, fun e => ?_, fun e t ht => ?_⟩
    · rename_i xs
      have ec : cutG xs l u = xs := by
        unfold cutG
        rw [← h5.length, e.1, e.2, Nat.sub_zero, List.drop_zero, List.take_of_length_le (by rw [h5.length]; exact Nat.le_refl _)]
      rw [ec] at q
      exact q _ F3 H3 sA ok3 ⟨p, vs, rfl, h4f, h5⟩
    · obtain ⟨s4, ok4⟩ := ok3.alloc (o := .tup (cutV vs l u)) ht
      exact q _ _ _ (sA.trans s4) ok4 ⟨t, _, rfl, SqT.of upd_same, Rps.mono s4 _ _ (h5.cut l u)⟩
  · split at hf
    · rename_i hz
      cases hf
      have e := w.str
      subst e
      exact .inr (.inl ⟨_, rfl, of_decide_eq_true hz, q _ F3 H3 sA ok3 rfl⟩)
    · cases hf
  · cases hf
    obtain ⟨p, vs, rfl, h4, h5⟩ := w.list ok3.sub
    refine .inr (.inr ⟨p, vs, rfl, SqL.of h4, fun t ht => ?_⟩)
    obtain ⟨s4, ok4⟩ := ok3.alloc (o := .lst (cutV vs l u)) ht
    exact q _ _ _ (sA.trans s4) ok4 ⟨t, _, rfl, upd_same, Rps.mono s4 _ _ (h5.cut l u)⟩
  · cases hf
theorem n_sl {m : M Rf} {lo hi : Option Expr} {ml mh : M (Option Int)} {p2 : Pos} (h : PE X e (rdB X.K m)) (hl : PO X lo (rdO X.K ml)) (hh : PO X hi (rdO X.K mh)) : PE X (.Subscript e (.Slice lo hi none p2) pos) (rdN X.K (slM slO m ml mh)) := by
  refine pe_imp (pe_slice sl_list h hl hh) fun σ H Q h => ?_
  obtain ⟨F, G, ρ, d, ρ', ok, hm, q⟩ := h
  obtain ⟨r, ρ1, l, ρ2, u, x, h1, h2, h3, hx, hf⟩ := slM_some hm
  refine ⟨F, G, ρ, r, ρ1, ok, h1, fun v F1 H1 s1 ok1 r1 => ⟨F1, G, ρ1, l, ρ2, ok1, h2, fun F2 H2 s2 ok2 => ⟨F2, G, ρ2, u, ρ', ok2, h3, fun F3 H3 s3 ok3 => ?_⟩⟩⟩
  have w := look_ok ok3 (r1.mono (s2.trans s3)) hx
  have sA := (s1.trans s2).trans s3
  unfold slO at hf
  split at hf
  · cases hf
    obtain ⟨p, vs, rfl, h4, h5⟩ := w.list ok3.sub
    refine ⟨p, vs, rfl, SqL.of h4, fun t ht => ?_⟩
    obtain ⟨ok4, n⟩ := ok3.fresh (o := .lst (cutV vs l u)) ht
    exact q t F3 _ sA ok4 n ⟨_, upd_same, h5.cut l u⟩
  · cases hf
/-! ### displays -/
def nilM : M (List D) := ret []
def consM (m : M D) (n : M (List D)) : M (List D) := bnd m fun d => bnd n fun ds => ret (d :: ds)
def tupM (m : M (List D)) : M D := bnd m fun ds => if fitS ds.length then ret (.tuple ds) else fun _ => none
def lstM (m : M (List D)) : M Own := bnd m fun ds => if fitS ds.length then ret (.lst ds) else fun _ => none
variable {es : List Expr}
theorem a_nil : PA X [] (rdA X.K nilM) := pa_imp pa_nil fun σ H Q h => by
  obtain ⟨F, G, ρ, d, ρ', ok, hm, q⟩ := h
  cases hm
  exact q _ F H (Same.refl F) ok rfl
theorem a_cons {m : M D} {n : M (List D)} (he : PE X e (rdV X.K m)) (hr : PA X es (rdA X.K n)) (hs : starEach (e :: es) X.env = (false, eval e X.env) :: starEach es X.env := by rfl) : PA X (e :: es) (rdA X.K (consM m n)) := by
  refine pa_imp (pa_cons he hr hs) fun σ H Q h => ?_
  obtain ⟨F, G, ρ, d, ρ', ok, hm, q⟩ := h
  obtain ⟨x, ρ1, h1, h2⟩ := bnd_some hm
  obtain ⟨xs, ρ2, h3, h4⟩ := bnd_some h2
  cases h4
  refine ⟨F, G, ρ, x, ρ1, ok, h1, fun v F1 H1 s1 ok1 r1 => ⟨F1, G, ρ1, xs, _, ok1, h3, fun vs F2 H2 s2 ok2 r2 => ?_⟩⟩
  exact q _ F2 H2 (s1.trans s2) ok2 ⟨v, vs, rfl, Rp.mono s2 _ _ r1, r2⟩
theorem v_tup {m : M (List D)} {x1 : Nat} (h : PA X es (rdA X.K m)) : PE X (.Tuple es x1 pos) (rdV X.K (tupM m)) := by
  refine pe_imp (pe_tup h) fun σ H Q h => ?_
  obtain ⟨F, G, ρ, d, ρ', ok, hm, q⟩ := h
  obtain ⟨xs, ρ1, h1, h2⟩ := bnd_some hm
  by_cases hz : fitS xs.length = true
  · rw [if_pos hz] at h2
    cases h2
    refine ⟨F, G, ρ, xs, _, ok, h1, fun vs F1 H1 s1 ok1 r1 => ⟨by rw [r1.length]; exact of_decide_eq_true hz, fun p hp => ?_⟩⟩
    obtain ⟨s2, ok2⟩ := ok1.alloc (o := .tup vs) hp
    exact q _ _ _ (s1.trans s2) ok2 ⟨p, vs, rfl, SqT.of upd_same, Rps.mono s2 _ _ r1⟩
  · rw [if_neg hz] at h2
    cases h2
theorem n_lst {m : M (List D)} (h : PA X es (rdA X.K m)) : PE X (.List es pos) (rdN X.K (lstM m)) := by
  refine pe_imp (pe_lst h) fun σ H Q h => ?_
  obtain ⟨F, G, ρ, d, ρ', ok, hm, q⟩ := h
  obtain ⟨xs, ρ1, h1, h2⟩ := bnd_some hm
  by_cases hz : fitS xs.length = true
  · rw [if_pos hz] at h2
    cases h2
    refine ⟨F, G, ρ, xs, _, ok, h1, fun vs F1 H1 s1 ok1 r1 => ⟨by rw [r1.length]; exact of_decide_eq_true hz, fun p hp => ?_⟩⟩
    obtain ⟨ok2, n⟩ := ok1.fresh (o := .lst vs) hp
    exact q p F1 _ s1 ok2 n ⟨vs, upd_same, r1⟩
  · rw [if_neg hz] at h2
    cases h2
end
end Fx
/-! Fx: statements, targets. -/
namespace Fx
open PySem PySem.Spec PyProof.Rows L2
variable [Wd]
/-- how a statement ends -/
inductive Fl where
  | nx
  | bk
  | ct
  | rt (r : Sl)
abbrev MS := M Fl
def Pr (pr : List Nat) (σ σ' : L2.St) : Prop := σ'.length = σ.length ∧ ∀ i ∈ pr, σ'[i]? = σ[i]?
theorem Pr.refl {pr : List Nat} {σ : L2.St} : Pr pr σ σ := ⟨rfl, fun _ _ => rfl⟩
theorem Pr.trans {pr : List Nat} {σ σ1 σ2 : L2.St} (a : Pr pr σ σ1) (b : Pr pr σ1 σ2) : Pr pr σ σ2 := ⟨b.1.trans a.1, fun i h => (b.2 i h).trans (a.2 i h)⟩
theorem Pr.set {pr : List Nat} {σ : L2.St} {i : Nat} {x : Option V} (h : i ∉ pr) : Pr pr σ (σ.set i x) := ⟨List.length_set, fun j hj => List.getElem?_set_ne fun (e : i = j) => h (e ▸ hj)⟩
section
variable (K : Kf) (pr : List Nat)
def Wish (F G : Hp) (σ : L2.St) (E : Ends) : Fl → Rho → Prop
  | .nx, ρ' => ∀ σ' F' H', Same F F' → Ok K F' G H' σ' ρ' → Pr pr σ σ' → E.nx σ' H'
  | .bk, ρ' => ∀ σ' F' H', Same F F' → Ok K F' G H' σ' ρ' → Pr pr σ σ' → E.bk σ' H'
  | .ct, ρ' => ∀ σ' F' H', Same F F' → Ok K F' G H' σ' ρ' → Pr pr σ σ' → E.ct σ' H'
  | .rt (.v d), ρ' => ∀ v σ' F' H', Same F F' → Ok K F' G H' σ' ρ' → Pr pr σ σ' → Rp K F' d v → E.rt v H'
  | .rt (.o b), ρ' => ∀ p σ' F' H', Same F F' → Ok K F' G H' σ' ρ' → Pr pr σ σ' → New K F' G H' σ' ρ' p → OwnAt K F' H' p b → E.rt (.ref p) H'
  | .rt (.t q), ρ' => ∀ v σ' F' H', Same F F' → Ok K F' G H' σ' ρ' → Pr pr σ σ' → NewT K F' G H' σ' ρ' q v → E.rt v H'
  | .rt _, _ => False
def rdS (m : MS) : TS := fun E σ H => ∃ F G ρ fl ρ', Ok K F G H σ ρ ∧ m ρ = some (fl, ρ') ∧ Wish K pr F G σ E fl ρ'
def rdG (m : D → Rho → Option Rho) : TG := fun v σ H Q => ∃ F G ρ d ρ', Ok K F G H σ ρ ∧ Rp K F d v ∧ m d ρ = some ρ' ∧ ∀ σ' F' H', Same F F' → Ok K F' G H' σ' ρ' → Pr pr σ σ' → Q σ' H'
def rdGs (m : List D → Rho → Option Rho) : TGs := fun vs σ H Q => ∃ F G ρ ds ρ', Ok K F G H σ ρ ∧ Rps K F ds vs ∧ m ds ρ = some ρ' ∧ ∀ σ' F' H', Same F F' → Ok K F' G H' σ' ρ' → Pr pr σ σ' → Q σ' H'
end
section
variable {X : Cx} {K : Kf} {pr : List Nat} {F F' G H H' : Hp} {σ σ' : L2.St} {ρ ρ' : Rho} {E : Ends}
theorem Wish.step (s : Same F F') (p : Pr pr σ σ') : ∀ {fl : Fl} {ρ' : Rho}, Wish K pr F G σ E fl ρ' → Wish K pr F' G σ' E fl ρ'
  | .nx, _, w => fun σ2 F2 H2 s2 ok2 p2 => w σ2 F2 H2 (s.trans s2) ok2 (p.trans p2)
  | .bk, _, w => fun σ2 F2 H2 s2 ok2 p2 => w σ2 F2 H2 (s.trans s2) ok2 (p.trans p2)
  | .ct, _, w => fun σ2 F2 H2 s2 ok2 p2 => w σ2 F2 H2 (s.trans s2) ok2 (p.trans p2)
  | .rt (.v _), _, w => fun v σ2 F2 H2 s2 ok2 p2 => w v σ2 F2 H2 (s.trans s2) ok2 (p.trans p2)
  | .rt (.o _), _, w => fun v σ2 F2 H2 s2 ok2 p2 => w v σ2 F2 H2 (s.trans s2) ok2 (p.trans p2)
  | .rt (.t _), _, w => fun v σ2 F2 H2 s2 ok2 p2 => w v σ2 F2 H2 (s.trans s2) ok2 (p.trans p2)
  | .rt .u, _, w => w
  | .rt (.s _), _, w => w
/-- another end for nx, bk, ct -/
theorem Wish.ends {E E' : Ends} (hr : E'.rt = E.rt) (hn : ∀ (f : Fl) (ρ' : Rho), (f = .nx ∨ f = .bk ∨ f = .ct) → Wish K pr F G σ E f ρ' → Wish K pr F G σ E' f ρ') : ∀ {fl : Fl} {ρ' : Rho}, Wish K pr F G σ E fl ρ' → Wish K pr F G σ E' fl ρ'
  | .nx, _, w => hn _ _ (.inl rfl) w
  | .bk, _, w => hn _ _ (.inr (.inl rfl)) w
  | .ct, _, w => hn _ _ (.inr (.inr rfl)) w
  | .rt (.v _), _, w => fun v σ2 F2 H2 s2 ok2 p2 r => by rw [hr]; exact w v σ2 F2 H2 s2 ok2 p2 r
  | .rt (.o _), _, w => fun v σ2 F2 H2 s2 ok2 p2 n o => by rw [hr]; exact w v σ2 F2 H2 s2 ok2 p2 n o
  | .rt (.t _), _, w => fun v σ2 F2 H2 s2 ok2 p2 n => by rw [hr]; exact w v σ2 F2 H2 s2 ok2 p2 n
  | .rt .u, _, w => w
  | .rt (.s _), _, w => w
theorem ps_imp {st : Stmt} {t t' : TS} (h : PS X st t) (i : ∀ E σ H, t' E σ H → t E σ H) : PS X st t' := ⟨fun pins s σ H E I q => h.run pins s σ H E I (i E σ H q)⟩
theorem pss_imp {st : List Stmt} {t t' : TS} (h : PSs X st t) (i : ∀ E σ H, t' E σ H → t E σ H) : PSs X st t' := ⟨fun pins s σ H E I q => h.run pins s σ H E I (i E σ H q)⟩
theorem pg_imp {e : Expr} {t t' : TG} (h : PG X e t) (i : ∀ v σ H Q, t' v σ H Q → t v σ H Q) : PG X e t' := ⟨fun pins s σ H v u Q I r q => h.run pins s σ H v u Q I r (i v σ H Q q)⟩
theorem pgs_imp {es : List Expr} {t t' : TGs} (h : PGs X es t) (i : ∀ v σ H Q, t' v σ H Q → t v σ H Q) : PGs X es t' := ⟨fun pins s σ H v u Q I r q => h.run pins s σ H v u Q I r (i v σ H Q q)⟩
/-! ### blocks -/
def skipM : MS := ret .nx
def seqM (a b : MS) : MS := bnd a fun f => match f with
  | .nx => b
  | f => ret f
variable {st : Stmt} {rest : List Stmt} {e c : Expr} {pos : Pos}
theorem ss_nil : PSs X [] (rdS X.K pr skipM) := pss_imp pss_nil fun E σ H h => by
  obtain ⟨F, G, ρ, fl, ρ', ok, hm, w⟩ := h
  cases hm
  exact w σ F H (Same.refl F) ok Pr.refl
theorem ss_cons {m n : MS} (h : PS X st (rdS X.K pr m)) (hr : PSs X rest (rdS X.K pr n)) : PSs X (st :: rest) (rdS X.K pr (seqM m n)) := by
  refine pss_imp (pss_cons h hr) fun E σ H h => ?_
  obtain ⟨F, G, ρ, fl, ρ', ok, hm, w⟩ := h
  obtain ⟨f, ρ1, h1, h2⟩ := bnd_some hm
  refine ⟨F, G, ρ, f, ρ1, ok, h1, ?_⟩
  cases f with
  | nx => exact fun σ1 F1 H1 s1 ok1 p1 => ⟨F1, G, ρ1, fl, ρ', ok1, h2, w.step s1 p1⟩
  | bk => cases h2; exact w
  | ct => cases h2; exact w
  | rt r =>
    cases h2
    cases r with
    | v d => exact w
    | o b => exact w
    | u => exact w
    | s _ => exact w
    | t _ => exact w
theorem ss_one {m : MS} (h : PS X st (rdS X.K pr m)) : PSs X [st] (rdS X.K pr m) := pss_one h
theorem s_pass : PS X (.Pass pos) (rdS X.K pr skipM) := ps_imp ps_pass fun E σ H h => by
  obtain ⟨F, G, ρ, fl, ρ', ok, hm, w⟩ := h
  cases hm
  exact w σ F H (Same.refl F) ok Pr.refl
theorem s_break : PS X (.Break pos) (rdS X.K pr (ret .bk)) := ps_imp ps_break fun E σ H h => by
  obtain ⟨F, G, ρ, fl, ρ', ok, hm, w⟩ := h
  cases hm
  exact w σ F H (Same.refl F) ok Pr.refl
theorem s_cont : PS X (.Continue pos) (rdS X.K pr (ret .ct)) := ps_imp ps_continue fun E σ H h => by
  obtain ⟨F, G, ρ, fl, ρ', ok, hm, w⟩ := h
  cases hm
  exact w σ F H (Same.refl F) ok Pr.refl
def retM (m : M D) : MS := bnd m fun d => ret (.rt (.v d))
def retNM (m : M Own) : MS := bnd m fun b => ret (.rt (.o b))
/-- return x, x an own object of the def's own -/
def retOM (i : Nat) : MS := fun ρ => match ρ[i]? with
  | some (.o b) => some (.rt (.o b), ρ.set i .u)
  | _ => none
theorem s_ret {m : M D} (he : PE X e (rdV X.K m)) : PS X (.Return (some e) pos) (rdS X.K pr (retM m)) := ps_imp (ps_ret he) fun E σ H h => by
  obtain ⟨F, G, ρ, fl, ρ', ok, hm, w⟩ := h
  obtain ⟨d, ρ1, h1, h2⟩ := bnd_some hm
  cases h2
  exact ⟨F, G, ρ, d, _, ok, h1, fun v F' H' s ok' r => w v σ F' H' s ok' Pr.refl r⟩
theorem s_retN {m : M Own} (he : PE X e (rdN X.K m)) : PS X (.Return (some e) pos) (rdS X.K pr (retNM m)) := ps_imp (ps_ret he) fun E σ H h => by
  obtain ⟨F, G, ρ, fl, ρ', ok, hm, w⟩ := h
  obtain ⟨d, ρ1, h1, h2⟩ := bnd_some hm
  cases h2
  exact ⟨F, G, ρ, d, _, ok, h1, fun p F' H' s ok' n o => w p σ F' H' s ok' Pr.refl n o⟩
theorem s_ret0 : PS X (.Return none pos) (rdS X.K pr (ret (.rt (.v .none)))) := ps_imp ps_retN fun E σ H h => by
  obtain ⟨F, G, ρ, fl, ρ', ok, hm, w⟩ := h
  cases hm
  exact w .non σ F H (Same.refl F) ok Pr.refl rfl
theorem s_retO (i : Nat) {x : Str} {pos1 : Pos} (hN : X.N[i]? = some x := by rfl) (hv : Vis X.env.scope x := by first | exact Or.inl rfl | exact Or.inr (Or.inl rfl) | exact Or.inr (Or.inr rfl)) (hd : (x == ("__debug__" : Str)) = false := by decide)
    (hcd : (x == ("__classdict__" : Str)) = false := by decide) : PS X (.Return (some (.Name x pos1)) pos) (rdS X.K pr (retOM i)) := ps_imp (ps_ret (pe_var (i := i) hN hv hd hcd)) fun E σ H h => by
  obtain ⟨F, G, ρ, fl, ρ', ok, hm, w⟩ := h
  unfold retOM at hm
  split at hm
  · rename_i b hb
    cases hm
    obtain ⟨p, h1, h2, h3, h4⟩ := ok.own i _ hb
    exact ⟨_, h1, w p σ F H (Same.refl F) (ok.drop i) Pr.refl (ok.newOf hb h1) h4⟩
  · cases hm
def dropM (m : M D) : MS := bnd m fun _ => ret .nx
theorem s_expr {m : M D} (he : PE X e (rdV X.K m)) (hs : swapsWith e none pos.line X.env = pure false := by rfl) : PS X (.Expr e pos) (rdS X.K pr (dropM m)) := ps_imp (ps_expr he hs) fun E σ H h => by
  obtain ⟨F, G, ρ, fl, ρ', ok, hm, w⟩ := h
  obtain ⟨d, ρ1, h1, h2⟩ := bnd_some hm
  cases h2
  exact ⟨F, G, ρ, d, _, ok, h1, fun v F' H' s ok' r => w σ F' H' s ok' Pr.refl⟩
theorem s_if {c : Expr} {a b : List Stmt} {mc : M Bool} {m n : MS} (hc : PT X c (rdT X.K mc)) (ha : PSs X a (rdS X.K pr m)) (hb : PSs X b (rdS X.K pr n)) : PS X (.If c a b pos) (rdS X.K pr (iteM mc m n)) := ps_imp (ps_if hc ha hb) fun E σ H h => by
  obtain ⟨F, G, ρ, fl, ρ', ok, hm, w⟩ := h
  obtain ⟨k, ρ1, h1, h2⟩ := bnd_some hm
  refine ⟨F, G, ρ, k, ρ1, ok, h1, fun F1 H1 s1 ok1 => ?_⟩
  cases k with
  | true => exact iteT ⟨F1, G, ρ1, fl, ρ', ok1, h2, w.step s1 Pr.refl⟩
  | false => exact iteF ⟨F1, G, ρ1, fl, ρ', ok1, h2, w.step s1 Pr.refl⟩
/-! ### targets and assignments -/
def nameT (i : Nat) : D → Rho → Option Rho := fun d ρ => some (ρ.set i (.v d))
def nilT : List D → Rho → Option Rho := fun ds ρ => match ds with
  | [] => some ρ
  | _ => none
def consT (t : D → Rho → Option Rho) (u : List D → Rho → Option Rho) : List D → Rho → Option Rho := fun ds ρ => match ds with
  | d :: ds => (t d ρ).bind (u ds)
  | [] => none
def tupT (t : List D → Rho → Option Rho) : D → Rho → Option Rho := fun d ρ => match d with
  | .tuple ds => t ds ρ
  | _ => none
theorem Ok.putV {i : Nat} {d : D} {v : V} (ok : Ok K F G H σ ρ) (r : Rp K F d v) : Ok K F G H (σ.set i (some v)) (ρ.set i (.v d)) :=
  ok.put (fun d' e => by cases e; exact r) (fun b e => nomatch e) (fun ns e => nomatch e)
theorem Ok.putO {i : Nat} {b : Own} {p : Addr} (ok : Ok K F G H σ ρ) (n : New K F G H σ ρ p) (o : OwnAt K F H p b) : Ok K F G H (σ.set i (some (.ref p))) (ρ.set i (.o b)) :=
  ok.put (fun d' e => nomatch e) (fun b' e => by cases e; exact ⟨p, rfl, n, o⟩) (fun ns e => nomatch e)
theorem g_name (i : Nat) {x : Str} (hp : i ∉ pr) (hN : X.N.Nodup) (hi : X.N[i]? = some x) (hx : Loc X.env.scope x) (hf : X.fn x = true ∨ X.env.scope.names.lookup x = some .local := by first | exact .inl rfl | exact .inr rfl | assumption) : PG X (.Name x pos) (rdG X.K pr (nameT i)) :=
  pg_imp (pg_name hN hi hx hf) fun v σ H Q h => by
    obtain ⟨F, G, ρ, d, ρ', ok, r, hm, q⟩ := h
    cases hm
    exact q _ F H (Same.refl F) (ok.putV r) (Pr.set hp)
theorem gs_nil : PGs X [] (rdGs X.K pr nilT) := pgs_imp pgs_nil fun v σ H Q h => by
  obtain ⟨F, G, ρ, d, ρ', ok, r, hm, q⟩ := h
  unfold nilT at hm
  split at hm
  · cases hm
    exact ⟨r, q σ F H (Same.refl F) ok Pr.refl⟩
  · cases hm
theorem gs_cons {es : List Expr} {t : D → Rho → Option Rho} {u : List D → Rho → Option Rho} (h1 : PG X e (rdG X.K pr t)) (h2 : PGs X es (rdGs X.K pr u))
    (hs : (assignEach (e :: es) X.env).map (·.2) = assign e X.env :: (assignEach es X.env).map (·.2) := by rfl) : PGs X (e :: es) (rdGs X.K pr (consT t u)) := pgs_imp (pgs_cons h1 h2 hs) fun v σ H Q h => by
  obtain ⟨F, G, ρ, d, ρ', ok, r, hm, q⟩ := h
  unfold consT at hm
  split at hm
  · rename_i d ds
    obtain ⟨v, vs, rfl, r1, r2⟩ := r
    cases ht : t d ρ with
    | none => rw [ht] at hm; cases hm
    | some ρ1 =>
      rw [ht] at hm
      have hm : u ds ρ1 = some ρ' := hm
      exact ⟨v, vs, rfl, F, G, ρ, d, ρ1, ok, r1, ht, fun σ1 F1 H1 s1 ok1 p1 => ⟨F1, G, ρ1, ds, ρ', ok1, Rps.mono s1 _ _ r2, hm, fun σ2 F2 H2 s2 ok2 p2 => q σ2 F2 H2 (s1.trans s2) ok2 (p1.trans p2)⟩⟩
  · cases hm
theorem Rps.lenE {n : Nat} {ds : List D} {vs : List V} (r : Rps K F ds vs) (h : ds.length = n) : vs.length = n := by rw [r.length, h]
/-- the length is asked as the machine asks it: of the tuple -/
def tupNT (n : Nat) (t : List D → Rho → Option Rho) : D → Rho → Option Rho := fun d ρ => match d with
  | .tuple ds => if ds.length = n then t ds ρ else none
  | _ => none
theorem g_tup {es : List Expr} {k n : Nat} {t : List D → Rho → Option Rho} (hc : X.calm = true) (h : PGs X es (rdGs X.K pr t))
    (hn : (assignEach es X.env).length = n := by rfl) (hst : (assignEach es X.env).findIdx? (·.1) = none := by rfl) : PG X (.Tuple es k pos) (rdG X.K pr (tupNT n t)) := pg_imp (pg_tup hc h hn hst) fun v σ H Q h => by
  obtain ⟨F, G, ρ, d, ρ', ok, r, hm, q⟩ := h
  unfold tupNT at hm
  split at hm
  · split at hm
    · rename_i ds hl
      obtain ⟨a, vs, rfl, h1, h2⟩ := r
      exact ⟨a, vs, rfl, Same.seqT ok.sub h1, h2.lenE hl, F, G, ρ, ds, ρ', ok, h2, hm, q⟩
    · cases hm
  · cases hm
def asgM (m : M D) (t : D → Rho → Option Rho) : MS := bnd m fun d => fun ρ => (t d ρ).map fun ρ' => (.nx, ρ')
theorem asg_some {m : M D} {t : D → Rho → Option Rho} {ρ ρ' : Rho} {fl : Fl} (h : asgM m t ρ = some (fl, ρ')) : ∃ d ρ1, m ρ = some (d, ρ1) ∧ t d ρ1 = some ρ' ∧ fl = .nx := by
  obtain ⟨d, ρ1, h1, h2⟩ := bnd_some h
  have h2 : (t d ρ1).map (fun ρ' => (Fl.nx, ρ')) = some (fl, ρ') := h2
  cases ht : t d ρ1 with
  | none => rw [ht] at h2; cases h2
  | some ρ2 => rw [ht] at h2; cases h2; exact ⟨d, ρ1, h1, ht, rfl⟩
theorem s_asg {tg : Expr} {m : M D} {t : D → Rho → Option Rho} (he : PE X e (rdV X.K m)) (hg : PG X tg (rdG X.K pr t)) (hs : swapsWithSole [tg] e pos.line X.env = pure false := by rfl) (hw : swappedStores [tg] e X.env = pure none := by rfl)
    (h1 : (assignEach [tg] X.env).map (·.2) = [assign tg X.env] := by rfl) : PS X (.Assign [tg] e pos) (rdS X.K pr (asgM m t)) := ps_imp (ps_asg he hg hs hw h1) fun E σ H h => by
  obtain ⟨F, G, ρ, fl, ρ', ok, hm, w⟩ := h
  obtain ⟨d, ρ1, h1, h2, rfl⟩ := asg_some hm
  exact ⟨F, G, ρ, d, ρ1, ok, h1, fun v F1 H1 s1 ok1 r1 => ⟨F1, G, ρ1, d, ρ', ok1, r1, h2, fun σ2 F2 H2 s2 ok2 p2 => w σ2 F2 H2 (s1.trans s2) ok2 p2⟩⟩
def setNM (i : Nat) (m : M Own) : MS := bnd m fun b => fun ρ => some (.nx, ρ.set i (.o b))
theorem s_set (i : Nat) {x : Str} {m : M D} {pos' : Pos} (hp : i ∉ pr) (hN : X.N.Nodup) (hi : X.N[i]? = some x) (hx : Loc X.env.scope x) (he : PE X e (rdV X.K m)) (hs : swapsWith e (some (.Name x pos')) pos.line X.env = pure false := by rfl) (hf : X.fn x = true ∨ X.env.scope.names.lookup x = some .local := by first | exact .inl rfl | exact .inr rfl | assumption) :
    PS X (.Assign [.Name x pos'] e pos) (rdS X.K pr (asgM m (nameT i))) := ps_imp (ps_set hN hi hx he hs hf) fun E σ H h => by
  obtain ⟨F, G, ρ, fl, ρ', ok, hm, w⟩ := h
  obtain ⟨d, ρ1, h1, h2, rfl⟩ := asg_some hm
  cases h2
  exact ⟨F, G, ρ, d, ρ1, ok, h1, fun v F1 H1 s1 ok1 r1 => w _ F1 H1 s1 (ok1.putV r1) (Pr.set hp)⟩
theorem s_setN (i : Nat) {x : Str} {m : M Own} {pos' : Pos} (hp : i ∉ pr) (hN : X.N.Nodup) (hi : X.N[i]? = some x) (hx : Loc X.env.scope x) (he : PE X e (rdN X.K m)) (hs : swapsWith e (some (.Name x pos')) pos.line X.env = pure false := by rfl) (hf : X.fn x = true ∨ X.env.scope.names.lookup x = some .local := by first | exact .inl rfl | exact .inr rfl | assumption) :
    PS X (.Assign [.Name x pos'] e pos) (rdS X.K pr (setNM i m)) := ps_imp (ps_set hN hi hx he hs hf) fun E σ H h => by
  obtain ⟨F, G, ρ, fl, ρ', ok, hm, w⟩ := h
  obtain ⟨d, ρ1, h1, h2⟩ := bnd_some hm
  cases h2
  exact ⟨F, G, ρ, d, ρ1, ok, h1, fun p F1 H1 s1 ok1 n1 o1 => w _ F1 H1 s1 (ok1.putO n1 o1) (Pr.set hp)⟩
/-- a, b = x, y -/
def parM (i j : Nat) (m n : M D) : MS := bnd m fun d => bnd n fun e => fun ρ => some (.nx, (ρ.set i (.v d)).set j (.v e))
theorem s_par (i j : Nat) {x y : Str} {a b : Expr} {m n : M D} {px py pt : Pos} {kt k2 : Nat} {pt2 : Pos} (hpi : i ∉ pr) (hpj : j ∉ pr) (hc : X.calm = true) (hN : X.N.Nodup) (hi : X.N[i]? = some x) (hj : X.N[j]? = some y) (hij : i ≠ j)
    (hx : X.env.scope.names.lookup x = some .local) (hy : X.env.scope.names.lookup y = some .local) (ha : PE X a (rdV X.K m)) (hb : PE X b (rdV X.K n))
    (hw : swappedStores [.Tuple [.Name x px, .Name y py] kt pt] (.Tuple [a, b] k2 pt2) X.env = pure (some [x, y]) := by rfl)
    (hs : swapsWithSole [.Tuple [.Name x px, .Name y py] kt pt] (.Tuple [a, b] k2 pt2) pos.line X.env = pure false := by rfl) (hsa : starEach [a, b] X.env = (false, eval a X.env) :: starEach [b] X.env := by rfl) (hsb : starEach [b] X.env = (false, eval b X.env) :: starEach [] X.env := by rfl) :
    PS X (.Assign [.Tuple [.Name x px, .Name y py] kt pt] (.Tuple [a, b] k2 pt2) pos) (rdS X.K pr (parM i j m n)) := ps_imp (ps_par hc hN hi hj hij hx hy (pa_cons ha (pa_cons hb pa_nil hsb) hsa) hw hs) fun E σ H h => by
  obtain ⟨F, G, ρ, fl, ρ', ok, hm, w⟩ := h
  obtain ⟨d, ρ1, h1, h2⟩ := bnd_some hm
  obtain ⟨d2, ρ2, h3, h4⟩ := bnd_some h2
  cases h4
  refine ⟨F, G, ρ, d, ρ1, ok, h1, fun v F1 H1 s1 ok1 r1 => ⟨F1, G, ρ1, d2, ρ2, ok1, h3, fun v2 F2 H2 s2 ok2 r2 => ⟨v, v2, rfl, ?_⟩⟩⟩
  exact w _ F2 H2 (s1.trans s2) ((ok2.putV (Rp.mono s2 _ _ r1)).putV r2) ((Pr.set hpi).trans (Pr.set hpj))
/-- x op= e, ints -/
def augM (i : Nat) (f : Int → Int → Int) (m : M D) : MS := fun ρ => match ρ[i]? with
  | some (.v (.int a)) => bnd m (fun d => match d with
    | .int b => fun ρ => some (.nx, ρ.set i (.v (.int (f a b))))
    | _ => fun _ => none) ρ
  | _ => none
theorem s_aug (i : Nat) {x : Str} {m : M D} {op : Operator} {f : Int → Int → Int} {pos' : Pos} (hp : i ∉ pr) (hN : X.N.Nodup) (hi : X.N[i]? = some x) (hx : Loc X.env.scope x) (he : PE X e (rdV X.K m)) (ho : PIp X op (ipI f)) (hf : X.fn x = true ∨ X.env.scope.names.lookup x = some .local := by first | exact .inl rfl | exact .inr rfl | assumption) :
    PS X (.AugAssign (.Name x pos') op e pos) (rdS X.K pr (augM i f m)) := ps_imp (ps_aug hN hi hx he ho hf) fun E σ H h => by
  obtain ⟨F, G, ρ, fl, ρ', ok, hm, w⟩ := h
  unfold augM at hm
  split at hm
  · rename_i a ha
    obtain ⟨d, ρ1, h1, h2⟩ := bnd_some hm
    cases d with
    | int b =>
      cases h2
      obtain ⟨v, hv, rv⟩ := ok.val i _ ha
      cases (show v = _ from rv)
      refine ⟨_, hv, F, G, ρ, .int b, ρ1, ok, h1, fun v F1 H1 s1 ok1 r1 => ⟨a, b, rfl, r1, ?_⟩⟩
      exact w _ F1 H1 s1 (ok1.putV rfl) (Pr.set hp)
    | _ => cases h2
  · cases hm
/-- slot i is own -/
def ownM (i : Nat) : M Unit := fun ρ => match ρ[i]? with
  | some (.o _) => some ((), ρ)
  | _ => none
theorem own_some {i : Nat} {ρ ρ' : Rho} {u : Unit} (h : ownM i ρ = some (u, ρ')) : ρ' = ρ ∧ ∃ b, ρ[i]? = some (.o b) := by
  unfold ownM at h
  split at h
  · rename_i b hb
    cases h
    exact ⟨rfl, b, hb⟩
  · cases h
/-- own[i] = e, own a list -/
def putL (i : Nat) (d k : D) : MS := fun ρ => match ρ[i]?, k with
  | some (.o (.lst xs)), .int k => (match ixN xs.length k with
    | some j => some (.nx, ρ.set i (.o (.lst (xs.set j d))))
    | none => none)
  | some (.o (.dd kvs)), k => if keyFit kvs k && decide (kvs.length < sizeLine) then some (.nx, ρ.set i (.o (.dd (putD kvs k d)))) else none
  | _, _ => none
theorem PSet.or {X : Cx} {t t' : TSet} (h : PSet X t) (h' : PSet X t') : PSet X (fun o i v H Q => t o i v H Q ∨ t' o i v H Q) := fun pins s σ H o i v ov iv u Q I r1 r2 r3 z => z.elim (fun z => h pins s σ H o i v ov iv u Q I r1 r2 r3 z) fun z => h' pins s σ H o i v ov iv u Q I r1 r2 r3 z
theorem PGet.or {X : Cx} {t t' : V → V → Hp → VK → Prop} (h : PGet X t) (h' : PGet X t') : PGet X (fun o i H Q => t o i H Q ∨ t' o i H Q) := fun pins s σ H o i ov iv Q I r1 r2 z => z.elim (fun z => h pins s σ H o i ov iv Q I r1 r2 z) fun z => h' pins s σ H o i ov iv Q I r1 r2 z
def rSetDG (X : Cx) : TSet := fun o i v H Q => ∃ a H', o = .ref a ∧ DP X H a i v H' ∧ Q H'
theorem set_dictG {X : Cx} (hu : X.A.units + 64 < cLine) : PSet X (rSetDG X) := by
  intro pins s σ H o i v ov iv u Q I r1 r2 r3 h
  obtain ⟨a, H', rfl, g, q⟩ := h
  obtain rfl : ov = Value.ref a := r1
  exact g.put (by omega) I r2 r3 fun s' I' => ⟨H', I', q⟩
theorem pget_dictG {X : Cx} (hu : X.A.units + 64 < cLine) : PGet X (rIxDG X) := by
  intro pins s σ H o i ov iv Q I r1 r2 h
  obtain ⟨a, v, rfl, g, q⟩ := h
  obtain rfl : ov = Value.ref a := r1
  exact g.get (by omega) I r2 rfl fun w' s' I' rw' => ⟨v, H, I', rw', q⟩
def setItM (i : Nat) (m n : M D) : MS := bnd m fun d => bnd (ownM i) fun _ => bnd n fun k => putL i d k
theorem s_setIt (i : Nat) {x : Str} {ix : Expr} {m n : M D} {px p2 : Pos} (hu : X.A.units + 64 < cLine) (he : PE X e (rdV X.K m)) (hn : PE X ix (rdV X.K n)) (hN : X.N[i]? = some x := by rfl) (hv : Vis X.env.scope x := by first | exact Or.inl rfl | exact Or.inr (Or.inl rfl) | exact Or.inr (Or.inr rfl)) (hd : (x == ("__debug__" : Str)) = false := by decide)
    (hcd : (x == ("__classdict__" : Str)) = false := by decide)
    (ha : ∀ v, assign (.Subscript (.Name x px) ix p2) X.env v = (do
      let ov ← holding [v] (eval (.Name x px) X.env)
      let iv ← holding [v, ov] (eval ix X.env)
      standAt p2
      holding [v, ov, iv] (setItem ov iv v)
      release [v, ov, iv] []) := by intro _; rfl)
    (hs : swapsWithSole [.Subscript (.Name x px) ix p2] e pos.line X.env = pure false := by rfl) (hw : swappedStores [.Subscript (.Name x px) ix p2] e X.env = pure none := by rfl)
    (h1 : (assignEach [.Subscript (.Name x px) ix p2] X.env).map (·.2) = [assign (.Subscript (.Name x px) ix p2) X.env] := by rfl) (hww : X.w = Wd.w := by rfl) :
    PS X (.Assign [.Subscript (.Name x px) ix p2] e pos) (rdS X.K pr (setItM i m n)) := ps_imp (ps_asg he (pg_sub (pe_var (i := i) hN hv hd hcd) hn (PSet.or set_list (set_dictG hu)) ha) hs hw h1) fun E σ H h => by
  obtain ⟨F, G, ρ, fl, ρ', ok, hm, w⟩ := h
  obtain ⟨d, ρ1, h1, h2⟩ := bnd_some hm
  obtain ⟨u, ρ2, h3, h4⟩ := bnd_some h2
  obtain ⟨rfl, b, hb⟩ := own_some h3
  obtain ⟨k, ρ3, h5, h6⟩ := bnd_some h4
  refine ⟨F, G, ρ, d, ρ2, ok, h1, fun v F1 H1 s1 ok1 r1 => ?_⟩
  obtain ⟨p, hp, _, _, _⟩ := ok1.own i b hb
  refine ⟨.ref p, hp, F1, G, ρ2, k, ρ3, ok1, h5, fun kv F2 H2 s2 ok2 r2 => ?_⟩
  unfold putL at h6
  split at h6
  · rename_i xs k hx
    split at h6
    · rename_i j hj
      cases h6
      obtain ⟨q, hq, f2, g2, vs, h7, h8⟩ := ok2.own i _ hx
      rw [hp] at hq
      cases hq
      cases (show kv = _ from r2)
      have hl : vs.length = xs.length := h8.length
      refine .inl ⟨p, vs, k, j, rfl, rfl, h7, by rw [hl]; exact hj, ?_⟩
      exact w σ F2 _ (s1.trans s2) (ok2.turn hx hp ⟨_, upd_same, Rps.set (Rp.mono s2 _ _ r1) j h8⟩) Pr.refl
    · cases h6
  · rename_i kvs hx
    split at h6
    · rename_i hz
      cases h6
      rw [Bool.and_eq_true] at hz
      obtain ⟨q, hq, f2, g2, h7⟩ := ok2.own i _ hx
      rw [hp] at hq
      cases hq
      obtain ⟨u, dp, h8⟩ := DcAt.put hww ok2.sub h7 hz.1 (of_decide_eq_true hz.2) r2 (Rp.mono s2 _ _ r1)
      exact .inr ⟨p, _, rfl, dp, w σ F2 _ (s1.trans s2) (ok2.turn hx hp h8) Pr.refl⟩
    · cases h6
  · cases h6
/-- own[i] as a target -/
def subT (i : Nat) (n : M D) : D → Rho → Option Rho := fun d ρ => ((bnd (ownM i) fun _ => bnd n fun k => putL i d k) ρ).map (·.2)
theorem g_sub (i : Nat) {x : Str} {ix : Expr} {n : M D} {px p2 : Pos} (hu : X.A.units + 64 < cLine) (hn : PE X ix (rdV X.K n)) (hN : X.N[i]? = some x := by rfl) (hv : Vis X.env.scope x := by first | exact Or.inl rfl | exact Or.inr (Or.inl rfl) | exact Or.inr (Or.inr rfl)) (hd : (x == ("__debug__" : Str)) = false := by decide)
    (hcd : (x == ("__classdict__" : Str)) = false := by decide)
    (ha : ∀ v, assign (.Subscript (.Name x px) ix p2) X.env v = (do
      let ov ← holding [v] (eval (.Name x px) X.env)
      let iv ← holding [v, ov] (eval ix X.env)
      standAt p2
      holding [v, ov, iv] (setItem ov iv v)
      release [v, ov, iv] []) := by intro _; rfl) (hww : X.w = Wd.w := by rfl) :
    PG X (.Subscript (.Name x px) ix p2) (rdG X.K pr (subT i n)) := pg_imp (pg_sub (pe_var (i := i) hN hv hd hcd) hn (PSet.or set_list (set_dictG hu)) ha) fun v σ H Q h => by
  obtain ⟨F, G, ρ, d, ρ', ok, r1, hm, w⟩ := h
  obtain ⟨⟨fl, ρ0⟩, hm, e0⟩ := Option.map_eq_some_iff.mp hm
  cases (show ρ0 = ρ' from e0)
  obtain ⟨u, ρ2, h3, h4⟩ := bnd_some hm
  obtain ⟨rfl, b, hb⟩ := own_some h3
  obtain ⟨k, ρ3, h5, h6⟩ := bnd_some h4
  obtain ⟨p, hp, _, _, _⟩ := ok.own i b hb
  refine ⟨.ref p, hp, F, G, ρ2, k, ρ3, ok, h5, fun kv F2 H2 s2 ok2 r2 => ?_⟩
  unfold putL at h6
  split at h6
  · rename_i xs k hx
    split at h6
    · rename_i j hj
      cases h6
      obtain ⟨q, hq, f2, g2, vs, h7, h8⟩ := ok2.own i _ hx
      rw [hp] at hq
      cases hq
      cases (show kv = _ from r2)
      have hl : vs.length = xs.length := h8.length
      refine .inl ⟨p, vs, k, j, rfl, rfl, h7, by rw [hl]; exact hj, ?_⟩
      exact w σ F2 _ s2 (ok2.turn hx hp ⟨_, upd_same, Rps.set (Rp.mono s2 _ _ r1) j h8⟩) Pr.refl
    · cases h6
  · rename_i kvs hx
    split at h6
    · rename_i hz
      cases h6
      rw [Bool.and_eq_true] at hz
      obtain ⟨q, hq, f2, g2, h7⟩ := ok2.own i _ hx
      rw [hp] at hq
      cases hq
      obtain ⟨u, dp, h8⟩ := DcAt.put hww ok2.sub h7 hz.1 (of_decide_eq_true hz.2) r2 (Rp.mono s2 _ _ r1)
      exact .inr ⟨p, _, rfl, dp, w σ F2 _ s2 (ok2.turn hx hp h8) Pr.refl⟩
    · cases h6
  · cases h6
/-- a statement of which nothing is said -/
def noneM : MS := fun _ => none
theorem s_none {st : Stmt} : PS X st (rdS X.K pr noneM) := ⟨fun pins s σ H E I h => by
  obtain ⟨F, G, ρ, fl, ρ', ok, hm, w⟩ := h
  cases hm⟩
/-- own[i] op= e -/
theorem pget_list : PGet X (rIxL X.K) := by
  intro pins s σ H x y v u Q I rx ry h
  obtain ⟨p, xs, i, z, rfl, rfl, hq, he, q⟩ := h
  cases rx
  obtain ⟨t, rfl⟩ := ry
  obtain ⟨its, r, pl, hz⟩ := I.list hq
  obtain ⟨j, h1, h2, h3, h4, h5⟩ := atI_get he
  obtain ⟨w, ew, rw'⟩ := r.get h2
  have hl := r.length
  have hn := line63
  have fin : EP X pins σ Q w s := ⟨z, H, I, rw', q⟩
  by_cases h0 : 0 ≤ i
  · have hj : i.toNat = j := by
      rw [seqIndex_of h0 h5] at h1
      exact Option.some.inj h1
    exact wpAny_getItem_list pl.isList h0 (by omega) (by rw [hj]; simpa using ew) fin
  · have hj : (i + (its.toArray.size : Int)).toNat = j := by
      rw [seqIndex_neg (by omega) h4] at h1
      rw [List.size_toArray, ← hl]
      exact Option.some.inj h1
    exact wpAny_getItem_list_neg pl.isList (by omega) (by rw [List.size_toArray] <;> omega) (by omega) (by rw [hj]; simpa using ew) fin
/-- the item at k of the own object in slot i -/
def atS (ρ : Rho) (i : Nat) (k : D) : Option D := match ρ[i]? with
  | some (.o (.lst xs)) => ixD (.list xs) k
  | some (.o (.dd kvs)) => ixD (.dict kvs) k
  | _ => none
def augIt (i : Nat) (f : Int → Int → Int) (k : D) (m : M D) : MS := fun ρ => match atS ρ i k with
  | some (.int a) => bnd m (fun d => match d with
    | .int b => putL i (.int (f a b)) k
    | _ => fun _ => none) ρ
  | _ => none
def augItM (i : Nat) (f : Int → Int → Int) (n m : M D) : MS := bnd (ownM i) fun _ => bnd n fun k => augIt i f k m
theorem s_augIt (i : Nat) {x : Str} {ix : Expr} {m n : M D} {px p2 : Pos} {op : Operator} {f : Int → Int → Int} (hu : X.A.units + 64 < cLine) (hn : PE X ix (rdV X.K n)) (he : PE X e (rdV X.K m)) (ho : PIp X op (ipI f)) (hN : X.N[i]? = some x := by rfl) (hv : Vis X.env.scope x := by first | exact Or.inl rfl | exact Or.inr (Or.inl rfl) | exact Or.inr (Or.inr rfl)) (hd : (x == ("__debug__" : Str)) = false := by decide)
    (hcd : (x == ("__classdict__" : Str)) = false := by decide)
    (ha : ∀ ov iv new, augStore ix ov iv new = (do holding [new, ov, iv] (setItem ov iv new); release [new, ov, iv] []; pure .next) := by intros; rfl) (hww : X.w = Wd.w := by rfl) :
    PS X (.AugAssign (.Subscript (.Name x px) ix p2) op e pos) (rdS X.K pr (augItM i f n m)) := ps_imp (ps_augS (pe_var (i := i) hN hv hd hcd) hn (PGet.or pget_list (pget_dictG hu)) he ho (PSet.or set_list (set_dictG hu)) ha) fun E σ H h => by
  obtain ⟨F, G, ρ, fl, ρ', ok, hm, w⟩ := h
  obtain ⟨u, ρ2, h3, h4⟩ := bnd_some hm
  obtain ⟨rfl, b, hb⟩ := own_some h3
  obtain ⟨k, ρ3, h5, h6⟩ := bnd_some h4
  obtain ⟨p, hp, _, _, _⟩ := ok.own i b hb
  refine ⟨.ref p, hp, F, G, ρ2, k, ρ3, ok, h5, fun kv F2 H2 s2 ok2 r2 => ?_⟩
  unfold augIt at h6
  split at h6
  · rename_i a hj
    obtain ⟨d, ρ4, h7, h8⟩ := bnd_some h6
    -- what is stored
    have fin : ∀ (F3 H3 : Hp), Same F2 F3 → Ok X.K F3 G H3 σ ρ4 → ∀ c, putL i c k ρ4 = some (fl, ρ') → ∀ z, Rp X.K F3 c z → (fun o i v H Q => rSetL o i v H Q ∨ rSetDG X o i v H Q) (.ref p) kv z H3 fun H6 => E.nx σ H6 := fun F3 H3 s3 ok3 c g8 z rz => by
      unfold putL at g8
      split at g8
      · rename_i xs2 k2 hx2
        split at g8
        · rename_i j hj2
          cases g8
          obtain ⟨q, hq, f3, g3, vs3, h11, h12⟩ := ok3.own i _ hx2
          rw [hp] at hq
          cases hq
          cases (show kv = _ from r2)
          refine .inl ⟨p, vs3, k2, j, rfl, rfl, h11, by rw [h12.length]; exact hj2, ?_⟩
          exact w σ F3 _ (s2.trans s3) (ok3.turn hx2 hp ⟨_, upd_same, Rps.set rz j h12⟩) Pr.refl
        · cases g8
      · rename_i kvs hx2
        split at g8
        · rename_i hz
          cases g8
          rw [Bool.and_eq_true] at hz
          obtain ⟨q, hq, f3, g3, h11⟩ := ok3.own i _ hx2
          rw [hp] at hq
          cases hq
          obtain ⟨u, dp, h12⟩ := DcAt.put hww ok3.sub h11 hz.1 (of_decide_eq_true hz.2) (Rp.mono s3 _ _ r2) rz
          exact .inr ⟨p, _, rfl, dp, w σ F3 _ (s2.trans s3) (ok3.turn hx2 hp h12) Pr.refl⟩
        · cases g8
      · cases g8
    unfold atS at hj
    split at hj
    · rename_i xs hx
      cases k with
      | int k' =>
        have hj : atI xs k' = some (.int a) := hj
        obtain ⟨q, hq, f2, g2, vs, h9, h10⟩ := ok2.own i _ hx
        rw [hp] at hq
        cases hq
        cases (show kv = _ from r2)
        obtain ⟨z, hz, rz⟩ := h10.at hj
        cases (show z = _ from rz)
        refine .inl ⟨p, vs, k', _, rfl, rfl, SqL.of h9, hz, F2, G, ρ3, d, ρ4, ok2, h7, fun v F3 H3 s3 ok3 r3 => ?_⟩
        cases d with
        | int b =>
          cases (show v = _ from r3)
          exact ⟨a, b, rfl, rfl, fin F3 H3 s3 ok3 _ h8 _ rfl⟩
        | _ => cases h8
      | _ => cases hj
    · rename_i kvs hx
      have hj : (if keyFit kvs k then lookD kvs k else none) = some (.int a) := hj
      split at hj
      · rename_i hz
        obtain ⟨q, hq, f2, g2, h9⟩ := ok2.own i _ hx
        rw [hp] at hq
        cases hq
        obtain ⟨o, g, ro⟩ := DcR.get hww ok2.sub (show DcR X.K F2 H2 p kvs from h9.elim (fun ⟨ws, a, b⟩ => .inl ⟨ws, .inl a, b⟩) fun ⟨ws, a, b⟩ => .inr ⟨ws, .inl a, b⟩) hz r2
        rw [hj] at ro
        obtain ⟨z, rfl, rz⟩ := ro.some
        cases (show z = _ from rz)
        refine .inr ⟨p, _, rfl, g, F2, G, ρ3, d, ρ4, ok2, h7, fun v F3 H3 s3 ok3 r3 => ?_⟩
        cases d with
        | int b =>
          cases (show v = _ from r3)
          exact ⟨a, b, rfl, rfl, fin F3 H3 s3 ok3 _ h8 _ rfl⟩
        | _ => cases h8
      · cases hj
    · cases hj
  · cases h6
end
end Fx
/-! Fx: loops, comprehensions. -/
namespace Fx
open PySem PySem.Spec PyProof.Rows L2
variable [Wd]
/-- the iterator J gives xs, one by one -/
def Feed (K : Kf) (J : It) (F : Hp) (xs : List D) : Prop := ∀ (i : Nat) (F0 H : Hp), Same F F0 → Same F0 H →
  (∀ d, xs[i]? = some d → J.go i H ∧ ∀ x H', J.yld i H x H' → ∃ F', Same F0 F' ∧ Same F' H' ∧ Same H H' ∧ (∀ a o, F' a = some o → F0 a = some o ∨ H a = none) ∧ Rp K F' d x) ∧ (i = xs.length → J.stop i H)
def rdI (K : Kf) (m : M (List D)) : TI := fun σ H R => ∃ F G ρ xs ρ', Ok K F G H σ ρ ∧ m ρ = some (xs, ρ') ∧ ∀ J F' H', Same F F' → Ok K F' G H' σ ρ' → Feed K J F' xs → R J H'
section
variable {X : Cx} {K : Kf} {pr : List Nat} {F F' G H H' : Hp} {σ σ' : L2.St} {ρ ρ' : Rho} {E : Ends} {tg e : Expr}
theorem pi_imp {t t' : TI} (h : PI X tg e t) (i : ∀ σ H R, t' σ H R → t σ H R) : PI X tg e t' := ⟨fun pins s σ H R I q => h.run pins s σ H R I (i σ H R q)⟩
theorem pi_or {t t' : TI} (h : PI X tg e t) (h' : PI X tg e t') : PI X tg e (fun σ H R => t σ H R ∨ t' σ H R) := ⟨fun pins s σ H R I q => q.elim (fun z => h.run pins s σ H R I z) fun z => h'.run pins s σ H R I z⟩
/-! ### what is walked -/
theorem feed_list {a : Addr} {xs : List D} {vs : List V} (h : SqL K F a vs) (r : Rps K F xs vs) (hinj : ∀ (F0 H : Hp) (ys : List V), Same F F0 → Same F0 H → SqL K H a ys → ys = vs) : Feed K (Itl K a) F xs := fun i F0 H s t => by
  have q : SqL K H a vs := (s.trans t).seq h
  refine ⟨fun d hd => ?_, fun e => ⟨vs, q, by rw [r.length]; omega⟩⟩
  obtain ⟨v, hv, rv⟩ := r.get hd
  refine ⟨⟨vs, v, q, hv⟩, fun x H' y => ?_⟩
  obtain ⟨rfl, y⟩ := y
  have e : v = x := Option.some.inj (hv.symm.trans (y vs q))
  subst e
  exact ⟨F0, Same.refl _, t, Same.refl _, fun a o h => .inl h, Rp.mono s _ _ rv⟩
theorem feed_list' {a : Addr} {xs : List D} {vs : List V} (h : SqL K F a vs) (r : Rps K F xs vs) : Feed K (Itl K a) F xs := fun i F0 H s t => by
  have q : SqL K H a vs := (s.trans t).seq h
  refine ⟨fun d hd => ?_, fun e => ⟨vs, q, by rw [r.length]; omega⟩⟩
  obtain ⟨v, hv, rv⟩ := r.get hd
  refine ⟨⟨vs, v, q, hv⟩, fun x H' y => ?_⟩
  obtain ⟨rfl, y⟩ := y
  have e : v = x := Option.some.inj (hv.symm.trans (y vs q))
  subst e
  exact ⟨F0, Same.refl _, t, Same.refl _, fun a o h => .inl h, Rp.mono s _ _ rv⟩
theorem feed_tup {a : Addr} {xs : List D} {vs : List V} (h : SqT K F a vs) (r : Rps K F xs vs) : Feed K (Itt K a) F xs := fun i F0 H s t => by
  have q : SqT K H a vs := Same.seqT (s.trans t) h
  refine ⟨fun d hd => ?_, fun e => ⟨vs, q, by rw [r.length]; omega⟩⟩
  obtain ⟨v, hv, rv⟩ := r.get hd
  refine ⟨⟨vs, v, q, hv⟩, fun x H' y => ?_⟩
  obtain ⟨rfl, y⟩ := y
  have e : v = x := Option.some.inj (hv.symm.trans (y vs q))
  subst e
  exact ⟨F0, Same.refl _, t, Same.refl _, fun a o h => .inl h, Rp.mono s _ _ rv⟩
def rngL (lo : Int) (n : Nat) : List D := (List.range n).map fun (i : Nat) => PyData.int (lo + i)
theorem feed_rng {lo : Int} {n : Nat} : Feed K (Itr lo n) F (rngL lo n) := fun i F0 H s t => by
  refine ⟨fun d hd => ?_, fun e => ?_⟩
  · unfold rngL at hd
    rw [List.getElem?_map] at hd
    cases hr : (List.range n)[i]? with
    | none => rw [hr] at hd; cases hd
    | some j =>
      rw [hr] at hd
      cases hd
      obtain ⟨hi, hj⟩ := List.getElem?_eq_some_iff.mp hr
      rw [List.length_range] at hi
      rw [List.getElem_range] at hj
      subst hj
      refine ⟨hi, fun x H' y => ?_⟩
      obtain ⟨rfl, rfl⟩ := y
      exact ⟨F0, Same.refl _, t, Same.refl _, fun a o h => .inl h, rfl⟩
  · have : (rngL lo n).length = n := by unfold rngL; rw [List.length_map, List.length_range]
    show n ≤ i
    omega
def signs (s : Str) : List D := s.cps.toList.map fun c => PyData.str ⟨#[c]⟩
theorem feed_str {s : Str} : Feed K (Its s) F (signs s) := fun i F0 H e t => by
  refine ⟨fun d hd => ?_, fun e => ?_⟩
  · unfold signs at hd
    rw [List.getElem?_map, Array.getElem?_toList] at hd
    cases hr : s.cps[i]? with
    | none => rw [hr] at hd; cases hd
    | some c =>
      rw [hr] at hd
      cases hd
      obtain ⟨hi, hj⟩ := Array.getElem?_eq_some_iff.mp hr
      refine ⟨hi, fun x H' y => ?_⟩
      obtain ⟨rfl, c', hc, rfl⟩ := y
      rw [hr] at hc
      cases hc
      exact ⟨F0, Same.refl _, t, Same.refl _, fun a o h => .inl h, rfl⟩
  · have : (signs s).length = s.cps.size := by unfold signs; rw [List.length_map, Array.length_toList]
    show s.cps.size ≤ i
    omega
/-- the items of a list, a tuple, the signs of a text -/
def itemsD : D → Option (List D)
  | .list xs => some xs
  | .tuple xs => some xs
  | .str s => some (signs s)
  | .dict kvs => some (kvs.map (·.1))
  | _ => none
def itM (m : M D) : M (List D) := bnd m fun d => lft (itemsD d)
theorem feed_keysK {a : Addr} {o : Obj} {kvs : List (D × D)} {ws : List (Key × V)} (h : F a = some (.frz o (.dK ws))) (r : Rpk K F kvs ws) : Feed K (Itk a o ws) F (kvs.map (·.1)) := fun i F0 H s t => by
  have hH : H a = some (.frz o (.dK ws)) := t _ _ (s _ _ h)
  have at_ : ∀ {kvs : List (D × D)} {ws : List (Key × V)} (i : Nat), Rpk K F kvs ws → ∀ k d, kvs[i]? = some (k, d) → ∃ q v, ws[i]? = some (q, v) ∧ Rp K F k (kV q) := by
    intro kvs
    induction kvs with
    | nil => intro ws i h k d e; simp at e
    | cons x kvs ih =>
      obtain ⟨k', d'⟩ := x
      intro ws i h k d e
      obtain ⟨q', v', r, rfl, h1, h2, h3⟩ := h
      cases i with
      | zero =>
        simp at e
        obtain ⟨rfl, rfl⟩ := e
        refine ⟨q', v', rfl, ?_⟩
        cases k' with
        | int i => cases h1; rfl
        | str s => cases h1; rfl
        | _ => cases h1
      | succ i => exact ih i h3 k d (by simpa using e)
  refine ⟨fun d hd => ?_, fun e => ⟨hH, by rw [r.len]; rw [List.length_map] at e; omega⟩⟩
  rw [List.getElem?_map] at hd
  obtain ⟨⟨k, d'⟩, hk, rfl⟩ := Option.map_eq_some_iff.mp hd
  obtain ⟨q, v, hq, rq⟩ := at_ i r k d' hk
  refine ⟨⟨hH, (List.getElem?_eq_some_iff.mp hq).1⟩, fun x H' y => ?_⟩
  obtain ⟨rfl, q', v', hq', rfl⟩ := y
  rw [hq] at hq'
  cases hq'
  refine ⟨F0, Same.refl _, t, Same.refl _, fun a o h => .inl h, Rp.mono s _ _ rq⟩
theorem feed_keysE {a : Addr} {o : Obj} {kvs : List (D × D)} {es : List (D × Addr × V)} (h : F a = some (.frz o (DictO a es))) (r : Rpe K F kvs es) : Feed K (Itke a o es) F (kvs.map (·.1)) := fun i F0 H s t => by
  have hH : H a = some (.frz o (DictO a es)) := t _ _ (s _ _ h)
  have at_ : ∀ {kvs : List (D × D)} {es : List (D × Addr × V)} (i : Nat), Rpe K F kvs es → ∀ k d, kvs[i]? = some (k, d) → ∃ b v, es[i]? = some (k, b, v) ∧ Rp K F k (.ref b) := by
    intro kvs
    induction kvs with
    | nil => intro ws i h k d e; simp at e
    | cons x kvs ih =>
      obtain ⟨k', d'⟩ := x
      intro ws i h k d e
      obtain ⟨b', v', r, rfl, h1, h2, h3⟩ := h
      cases i with
      | zero =>
        simp at e
        obtain ⟨rfl, rfl⟩ := e
        exact ⟨b', v', rfl, h1⟩
      | succ i => exact ih i h3 k d (by simpa using e)
  refine ⟨fun d hd => ?_, fun e => ⟨hH, by rw [r.len]; rw [List.length_map] at e; omega⟩⟩
  rw [List.getElem?_map] at hd
  obtain ⟨⟨k, d'⟩, hk, rfl⟩ := Option.map_eq_some_iff.mp hd
  obtain ⟨b, v, hq, rq⟩ := at_ i r k d' hk
  refine ⟨⟨hH, (List.getElem?_eq_some_iff.mp hq).1⟩, fun x H' y => ?_⟩
  obtain ⟨rfl, k', b', v', hq', rfl⟩ := y
  rw [hq] at hq'
  cases hq'
  refine ⟨F0, Same.refl _, t, Same.refl _, fun a o h => .inl h, Rp.mono s _ _ rq⟩
/-- for k in a locked dict, whatever its keys -/
theorem pi_keysA {td : TE} (he : PE X e td) : PI X tg e (fun σ H R => td σ H fun x H1 => ∃ d o, x = .ref d ∧ ((∃ kvs, H1 d = some (.frz o (.dK kvs)) ∧ R (Itk d o kvs) H1) ∨ ∃ es, H1 d = some (.frz o (DictO d es)) ∧ R (Itke d o es) H1)) := by
  refine ⟨fun pins s σ H R I h => ?_⟩
  refine thn (he.run pins s σ H _ I h) fun u s1 ⟨x, H1, I1, rx, d, o, ex, z⟩ => ?_
  subst ex
  obtain rfl : u = Value.ref d := rx
  rcases z with ⟨kvs, hd, q⟩ | ⟨es, hd, q⟩
  · obtain ⟨hs, hgd, hx, es, ep, vs, hdt, hsz, kv, hm⟩ := I1.frzK hd
    refine iter_keys hs hgd hx hdt (pi_one (tk := s1.toks) I1 _ (turn_keys _ hdt) ⟨_, Heap.get?_push_size _ rfl, rfl, ?_⟩ q)
    rw [hsz] <;> rfl
  · obtain ⟨hs, hgd, hx, arr, ep, hdt, hsz, ent⟩ := frzE I1 hd
    refine iter_keys hs hgd hx hdt (pi_one (tk := s1.toks) I1 _ (turn_keysE _ hdt) ⟨_, Heap.get?_push_size _ rfl, rfl, ?_⟩ q)
    rw [hsz] <;> rfl
theorem i_seq {m : M D} (h : PE X e (rdV X.K m)) : PI X tg e (rdI X.K (itM m)) := by
  refine pi_imp (pi_or (pi_list h) (pi_or (pi_tup h) (pi_or (pi_str h) (pi_keysA h)))) fun σ H R h => ?_
  obtain ⟨F, G, ρ, xs, ρ', ok, hm, q⟩ := h
  obtain ⟨d, ρ1, h1, h2⟩ := bnd_some hm
  obtain ⟨h3, rfl⟩ := lft_some h2
  unfold itemsD at h3
  split at h3
  · cases h3
    refine .inl ⟨F, G, ρ, _, _, ok, h1, fun v F1 H1 s1 ok1 r1 => ?_⟩
    obtain ⟨a, vs, rfl, h4, h5⟩ := r1
    exact ⟨a, rfl, ⟨vs, SqL.of (ok1.sub _ _ h4)⟩, q _ F1 H1 s1 ok1 (feed_list' (SqL.of h4) h5)⟩
  · cases h3
    refine .inr (.inl ⟨F, G, ρ, _, _, ok, h1, fun v F1 H1 s1 ok1 r1 => ?_⟩)
    obtain ⟨a, vs, rfl, h4, h5⟩ := r1
    exact ⟨a, rfl, ⟨vs, Same.seqT ok1.sub h4⟩, q _ F1 H1 s1 ok1 (feed_tup h4 h5)⟩
  · cases h3
    refine .inr (.inr (.inl ⟨F, G, ρ, _, _, ok, h1, fun v F1 H1 s1 ok1 r1 => ?_⟩))
    exact ⟨_, r1, q _ F1 H1 s1 ok1 feed_str⟩
  · cases h3
    refine .inr (.inr (.inr ⟨F, G, ρ, _, _, ok, h1, fun v F1 H1 s1 ok1 r1 => ?_⟩))
    obtain ⟨a, o, rfl, z⟩ := r1
    rcases z with ⟨ws, h4, h5⟩ | ⟨es, h4, h5⟩
    · exact ⟨a, o, rfl, .inl ⟨ws, ok1.sub _ _ h4, q _ F1 H1 s1 ok1 (feed_keysK h4 h5)⟩⟩
    · exact ⟨a, o, rfl, .inr ⟨es, ok1.sub _ _ h4, q _ F1 H1 s1 ok1 (feed_keysE h4 h5)⟩⟩
  · cases h3
/-- the script -/
def scrM (i : Nat) : M (List D) := fun ρ => match ρ[i]? with
  | some (.s ns) => some (ns.map PyData.int, ρ)
  | _ => none
theorem i_scr (i : Nat) {x : Str} {pos : Pos} (hN : X.N[i]? = some x := by rfl) (hv : Vis X.env.scope x := by first | exact Or.inl rfl | exact Or.inr (Or.inl rfl) | exact Or.inr (Or.inr rfl)) (hd : (x == ("__debug__" : Str)) = false := by decide)
    (hcd : (x == ("__classdict__" : Str)) = false := by decide) : PI X tg (.Name x pos) (rdI X.K (scrM i)) := by
  refine pi_imp (pi_list (pe_var (i := i) hN hv hd hcd)) fun σ H R h => ?_
  obtain ⟨F, G, ρ, xs, ρ', ok, hm, q⟩ := h
  unfold scrM at hm
  split at hm
  · rename_i ns hs
    cases hm
    obtain ⟨a, h1, h2⟩ := ok.scr i ns hs
    exact ⟨_, h1, a, rfl, ⟨_, ok.sub.seq h2⟩, q _ F H (Same.refl F) ok (feed_list' h2 (Rps.ints.mpr rfl))⟩
  · cases hm
def rng1M (m : M (List D)) : M (List D) := bnd m fun ds => match ds with
  | [.int n] => if decide (-(2 ^ 62) ≤ n) && decide (n < 2 ^ 62) then ret (rngL 0 n.toNat) else fun _ => none
  | _ => fun _ => none
def rng2M (m : M (List D)) : M (List D) := bnd m fun ds => match ds with
  | [.int a, .int n] => if decide (-(2 ^ 62) ≤ a) && decide (a < 2 ^ 62) && decide (-(2 ^ 62) ≤ n) && decide (n < 2 ^ 62) then ret (rngL a (n - a).toNat) else fun _ => none
  | _ => fun _ => none
theorem i_rng1 {a : Expr} {m : M (List D)} {p pos : Pos} (hg : Gl X "range") (hm : X.mg "range" = none) (ha : PA X [a] (rdA X.K m)) (hs : starEach [a] X.env = [(false, eval a X.env)] := by rfl) : PI X tg (.Call (.Name "range" p) [a] [] pos) (rdI X.K (rng1M m)) := by
  refine pi_imp (pi_range1 hg hm ha hs) fun σ H R h => ?_
  obtain ⟨F, G, ρ, xs, ρ', ok, hm, q⟩ := h
  obtain ⟨ds, ρ1, h1, h2⟩ := bnd_some hm
  refine ⟨F, G, ρ, ds, ρ1, ok, h1, fun vs F1 H1 s1 ok1 r1 => ?_⟩
  split at h2
  · rename_i n
    split at h2
    · rename_i hz
      rw [Bool.and_eq_true] at hz
      cases h2
      obtain ⟨v, r, rfl, h3, h4⟩ := r1
      cases (show v = _ from h3)
      cases (show r = _ from h4)
      exact ⟨n, rfl, of_decide_eq_true hz.1, of_decide_eq_true hz.2, q _ F1 H1 s1 ok1 feed_rng⟩
    · cases h2
  · cases h2
theorem i_rng2 {a b : Expr} {m : M (List D)} {p pos : Pos} (hg : Gl X "range") (hm : X.mg "range" = none) (ha : PA X [a, b] (rdA X.K m)) (hs : starEach [a, b] X.env = [(false, eval a X.env), (false, eval b X.env)] := by rfl) (hs2 : starEach [b] X.env = [(false, eval b X.env)] := by rfl) :
    PI X tg (.Call (.Name "range" p) [a, b] [] pos) (rdI X.K (rng2M m)) := by
  refine pi_imp (pi_range2 hg hm ha hs hs2) fun σ H R h => ?_
  obtain ⟨F, G, ρ, xs, ρ', ok, hm, q⟩ := h
  obtain ⟨ds, ρ1, h1, h2⟩ := bnd_some hm
  refine ⟨F, G, ρ, ds, ρ1, ok, h1, fun vs F1 H1 s1 ok1 r1 => ?_⟩
  split at h2
  · rename_i a n
    split at h2
    · rename_i hz
      rw [Bool.and_eq_true, Bool.and_eq_true, Bool.and_eq_true] at hz
      cases h2
      obtain ⟨v, r, rfl, h3, v2, r2, rfl, h4, h5⟩ := r1
      cases (show v = _ from h3)
      cases (show v2 = _ from h4)
      cases (show r2 = _ from h5)
      exact ⟨a, n, rfl, ⟨of_decide_eq_true hz.1.1.1, of_decide_eq_true hz.1.1.2, of_decide_eq_true hz.1.2, of_decide_eq_true hz.2⟩, q _ F1 H1 s1 ok1 feed_rng⟩
    · cases h2
  · cases h2
/-! ### for -/
def forL (t : D → Rho → Option Rho) (b : MS) : List D → MS
  | [] => ret .nx
  | x :: xs => fun ρ => match t x ρ with
    | some ρ1 => bnd b (fun fl => match fl with
      | .nx => forL t b xs
      | .ct => forL t b xs
      | .bk => ret .nx
      | .rt r => ret (.rt r)) ρ1
    | none => none
def forM (m : M (List D)) (t : D → Rho → Option Rho) (b : MS) : MS := bnd m fun xs => forL t b xs
theorem drop_cons {α : Type} {xs : List α} {i : Nat} (h : i < xs.length) : xs.drop i = xs[i] :: xs.drop (i + 1) := (List.drop_eq_getElem_cons h)
theorem s_for {iter : Expr} {body : List Stmt} {m : M (List D)} {t : D → Rho → Option Rho} {b : MS} {pos : Pos} (hp : PassesOwn (model X.prog X.w) X.A X.env X.xe) (hc : X.calm = true) (hi : PI X tg iter (rdI X.K m)) (hg : PG X tg (rdG X.K pr t)) (hb : PSs X body (rdS X.K pr b))
    (hs : ∀ x, foldedSetIterable iter X.env x = pure x := by intro _; rfl) : PS X (.For tg iter body [] pos) (rdS X.K pr (forM m t b)) := ps_imp (ps_for hp hc hi hg hb hs) fun E σ H h => by
  obtain ⟨F, G, ρ, fl, ρ', ok, hm, w⟩ := h
  obtain ⟨xs, ρ1, h1, h2⟩ := bnd_some hm
  refine ⟨F, G, ρ, xs, ρ1, ok, h1, fun J F1 H1 s1 ok1 feed => ?_⟩
  refine ⟨fun i n σ2 H2 => ∃ F2 ρ2, n + i = xs.length ∧ Same F1 F2 ∧ Ok X.K F2 G H2 σ2 ρ2 ∧ Pr pr σ σ2 ∧ forL t b (xs.drop i) ρ2 = some (fl, ρ'), ⟨xs.length, F1, ρ1, by omega, Same.refl _, ok1, Pr.refl, by rw [List.drop_zero]; exact h2⟩, ?_⟩
  rintro i n σ2 H2 ⟨F2, ρ2, hn, s2, ok2, p2, h3⟩
  obtain ⟨go, stop⟩ := feed i F2 H2 s2 ok2.sub
  by_cases hlt : i < xs.length
  · obtain ⟨hgo, hy⟩ := go xs[i] (List.getElem?_eq_getElem hlt)
    refine .inr ⟨hgo, fun σ' H' => ∃ F3 ρ3, Same F1 F3 ∧ Ok X.K F3 G H' σ' ρ3 ∧ Pr pr σ σ' ∧ forL t b (xs.drop (i + 1)) ρ3 = some (fl, ρ'), fun σ' H' ⟨F3, ρ3, a1, a2, a3, a4⟩ => ⟨n - 1, by omega, F3, ρ3, by omega, a1, a2, a3, a4⟩, fun x H' y => ?_⟩
    obtain ⟨F3, s3, t3, u3, n3, r3⟩ := hy x H' y
    have ok3 := ok2.ge s3 t3 u3 n3
    rw [drop_cons hlt] at h3
    have h3 : (match t xs[i] ρ2 with
      | some ρ1 => bnd b (fun fl => match fl with
        | .nx => forL t b (xs.drop (i + 1))
        | .ct => forL t b (xs.drop (i + 1))
        | .bk => ret .nx
        | .rt r => ret (.rt r)) ρ1
      | none => none) = some (fl, ρ') := h3
    split at h3
    · rename_i ρ3 ht
      obtain ⟨f, ρ4, h4, h5⟩ := bnd_some h3
      refine ⟨F3, G, ρ2, xs[i], ρ3, ok3, r3, ht, fun σ3 F4 H4 s4 ok4 p3 => ⟨F4, G, ρ3, f, ρ4, ok4, h4, ?_⟩⟩
      have sA : Same F1 F4 := (s2.trans s3).trans s4
      cases f with
      | nx => exact fun σ5 F5 H5 s5 ok5 p5 => ⟨F5, ρ4, sA.trans s5, ok5, (p2.trans p3).trans p5, h5⟩
      | ct => exact fun σ5 F5 H5 s5 ok5 p5 => ⟨F5, ρ4, sA.trans s5, ok5, (p2.trans p3).trans p5, h5⟩
      | bk =>
        cases h5
        exact fun σ5 F5 H5 s5 ok5 p5 => w σ5 F5 H5 ((s1.trans sA).trans s5) ok5 ((p2.trans p3).trans p5)
      | rt r =>
        cases h5
        have w2 := w.step (s1.trans sA) (p2.trans p3)
        cases r with
        | v d => exact w2
        | o b => exact w2
        | u => exact w2
        | s _ => exact w2
        | t _ => exact w2
    · cases h3
  · have e : i = xs.length := by omega
    subst e
    rw [List.drop_of_length_le (Nat.le_refl _)] at h3
    cases h3
    exact .inl ⟨stop rfl, w σ2 F2 H2 (s1.trans s2) ok2 p2⟩
/-! ### while -/
def whN (c : M Bool) (b : MS) : Nat → MS
  | 0 => fun _ => none
  | n + 1 => bnd c fun k => if k then bnd b (fun fl => match fl with
      | .nx => whN c b n
      | .ct => whN c b n
      | .bk => ret .nx
      | .rt r => ret (.rt r)) else ret .nx
open Classical in
noncomputable def whileM (c : M Bool) (b : MS) : MS := fun ρ => if h : ∃ n r, whN c b n ρ = some r then some (Classical.choose (Classical.choose_spec h)) else none
theorem whN_mono {c : M Bool} {b : MS} : ∀ {n : Nat} {ρ : Rho} {r : Fl × Rho}, whN c b n ρ = some r → whN c b (n + 1) ρ = some r
  | 0, _, _, h => by cases h
  | n + 1, ρ, r, h => by
    obtain ⟨k, ρ1, h1, h2⟩ := bnd_some h
    refine (bnd_eq h1).trans ?_
    cases k with
    | false => exact h2
    | true =>
      obtain ⟨f, ρ2, h3, h4⟩ := bnd_some h2
      refine (bnd_eq h3).trans ?_
      cases f with
      | nx => exact whN_mono (n := n) h4
      | ct => exact whN_mono (n := n) h4
      | bk => exact h4
      | rt r => exact h4
theorem whN_le {c : M Bool} {b : MS} {n m : Nat} (hm : n ≤ m) {ρ : Rho} {r : Fl × Rho} (h : whN c b n ρ = some r) : whN c b m ρ = some r := by
  induction hm with
  | refl => exact h
  | step _ ih => exact whN_mono ih
theorem whileM_some {c : M Bool} {b : MS} {ρ : Rho} {r : Fl × Rho} : whileM c b ρ = some r ↔ ∃ n, whN c b n ρ = some r := by
  unfold whileM
  constructor
  · intro h
    split at h
    · rename_i hx
      have q := Classical.choose_spec (Classical.choose_spec hx)
      cases h
      exact ⟨_, q⟩
    · cases h
  · rintro ⟨n, h⟩
    have hx : ∃ n r, whN c b n ρ = some r := ⟨n, r, h⟩
    rw [dif_pos hx]
    have q := Classical.choose_spec (Classical.choose_spec hx)
    have q1 := whN_le (Nat.le_max_left n (Classical.choose hx)) h
    have q2 := whN_le (Nat.le_max_right n (Classical.choose hx)) q
    rw [q1] at q2
    exact congrArg some (Option.some.inj q2).symm
/-- one turn of a while -/
theorem whileM_eq (c : M Bool) (b : MS) : whileM c b = bnd c fun k => if k then bnd b (fun fl => match fl with
      | .nx => whileM c b
      | .ct => whileM c b
      | .bk => ret .nx
      | .rt r => ret (.rt r)) else ret .nx := by
  funext ρ
  have key : ∀ r : Fl × Rho, whileM c b ρ = some r ↔ (bnd c fun k => if k then bnd b (fun fl => match fl with
      | .nx => whileM c b
      | .ct => whileM c b
      | .bk => ret .nx
      | .rt r => ret (.rt r)) else ret .nx) ρ = some r := fun r => by
    rw [whileM_some]
    constructor
    · rintro ⟨n, h⟩
      cases n with
      | zero => cases h
      | succ n =>
        obtain ⟨k, ρ1, h1, h2⟩ := bnd_some h
        rw [bnd_eq h1]
        cases k with
        | false => exact h2
        | true =>
          obtain ⟨f, ρ2, h3, h4⟩ := bnd_some h2
          refine (bnd_eq h3).trans ?_
          cases f with
          | nx => exact whileM_some.mpr ⟨n, h4⟩
          | ct => exact whileM_some.mpr ⟨n, h4⟩
          | bk => exact h4
          | rt r => exact h4
    · intro h
      obtain ⟨k, ρ1, h1, h2⟩ := bnd_some h
      cases k with
      | false =>
        exact ⟨1, (bnd_eq h1).trans h2⟩
      | true =>
        obtain ⟨f, ρ2, h3, h4⟩ := bnd_some h2
        have mk : ∀ n, (bnd b (fun fl => match fl with
            | .nx => whN c b n
            | .ct => whN c b n
            | .bk => ret .nx
            | .rt r => ret (.rt r)) ρ1 = some r) → whN c b (n + 1) ρ = some r := fun n q => by
          exact (bnd_eq h1).trans q
        have st : ∀ n, bnd b (fun fl => match fl with
            | .nx => whN c b n
            | .ct => whN c b n
            | .bk => ret .nx
            | .rt r => ret (.rt r)) ρ1 = (match f with
            | .nx => whN c b n
            | .ct => whN c b n
            | .bk => ret .nx
            | .rt r => ret (.rt r)) ρ2 := fun n => bnd_eq h3
        cases f with
        | nx =>
          obtain ⟨n, h5⟩ := whileM_some.mp h4
          exact ⟨n + 1, mk n (by rw [st]; exact h5)⟩
        | ct =>
          obtain ⟨n, h5⟩ := whileM_some.mp h4
          exact ⟨n + 1, mk n (by rw [st]; exact h5)⟩
        | bk => exact ⟨1, mk 0 (by rw [st]; exact h4)⟩
        | rt q => exact ⟨1, mk 0 (by rw [st]; exact h4)⟩
  cases h : whileM c b ρ with
  | some r => exact ((key r).mp h).symm
  | none =>
    cases h2 : (bnd c fun k => if k then bnd b (fun fl => match fl with
      | .nx => whileM c b
      | .ct => whileM c b
      | .bk => ret .nx
      | .rt r => ret (.rt r)) else ret .nx) ρ with
    | none => rfl
    | some r =>
      have := (key r).mpr h2
      rw [h] at this
      cases this
theorem s_while {c : Expr} {body : List Stmt} {mc : M Bool} {b : MS} {pos : Pos} (hp : PassesOwn (model X.prog X.w) X.A X.env X.xe) (hc : PT X c (rdT X.K mc)) (hb : PSs X body (rdS X.K pr b)) : PS X (.While c body [] pos) (rdS X.K pr (whileM mc b)) := ps_imp (ps_while hp hc hb) fun E σ H h => by
  obtain ⟨F, G, ρ, fl, ρ', ok, hm, w⟩ := h
  obtain ⟨n, hn⟩ := whileM_some.mp hm
  refine ⟨fun n σ2 H2 => ∃ F2 ρ2, Same F F2 ∧ Ok X.K F2 G H2 σ2 ρ2 ∧ Pr pr σ σ2 ∧ whN mc b n ρ2 = some (fl, ρ'), ⟨n, F, ρ, Same.refl _, ok, Pr.refl, hn⟩, ?_⟩
  rintro n σ2 H2 ⟨F2, ρ2, s2, ok2, p2, h3⟩
  cases n with
  | zero => cases h3
  | succ n =>
    obtain ⟨k, ρ3, h4, h5⟩ := bnd_some h3
    refine ⟨F2, G, ρ2, k, ρ3, ok2, h4, fun F3 H3 s3 ok3 => ?_⟩
    cases k with
    | false =>
      cases h5
      exact iteF (w σ2 F3 H3 (s2.trans s3) ok3 p2)
    | true =>
      obtain ⟨f, ρ4, h6, h7⟩ := bnd_some h5
      refine iteT ⟨fun σ' H' => ∃ F5 ρ5, Same F F5 ∧ Ok X.K F5 G H' σ' ρ5 ∧ Pr pr σ σ' ∧ whN mc b n ρ5 = some (fl, ρ'), fun σ' H' q => ⟨n, Nat.lt_succ_self n, q⟩, F3, G, ρ3, f, ρ4, ok3, h6, ?_⟩
      have sA := s2.trans s3
      cases f with
      | nx => exact fun σ5 F5 H5 s5 ok5 p5 => ⟨F5, ρ4, sA.trans s5, ok5, p2.trans p5, h7⟩
      | ct => exact fun σ5 F5 H5 s5 ok5 p5 => ⟨F5, ρ4, sA.trans s5, ok5, p2.trans p5, h7⟩
      | bk =>
        cases h7
        exact fun σ5 F5 H5 s5 ok5 p5 => w σ5 F5 H5 (sA.trans s5) ok5 (p2.trans p5)
      | rt r =>
        cases h7
        have w2 := w.step sA p2
        cases r with
        | v d => exact w2
        | o b => exact w2
        | u => exact w2
        | s _ => exact w2
        | t _ => exact w2
end
end Fx
/-! Fx: comprehensions, calls, defs. -/
namespace Fx
open PySem PySem.Spec PyProof.Rows L2
variable [Wd]
/-! ### comprehensions -/
def wipeR (ρ : Rho) : List Nat → Rho
  | [] => ρ
  | v :: vs => (wipeR ρ vs).set v .u
def wipeM (vs : List Nat) : M Unit := fun ρ => some ((), wipeR ρ vs)
theorem wipeR_len (ρ : Rho) : ∀ vs : List Nat, (wipeR ρ vs).length = ρ.length
  | [] => rfl
  | v :: vs => by unfold wipeR; rw [List.length_set, wipeR_len ρ vs]
theorem wipeR_in {ρ : Rho} {i : Nat} : ∀ {vs : List Nat}, i ∈ vs → i < ρ.length → (wipeR ρ vs)[i]? = some .u
  | [], h, _ => by cases h
  | v :: vs, h, hl => by
    unfold wipeR
    by_cases e : v = i
    · subst e
      exact List.getElem?_set_self (by rw [wipeR_len]; exact hl)
    · rw [List.getElem?_set_ne e]
      exact wipeR_in ((List.mem_cons.mp h).resolve_left fun z => e z.symm) hl
theorem wipeR_out {ρ : Rho} {i : Nat} : ∀ {vs : List Nat}, i ∉ vs → (wipeR ρ vs)[i]? = ρ[i]?
  | [], _ => rfl
  | v :: vs, h => by
    unfold wipeR
    rw [List.getElem?_set_ne fun e => h (by rw [e]; exact List.mem_cons_self)]
    exact wipeR_out fun z => h (List.mem_cons_of_mem _ z)
theorem wipe_in {σ : L2.St} {i : Nat} : ∀ {vs : List Nat}, i ∈ vs → i < σ.length → (wipe σ vs)[i]? = some none
  | [], h, _ => by cases h
  | v :: vs, h, hl => by
    unfold wipe
    by_cases e : v = i
    · subst e
      exact List.getElem?_set_self (by rw [wipe_length]; exact hl)
    · rw [List.getElem?_set_ne e]
      exact wipe_in ((List.mem_cons.mp h).resolve_left fun z => e z.symm) hl
theorem wipe_out {σ : L2.St} {i : Nat} : ∀ {vs : List Nat}, i ∉ vs → (wipe σ vs)[i]? = σ[i]?
  | [], _ => rfl
  | v :: vs, h => by
    unfold wipe
    rw [List.getElem?_set_ne fun e => h (by rw [e]; exact List.mem_cons_self)]
    exact wipe_out fun z => h (List.mem_cons_of_mem _ z)
def prC (n : Nat) (vs : List Nat) : List Nat := (List.range n).filter fun i => decide (i ∉ vs)
theorem wipe_pr {σ σ' : L2.St} {vs : List Nat} {n : Nat} (hn : σ.length = n) (h : Pr (prC n vs) (wipe σ vs) σ') : wipe σ' vs = wipe σ vs := by
  have hl : σ'.length = σ.length := by rw [h.1, wipe_length]
  apply List.ext_getElem?
  intro i
  by_cases hi : i < σ.length
  · by_cases hv : i ∈ vs
    · rw [wipe_in hv hi, wipe_in hv (by omega)]
    · rw [wipe_out hv]
      exact h.2 i (List.mem_filter.mpr ⟨List.mem_range.mpr (by omega), decide_eq_true hv⟩)
  · rw [List.getElem?_eq_none (by rw [wipe_length]; omega), List.getElem?_eq_none (by rw [wipe_length]; omega)]
def lcL (vs : List Nat) (t : D → Rho → Option Rho) (c : M Bool) (e : M D) : List D → M (List D)
  | [] => ret []
  | x :: xs => fun ρ => match t x ρ with
    | some ρ1 => bnd c (fun k => if k then bnd e fun d => bnd (wipeM vs) fun _ => bnd (lcL vs t c e xs) fun ds => ret (d :: ds) else bnd (wipeM vs) fun _ => lcL vs t c e xs) ρ1
    | none => none
def lcM (m : M (List D)) (vs : List Nat) (t : D → Rho → Option Rho) (c : M Bool) (e : M D) : M Own := bnd m fun xs => bnd (wipeM vs) fun _ => bnd (lcL vs t c e xs) fun ds => if fitS ds.length then ret (.lst ds) else fun _ => none
section
variable {K : Kf} {pr : List Nat} {F F' G H H' : Hp} {σ σ' : L2.St} {ρ ρ' : Rho} {E : Ends}
/-- the hidden object at p changes -/
theorem Ok.ghost {p : Addr} {o o' : HO} (ok : Ok K F (upd G p o) H σ ρ) : Ok K F (upd G p o') (upd H p o') σ ρ := by
  have fp : F p = none := ok.disj p o upd_same
  have hp : H p = some o := ok.gsub p o upd_same
  have np : ∀ {t : Tr} {v : V} {as : List Addr}, (∀ a ∈ as, F a = none ∧ upd G p o a = none) → TrAt K F H t v as → TrAt K F (upd H p o') t v as ∧ ∀ a ∈ as, F a = none ∧ upd G p o' a = none := fun {t v as} h q => by
    have hn : ∀ a ∈ as, a ≠ p := fun a ha z => by have := (h a ha).2; rw [z, upd_same] at this; cases this
    refine ⟨q.mono (Same.refl F) _ _ _ fun a ha => upd_ne (hn a ha), fun a ha => ⟨(h a ha).1, ?_⟩⟩
    have := (h a ha).2
    rw [upd_ne (hn a ha)] at this ⊢
    exact this
  refine ⟨fun a u h => ?_, fun a u h => ?_, fun a u h => ?_, ok.len, ok.val, fun i x t h hx => ?_, ok.scr, fun i j x y t u hij h1 h2 h3 h4 => ?_⟩
  · rw [upd_ne (ne_of_none h fp)]
    exact ok.sub _ _ h
  · by_cases e : a = p
    · subst e
      rw [upd_same] at h ⊢
      exact h
    · rw [upd_ne e] at h ⊢
      exact ok.gsub _ _ (by rw [upd_ne e]; exact h)
  · by_cases e : a = p
    · rw [e]; exact fp
    · rw [upd_ne e] at h
      exact ok.disj _ _ (by rw [upd_ne e]; exact h)
  · obtain ⟨v, as, h1, h2, h3, h4⟩ := ok.hold i x t h hx
    obtain ⟨g1, g2⟩ := np h4 h2
    exact ⟨v, as, h1, g1, h3, g2⟩
  · obtain ⟨v, w, as, bs, g1, g2, g3, g4, g5⟩ := ok.apar i j x y t u hij h1 h2 h3 h4
    exact ⟨v, w, as, bs, g1, g2, (np (ok.fp (K' := K) h1 h2 g1 g3).2 g3).1, (np (ok.fp (K' := K) h3 h4 g2 g4).2 g4).1, g5⟩
/-- a new object, hidden -/
theorem Ok.hide {p : Addr} {o : HO} (ok : Ok K F G H σ ρ) (hp : H p = none) : Ok K F (upd G p o) (upd H p o) σ ρ := by
  have fp : F p = none := Same.free ok.sub hp
  have s : Same H (upd H p o) := Same.new hp
  refine ⟨ok.sub.trans s, fun a u h => ?_, fun a u h => ?_, ok.len, ok.val, fun i x t h hx => ?_, ok.scr, fun i j x y t u hij h1 h2 h3 h4 => ?_⟩
  · by_cases e : a = p
    · subst e
      rw [upd_same] at h ⊢
      exact h
    · rw [upd_ne e] at h ⊢
      exact ok.gsub _ _ h
  · by_cases e : a = p
    · rw [e]; exact fp
    · rw [upd_ne e] at h
      exact ok.disj _ _ h
  · obtain ⟨v, as, h1, h2, h3, h4⟩ := ok.hold i x t h hx
    refine ⟨v, as, h1, h2.keep (Same.refl F) s, h3, fun a ha => ⟨(h4 a ha).1, ?_⟩⟩
    rw [upd_ne]
    · exact (h4 a ha).2
    · rintro rfl
      obtain ⟨u, hu⟩ := h2.some _ _ _ a ha
      rw [hp] at hu; cases hu
  · obtain ⟨v, w, as, bs, g1, g2, g3, g4, g5⟩ := ok.apar i j x y t u hij h1 h2 h3 h4
    exact ⟨v, w, as, bs, g1, g2, g3.keep (Same.refl F) s, g4.keep (Same.refl F) s, g5⟩
/-- a hidden object comes back to who made it -/
theorem Ok.unhide {p : Addr} {o : HO} (ok : Ok K F (upd G p o) H σ ρ) (hg : G p = none) : Ok K F G H σ ρ ∧ New K F G H σ ρ p := by
  have sg : Same G (upd G p o) := Same.new hg
  refine ⟨⟨ok.sub, sg.trans ok.gsub, fun a u h => ok.disj a u (sg _ _ h), ok.len, ok.val, fun i x t h hx => ?_, ok.scr, ok.apar⟩, ok.disj p o upd_same, hg, fun i x t h hx => ?_⟩
  · obtain ⟨v, as, h1, h2, h3, h4⟩ := ok.hold i x t h hx
    exact ⟨v, as, h1, h2, h3, fun a ha => ⟨(h4 a ha).1, Same.free sg (h4 a ha).2⟩⟩
  · obtain ⟨v, as, h1, h2, h3, h4⟩ := ok.hold i x t h hx
    refine ⟨v, as, h1, h2, fun ha => ?_⟩
    have := (h4 p ha).2
    rw [upd_same] at this
    cases this
/-- the same slots, some of them forgotten; the values of the others as they were -/
theorem Ok.part {σ' : L2.St} {ρ' : Rho} (ok : Ok K F G H σ ρ) (hl : σ'.length = ρ'.length) (h : ∀ (i : Nat) (x : Sl), ρ'[i]? = some x → x ≠ .u → ρ[i]? = some x ∧ σ'[i]? = σ[i]?) : Ok K F G H σ' ρ' := by
  have nu : ∀ {x : Sl} {t : Tr}, x.tr = some t → x ≠ .u := fun {x t} h z => by rw [z] at h; cases h
  refine ⟨ok.sub, ok.gsub, ok.disj, hl, fun i d hi => ?_, fun i x t hi hx => ?_, fun i ns hi => ?_, fun i j x y t u hij h1 h2 h3 h4 => ?_⟩
  · obtain ⟨h1, h2⟩ := h i _ hi (fun z => nomatch z)
    rw [h2]; exact ok.val i d h1
  · obtain ⟨h1, h2⟩ := h i _ hi (nu hx)
    rw [h2]; exact ok.hold i x t h1 hx
  · obtain ⟨h1, h2⟩ := h i _ hi (fun z => nomatch z)
    rw [h2]; exact ok.scr i ns h1
  · obtain ⟨a1, a2⟩ := h i _ h1 (nu h2)
    obtain ⟨b1, b2⟩ := h j _ h3 (nu h4)
    rw [a2, b2]; exact ok.apar i j x y t u hij a1 h2 b1 h4
theorem New.part {σ' : L2.St} {ρ' : Rho} {p : Addr} (n : New K F G H σ ρ p) (h : ∀ (i : Nat) (x : Sl), ρ'[i]? = some x → x ≠ .u → ρ[i]? = some x ∧ σ'[i]? = σ[i]?) : New K F G H σ' ρ' p := ⟨n.f, n.g, fun i x t hi hx => by
  obtain ⟨h1, h2⟩ := h i x hi (fun z => by rw [z] at hx; cases hx)
  rw [h2]; exact n.s i x t h1 hx⟩
theorem NewT.part {σ' : L2.St} {ρ' : Rho} {q : Tr} {v : V} (n : NewT K F G H σ ρ q v) (h : ∀ (i : Nat) (x : Sl), ρ'[i]? = some x → x ≠ .u → ρ[i]? = some x ∧ σ'[i]? = σ[i]?) : NewT K F G H σ' ρ' q v := by
  obtain ⟨as, h1, h2, h3⟩ := n
  exact ⟨as, h1, h2, fun a ha => (h3 a ha).part h⟩
/-- into a comprehension's block, and out of it -/
theorem Ok.wiped {vs : List Nat} (ok : Ok K F G H σ ρ) : Ok K F G H (wipe σ vs) (wipeR ρ vs) := by
  refine ok.part (by rw [wipe_length, wipeR_len]; exact ok.len) fun i x h n => ?_
  have il : i < ρ.length := by
    have := (List.getElem?_eq_some_iff.mp h).1
    rw [wipeR_len] at this
    exact this
  by_cases hv : i ∈ vs
  · rw [wipeR_in hv il] at h
    cases h
    exact absurd rfl n
  · rw [wipeR_out hv] at h
    exact ⟨h, wipe_out hv⟩
theorem Ok.unwiped {vs : List Nat} (ok : Ok K F G H (wipe σ vs) (wipeR ρ vs)) : Ok K F G H σ (wipeR ρ vs) := by
  have hl := ok.len
  rw [wipe_length, wipeR_len] at hl
  refine ok.part (by rw [wipeR_len]; exact hl) fun i x h n => ⟨h, ?_⟩
  have hv : i ∉ vs := fun hv => by
    have il : i < ρ.length := by
      have := (List.getElem?_eq_some_iff.mp h).1
      rw [wipeR_len] at this
      exact this
    rw [wipeR_in hv il] at h
    cases h
    exact n rfl
  exact (wipe_out hv).symm
theorem wipeR_idem {ρ : Rho} {vs : List Nat} : wipeR (wipeR ρ vs) vs = wipeR ρ vs := by
  apply List.ext_getElem?
  intro i
  by_cases hi : i < ρ.length
  · by_cases hv : i ∈ vs
    · rw [wipeR_in hv (by rw [wipeR_len]; exact hi), wipeR_in hv hi]
    · rw [wipeR_out hv]
  · rw [List.getElem?_eq_none (by rw [wipeR_len, wipeR_len]; omega), List.getElem?_eq_none (by rw [wipeR_len]; omega)]
end
section
variable {X : Cx} {elt tg iter e : Expr} {pos : Pos}
theorem pts_imp {ifs : List Expr} {t t' : TT} (h : PTs X ifs t) (i : ∀ σ H Q, t' σ H Q → t σ H Q) : PTs X ifs t' := ⟨fun pins s σ H Q I q => h.run pins s σ H Q I (i σ H Q q)⟩
theorem ts_nil : PTs X [] (rdT X.K (ret true)) := pts_imp pts_nil fun σ H Q h => by
  obtain ⟨F, G, ρ, d, ρ', ok, hm, q⟩ := h
  cases hm
  exact q F H (Same.refl F) ok
theorem ts_one {c : Expr} {m : M Bool} (h : PT X c (rdT X.K m)) : PTs X [c] (rdT X.K m) := pts_one h
theorem lc_reads {K : Kf} {n : Nat} {vs : List Nat} {m : M (List D)} {t : D → Rho → Option Rho} {mc : M Bool} {me : M D} {σ : L2.St} {H : Hp} {Q : VK} (hn : σ.length = n) (h : rdN K (lcM m vs t mc me) σ H Q) : tLc (rdI K m) (rdG K (prC n vs) t) (rdT K mc) (rdV K me) vs σ H Q := by
  obtain ⟨F, G, ρ, b, ρ', ok, hm, q⟩ := h
  obtain ⟨xs, ρ1, h1, h2⟩ := bnd_some hm
  obtain ⟨u, ρ2, h3, h4⟩ := bnd_some h2
  cases h3
  obtain ⟨ds, ρ3, h5, h6⟩ := bnd_some h4
  by_cases hz : fitS ds.length = true
  · rw [if_pos hz] at h6
    cases h6
    have hz := of_decide_eq_true hz
    refine ⟨F, G, ρ, xs, ρ1, ok, h1, fun J F1 H1 s1 ok1 feed Dl hD => ?_⟩
    have gD : G Dl = none := Same.free ok1.gsub hD
    refine ⟨fun i k H2 => ∃ F2 ρ2 acc avs rest, k + i = xs.length ∧ Same F1 F2 ∧ Ok K F2 (upd G Dl (.lst avs)) H2 (wipe σ vs) (wipeR ρ2 vs) ∧ Rps K F2 acc avs ∧ lcL vs t mc me (xs.drop i) (wipeR ρ2 vs) = some (rest, ρ') ∧ acc ++ rest = ds,
      ⟨xs.length, F1, ρ1, [], [], ds, by omega, Same.refl _, (ok1.hide hD).wiped, rfl, by rw [List.drop_zero]; exact h5, rfl⟩, ?_⟩
    rintro i k H2 ⟨F2, ρ2, acc, avs, rest, hk, s2, ok2, racc, h7, hds⟩
    obtain ⟨go, stop⟩ := feed i F2 H2 s2 ok2.sub
    by_cases hlt : i < xs.length
    · obtain ⟨hgo, hy⟩ := go xs[i] (List.getElem?_eq_getElem hlt)
      refine .inr ⟨hgo, fun H' => ∃ F2 ρ2 acc avs rest, Same F1 F2 ∧ Ok K F2 (upd G Dl (.lst avs)) H' (wipe σ vs) (wipeR ρ2 vs) ∧ Rps K F2 acc avs ∧ lcL vs t mc me (xs.drop (i + 1)) (wipeR ρ2 vs) = some (rest, ρ') ∧ acc ++ rest = ds,
        fun H' ⟨F2, ρ2, acc, avs, rest, z⟩ => ⟨k - 1, by omega, F2, ρ2, acc, avs, rest, by omega, z⟩, fun x H3 y => ?_⟩
      obtain ⟨F3, s3, t3, u3, n3, r3⟩ := hy x H3 y
      have ok3 := ok2.ge s3 t3 u3 n3
      rw [drop_cons hlt] at h7
      have h7 : (match t xs[i] (wipeR ρ2 vs) with
        | some ρ1 => bnd mc (fun k => if k then bnd me fun d => bnd (wipeM vs) fun _ => bnd (lcL vs t mc me (xs.drop (i + 1))) fun ds => ret (d :: ds) else bnd (wipeM vs) fun _ => lcL vs t mc me (xs.drop (i + 1))) ρ1
        | none => none) = some (rest, ρ') := h7
      split at h7
      · rename_i ρ4 ht
        obtain ⟨kb, ρ5, h8, h9⟩ := bnd_some h7
        refine ⟨F3, _, _, xs[i], ρ4, ok3, r3, ht, fun σ4 F4 H4 s4 ok4 p4 => ⟨wipe_pr hn p4, F4, _, ρ4, kb, ρ5, ok4, h8, fun F5 H5 s5 ok5 => ?_⟩⟩
        have hw : wipe σ4 vs = wipe σ vs := wipe_pr hn p4
        cases kb with
        | false =>
          have h9 : bnd (wipeM vs) (fun _ => lcL vs t mc me (xs.drop (i + 1))) ρ5 = some (rest, ρ') := h9
          obtain ⟨_, ρ6, h10, h11⟩ := bnd_some h9
          cases h10
          refine iteF ⟨F5, ρ5, acc, avs, rest, (s2.trans (s3.trans s4)).trans s5, ?_, Rps.mono ((s3.trans s4).trans s5) _ _ racc, h11, hds⟩
          have := ok5.wiped (vs := vs)
          rw [hw] at this
          exact this
        | true =>
          obtain ⟨d, ρ6, h10, h11⟩ := bnd_some h9
          obtain ⟨_, ρ7, h12, h13⟩ := bnd_some h11
          cases h12
          obtain ⟨ds', ρ8, h14, h15⟩ := bnd_some h13
          cases h15
          refine iteT ⟨F5, _, ρ5, d, ρ6, ok5, h10, fun yv F6 H6 s6 ok6 r6 => ?_⟩
          have hl : acc.length + (ds'.length + 1) = ds.length := by rw [← hds, List.length_append, List.length_cons]
          refine ⟨avs, ok6.gsub _ _ upd_same, by rw [racc.length]; omega, F6, ρ6, acc ++ [d], avs ++ [yv], ds', ((s2.trans (s3.trans s4)).trans s5).trans s6, ?_, ?_, h14, by rw [List.append_assoc]; exact hds⟩
          · have := ok6.wiped (vs := vs)
            rw [hw] at this
            exact this.ghost
          · exact (Rps.mono (((s3.trans s4).trans s5).trans s6) _ _ racc).append ⟨yv, [], rfl, r6, rfl⟩
      · cases h7
    · have e : i = xs.length := by omega
      subst e
      rw [List.drop_of_length_le (Nat.le_refl _)] at h7
      cases h7
      rw [List.append_nil] at hds
      subst hds
      obtain ⟨ok4, n4⟩ := ok2.unwiped.unhide gD
      exact .inl ⟨stop rfl, q Dl F2 H2 (s1.trans s2) ok4 n4 ⟨avs, ok2.gsub _ _ upd_same, racc⟩⟩
  · rw [if_neg hz] at h6
    cases h6
theorem pe_impL {t t' : TE} (h : PE X e t) (i : ∀ σ H Q, σ.length = X.N.length → t' σ H Q → t σ H Q) : PE X e t' := ⟨fun pins s σ H Q I q => h.run pins s σ H Q I (i σ H Q I.len q)⟩
theorem ps_impL {st : Stmt} {t t' : TS} (h : PS X st t) (i : ∀ E σ H, σ.length = X.N.length → t' E σ H → t E σ H) : PS X st t' := ⟨fun pins s σ H E I q => h.run pins s σ H E I (i E σ H I.len q)⟩
theorem n_lc {ifs : List Expr} {scope : Scope} {n : Nat} {vs : List Nat} {m : M (List D)} {t : D → Rho → Option Rho} {mc : M Bool} {me : M D} (own : List (Str × Nat)) (hvs : own.map (·.2) = vs) (hNl : X.N.length = n) (hc : X.calm = true) (hN : X.N.Nodup) (hi : PI X tg iter (rdI X.K m)) (ok : BlkOk X.N X.env.scope scope own)
    (hg : ∀ (s : Shared) (H : Hp) (C : Addr) (cl : List (Str × Addr)) (fp : List Addr), PG (X.blk s H scope (compEnvC scope cl C X.env) fp) tg (rdG X.K (prC n vs) t)) (ht : ∀ (s : Shared) (H : Hp) (C : Addr) (cl : List (Str × Addr)) (fp : List Addr), PTs (X.blk s H scope (compEnvC scope cl C X.env) fp) ifs (rdT X.K mc))
    (he : ∀ (s : Shared) (H : Hp) (C : Addr) (cl : List (Str × Addr)) (fp : List Addr), PE (X.blk s H scope (compEnvC scope cl C X.env) fp) elt (rdV X.K me)) (hs : ∀ x, foldedSetIterable iter X.env x = pure x := by intro _; rfl) :
    PE X (.ListComp elt [⟨tg, iter, ifs, 0⟩] scope pos) (rdN X.K (lcM m vs t mc me)) := by
  subst hvs hNl
  exact pe_impL (pe_lc hc hN hi ok hg ht he hs) fun σ H Q hl h => lc_reads hl h
/-- y = [..], y a local -/
theorem s_setLcN (i : Nat) {y : Str} {py : Pos} {ifs : List Expr} {scope : Scope} {n : Nat} {pr vs : List Nat} {m : M (List D)} {t : D → Rho → Option Rho} {mc : M Bool} {me : M D} {spos : Pos} (hp : i ∉ pr) (own : List (Str × Nat)) (hvs : own.map (·.2) = vs) (hNl : X.N.length = n) (hc : X.calm = true) (hN : X.N.Nodup) (hy : X.N[i]? = some y) (hyl : X.env.scope.names.lookup y = some .local)
    (hsw : swapsWith (.ListComp elt [⟨tg, iter, ifs, 0⟩] scope pos) (some (.Name y py)) spos.line X.env = pure true) (hi : PI X tg iter (rdI X.K m)) (ok : BlkOk X.N X.env.scope scope own)
    (hg : ∀ (s : Shared) (H : Hp) (C : Addr) (cl : List (Str × Addr)) (fp : List Addr), PG (X.blk s H scope (compEnvC scope cl C X.env) fp) tg (rdG X.K (prC n vs) t)) (ht : ∀ (s : Shared) (H : Hp) (C : Addr) (cl : List (Str × Addr)) (fp : List Addr), PTs (X.blk s H scope (compEnvC scope cl C X.env) fp) ifs (rdT X.K mc))
    (he : ∀ (s : Shared) (H : Hp) (C : Addr) (cl : List (Str × Addr)) (fp : List Addr), PE (X.blk s H scope (compEnvC scope cl C X.env) fp) elt (rdV X.K me)) (hs : ∀ x, foldedSetIterable iter X.env x = pure x := by intro _; rfl) :
    PS X (.Assign [.Name y py] (.ListComp elt [⟨tg, iter, ifs, 0⟩] scope pos) spos) (rdS X.K pr (setNM i (lcM m vs t mc me))) := by
  subst hvs hNl
  refine ps_impL (ps_setLc hc hN hy hyl hsw hi ok hg ht he hs) fun E σ H hl h => ?_
  obtain ⟨F, G, ρ, fl, ρ', ok, hm, w⟩ := h
  obtain ⟨b, ρ1, h1, h2⟩ := bnd_some hm
  cases h2
  exact lc_reads hl ⟨F, G, ρ, b, ρ1, ok, h1, fun p F1 H1 s1 ok1 n1 o1 => w _ F1 H1 s1 (ok1.putO n1 o1) (Pr.set hp)⟩
theorem s_setLc (i : Nat) {y : Str} {py : Pos} {ifs : List Expr} {scope : Scope} {n : Nat} {pr vs : List Nat} {m : M (List D)} {t : D → Rho → Option Rho} {mc : M Bool} {me : M D} {spos : Pos} (hp : i ∉ pr) (own : List (Str × Nat)) (hvs : own.map (·.2) = vs) (hNl : X.N.length = n) (hc : X.calm = true) (hN : X.N.Nodup) (hy : X.N[i]? = some y) (hyl : X.env.scope.names.lookup y = some .local)
    (hsw : swapsWith (.ListComp elt [⟨tg, iter, ifs, 0⟩] scope pos) (some (.Name y py)) spos.line X.env = pure true) (hi : PI X tg iter (rdI X.K m)) (ok : BlkOk X.N X.env.scope scope own)
    (hg : ∀ (s : Shared) (H : Hp) (C : Addr) (cl : List (Str × Addr)) (fp : List Addr), PG (X.blk s H scope (compEnvC scope cl C X.env) fp) tg (rdG X.K (prC n vs) t)) (ht : ∀ (s : Shared) (H : Hp) (C : Addr) (cl : List (Str × Addr)) (fp : List Addr), PTs (X.blk s H scope (compEnvC scope cl C X.env) fp) ifs (rdT X.K mc))
    (he : ∀ (s : Shared) (H : Hp) (C : Addr) (cl : List (Str × Addr)) (fp : List Addr), PE (X.blk s H scope (compEnvC scope cl C X.env) fp) elt (rdV X.K me)) (hs : ∀ x, foldedSetIterable iter X.env x = pure x := by intro _; rfl) :
    PS X (.Assign [.Name y py] (.ListComp elt [⟨tg, iter, ifs, 0⟩] scope pos) spos) (rdS X.K pr (asgM (frzM (lcM m vs t mc me)) (nameT i))) := by
  subst hvs hNl
  refine ps_impL (ps_setLc hc hN hy hyl hsw hi ok hg ht he hs) fun E σ H hl h => ?_
  obtain ⟨F, G, ρ, fl, ρ', ok, hm, w⟩ := h
  obtain ⟨d, ρ1, h1, h2, rfl⟩ := asg_some hm
  cases h2
  obtain ⟨b, ρ2, h3, h4⟩ := bnd_some h1
  cases b with
  | lst xs =>
    cases h4
    refine lc_reads hl ⟨F, G, ρ, _, _, ok, h3, fun p F1 H1 s1 ok1 n1 o1 => ?_⟩
    obtain ⟨vs, h5, h6⟩ := o1
    obtain ⟨s2, ok2⟩ := ok1.freeze h5 n1
    exact w _ _ H1 (s1.trans s2) (ok2.putV ⟨p, vs, rfl, upd_same, Rps.mono s2 _ _ h6⟩) (Pr.set hp)
  | dk _ => cases h4
  | dt _ => cases h4
  | dd kvs =>
    exfalso
    obtain ⟨xs, ρ3, g1, g2⟩ := bnd_some h3
    obtain ⟨_, ρ4, g3, g4⟩ := bnd_some g2
    obtain ⟨ds, ρ5, g5, g6⟩ := bnd_some g4
    split at g6
    · cases g6
    · cases g6
end
/-! ### calls -/
abbrev Fn := List Sl → Option (Sl × List Sl)
def ResOk (K : Kf) (F G H : Hp) (σ : L2.St) (ρ : Rho) (v : V) : Sl → Prop
  | .v d => Rp K F d v
  | .o b => ∃ p, v = .ref p ∧ New K F G H σ ρ p ∧ OwnAt K F H p b
  | .t q => NewT K F G H σ ρ q v
  | _ => False
/-- the promise of a def whose mirror is f -/
def Prm (K : Kf) (n : Nat) (f : Fn) : Sp := fun vs H Q _ => vs.length = n ∧ ∃ F G args r args', Ok K F G H (vs.map some) args ∧ f args = some (r, args') ∧ ∀ v F' H', Same F F' → Ok K F' G H' (vs.map some) args' → ResOk K F' G H' (vs.map some) args' v r → Q v H'
def argsR (ρ : Rho) : List Rf → Option (List Sl)
  | [] => some []
  | .val d :: rs => (argsR ρ rs).map fun as => .v d :: as
  | .slot i :: rs => match ρ[i]? with
    | some (.o b) => (argsR ρ rs).map fun as => .o b :: as
    | some (.s ns) => (argsR ρ rs).map fun as => .s ns :: as
    | some (.t q) => (argsR ρ rs).map fun as => .t q :: as
    | _ => none
def slotsR : List Rf → List Nat
  | [] => []
  | .val _ :: rs => slotsR rs
  | .slot i :: rs => i :: slotsR rs
def backR : List Rf → List Sl → Rho → Rho
  | .slot i :: rs, a :: as, ρ => backR rs as (ρ.set i a)
  | .val _ :: rs, _ :: as, ρ => backR rs as ρ
  | _, _, ρ => ρ
def callM (f : Fn) (m : M (List Rf)) : M Sl := bnd m fun rs => fun ρ => match argsR ρ rs with
  | some args => if (slotsR rs).Nodup then (match f args with
    | some (r, args') => some (r, backR rs args' ρ)
    | none => none) else none
  | none => none
def valS (m : M Sl) : M D := bnd m fun s => match s with
  | .v d => ret d
  | .o (.lst xs) => ret (.list xs)
  | _ => fun _ => none
def ownS (m : M Sl) : M Own := bnd m fun s => match s with
  | .o b => ret b
  | _ => fun _ => none
section
variable {K : Kf} {F F' G H H' : Hp} {σ σ' : L2.St} {ρ ρ' : Rho}
theorem argsR_get : ∀ {rs : List Rf} {as : List Sl} {k : Nat} {a : Sl}, argsR ρ rs = some as → as[k]? = some a → (∃ d, rs[k]? = some (.val d) ∧ a = .v d) ∨ ∃ i, rs[k]? = some (.slot i) ∧ ρ[i]? = some a ∧ ((∃ t, a.tr = some t) ∨ ∃ ns, a = .s ns)
  | [], _, k, a, h, e => by cases h; simp at e
  | .val d :: rs, as, k, a, h, e => by
    cases hr : argsR ρ rs with
    | none => simp [argsR, hr] at h
    | some bs =>
      simp [argsR, hr] at h
      subst h
      cases k with
      | zero => simp at e; subst e; exact .inl ⟨d, rfl, rfl⟩
      | succ k =>
        have := argsR_get (k := k) hr (by simpa using e)
        simpa using this
  | .slot i :: rs, as, k, a, h, e => by
    have key : ∀ x : Sl, ρ[i]? = some x → ((∃ t, x.tr = some t) ∨ ∃ ns, x = .s ns) → ((argsR ρ rs).map fun as => x :: as) = some as → (∃ d, (Rf.slot i :: rs)[k]? = some (.val d) ∧ a = .v d) ∨ ∃ i', (Rf.slot i :: rs)[k]? = some (.slot i') ∧ ρ[i']? = some a ∧ ((∃ t, a.tr = some t) ∨ ∃ ns, a = .s ns) := fun x hx hk h => by
      cases hr : argsR ρ rs with
      | none => rw [hr] at h; cases h
      | some bs =>
        rw [hr] at h
        cases h
        cases k with
        | zero => simp at e; subst e; exact .inr ⟨i, rfl, hx, hk⟩
        | succ k =>
          have := argsR_get (k := k) hr (by simpa using e)
          simpa using this
    unfold argsR at h
    split at h
    · rename_i b hb
      exact key _ hb (.inl ⟨_, rfl⟩) h
    · rename_i b hb
      exact key _ hb (.inr ⟨_, rfl⟩) h
    · rename_i b hb
      exact key _ hb (.inl ⟨_, rfl⟩) h
    · cases h
theorem argsR_len : ∀ {rs : List Rf} {as : List Sl}, argsR ρ rs = some as → as.length = rs.length
  | [], _, h => by cases h; rfl
  | .val d :: rs, as, h => by
    cases hr : argsR ρ rs with
    | none => simp [argsR, hr] at h
    | some bs => simp [argsR, hr] at h; subst h; simp [argsR_len hr]
  | .slot i :: rs, as, h => by
    unfold argsR at h
    split at h
    · cases hr : argsR ρ rs with
      | none => rw [hr] at h; cases h
      | some bs => rw [hr] at h; cases h; simp [argsR_len hr]
    · cases hr : argsR ρ rs with
      | none => rw [hr] at h; cases h
      | some bs => rw [hr] at h; cases h; simp [argsR_len hr]
    · cases hr : argsR ρ rs with
      | none => rw [hr] at h; cases h
      | some bs => rw [hr] at h; cases h; simp [argsR_len hr]
    · cases h
theorem slotsR_mem : ∀ {rs : List Rf} {i : Nat}, i ∈ slotsR rs ↔ ∃ k : Nat, rs[k]? = some (.slot i)
  | [], i => by simp [slotsR]
  | .val d :: rs, i => by
    have ih := slotsR_mem (rs := rs) (i := i)
    show i ∈ slotsR rs ↔ _
    rw [ih]
    constructor
    · rintro ⟨k, h⟩; exact ⟨k + 1, by simpa using h⟩
    · rintro ⟨k, h⟩
      cases k with
      | zero => simp at h
      | succ k => exact ⟨k, by simpa using h⟩
  | .slot j :: rs, i => by
    have ih := slotsR_mem (rs := rs) (i := i)
    show i ∈ j :: slotsR rs ↔ _
    rw [List.mem_cons, ih]
    constructor
    · rintro (rfl | ⟨k, h⟩)
      · exact ⟨0, rfl⟩
      · exact ⟨k + 1, by simpa using h⟩
    · rintro ⟨k, h⟩
      cases k with
      | zero => simp at h; exact .inl h.symm
      | succ k => exact .inr ⟨k, by simpa using h⟩
theorem slotsR_inj : ∀ {rs : List Rf} {i k l : Nat}, (slotsR rs).Nodup → rs[k]? = some (.slot i) → rs[l]? = some (.slot i) → k = l
  | [], _, _, _, _, h, _ => by simp at h
  | .val d :: rs, i, k, l, nd, h, g => by
    cases k with
    | zero => simp at h
    | succ k =>
      cases l with
      | zero => simp at g
      | succ l => rw [slotsR_inj (k := k) (l := l) (show (slotsR rs).Nodup from nd) (by simpa using h) (by simpa using g)]
  | .slot j :: rs, i, k, l, nd, h, g => by
    have nd : (j :: slotsR rs).Nodup := nd
    rw [List.nodup_cons] at nd
    cases k with
    | zero =>
      cases l with
      | zero => rfl
      | succ l =>
        simp at h
        subst h
        exact absurd (slotsR_mem.mpr ⟨l, by simpa using g⟩) nd.1
    | succ k =>
      cases l with
      | zero =>
        simp at g
        subst g
        exact absurd (slotsR_mem.mpr ⟨k, by simpa using h⟩) nd.1
      | succ l => rw [slotsR_inj (k := k) (l := l) nd.2 (by simpa using h) (by simpa using g)]
theorem backR_out : ∀ {rs : List Rf} {as : List Sl} {ρ : Rho} {i : Nat}, i ∉ slotsR rs → (backR rs as ρ)[i]? = ρ[i]?
  | [], _, _, _, _ => by simp [backR]
  | .val d :: rs, [], _, _, _ => by simp [backR]
  | .slot j :: rs, [], _, _, _ => by simp [backR]
  | .val d :: rs, a :: as, ρ, i, h => backR_out (rs := rs) (as := as) h
  | .slot j :: rs, a :: as, ρ, i, h => by
    have h : i ∉ j :: slotsR rs := h
    rw [List.mem_cons, not_or] at h
    have := backR_out (rs := rs) (as := as) (ρ := ρ.set j a) h.2
    rw [show (backR (.slot j :: rs) (a :: as) ρ) = backR rs as (ρ.set j a) from rfl, this, List.getElem?_set_ne fun e => h.1 e.symm]
theorem backR_len : ∀ {rs : List Rf} {as : List Sl} {ρ : Rho}, (backR rs as ρ).length = ρ.length
  | [], _, _ => by simp [backR]
  | .val d :: rs, [], _ => by simp [backR]
  | .slot j :: rs, [], _ => by simp [backR]
  | .val d :: rs, a :: as, ρ => backR_len (rs := rs) (as := as)
  | .slot j :: rs, a :: as, ρ => by
    rw [show (backR (.slot j :: rs) (a :: as) ρ) = backR rs as (ρ.set j a) from rfl, backR_len, List.length_set]
theorem backR_in : ∀ {rs : List Rf} {as : List Sl} {ρ : Rho} {i k : Nat}, (slotsR rs).Nodup → as.length = rs.length → rs[k]? = some (.slot i) → i < ρ.length → (backR rs as ρ)[i]? = as[k]?
  | [], _, _, _, _, _, _, h, _ => by simp at h
  | .val d :: rs, [], _, _, _, _, hl, _, _ => by simp at hl
  | .slot j :: rs, [], _, _, _, _, hl, _, _ => by simp at hl
  | .val d :: rs, a :: as, ρ, i, k, nd, hl, h, hi => by
    cases k with
    | zero => simp at h
    | succ k =>
      have := backR_in (rs := rs) (as := as) (ρ := ρ) (i := i) (k := k) nd (by simpa using hl) (by simpa using h) hi
      exact this.trans (by simp)
  | .slot j :: rs, a :: as, ρ, i, k, nd, hl, h, hi => by
    have nd : (j :: slotsR rs).Nodup := nd
    rw [List.nodup_cons] at nd
    rw [show (backR (.slot j :: rs) (a :: as) ρ) = backR rs as (ρ.set j a) from rfl]
    cases k with
    | zero =>
      simp at h
      subst h
      rw [backR_out nd.1, List.getElem?_set_self hi]
      rfl
    | succ k =>
      have := backR_in (rs := rs) (as := as) (ρ := ρ.set j a) (i := i) (k := k) nd.2 (by simpa using hl) (by simpa using h) (by rw [List.length_set]; exact hi)
      exact this.trans (by simp)
theorem RfsOk.get : ∀ {rs : List Rf} {vs : List V} {k : Nat} {r : Rf}, RfsOk K F σ rs vs → rs[k]? = some r → ∃ v, vs[k]? = some v ∧ RfOk K F σ v r
  | [], _, _, _, _, e => by simp at e
  | r :: rs, _, 0, _, h, e => by
    obtain ⟨v, ws, rfl, h1, h2⟩ := h
    simp at e
    subst e
    exact ⟨v, rfl, h1⟩
  | r :: rs, _, k + 1, _, h, e => by
    obtain ⟨v, ws, rfl, h1, h2⟩ := h
    obtain ⟨w, hw, q⟩ := RfsOk.get (k := k) h2 (by simpa using e)
    exact ⟨w, by simpa using hw, q⟩
theorem RfsOk.length : ∀ {rs : List Rf} {vs : List V}, RfsOk K F σ rs vs → vs.length = rs.length
  | [], _, h => by cases h; rfl
  | r :: rs, _, h => by
    obtain ⟨v, ws, rfl, h1, h2⟩ := h
    show ws.length + 1 = rs.length + 1
    rw [RfsOk.length h2]
theorem RfsOk.mono (e : Same F F') : ∀ {rs : List Rf} {vs : List V}, RfsOk K F σ rs vs → RfsOk K F' σ rs vs
  | [], _, h => h
  | r :: rs, _, h => by
    obtain ⟨v, ws, rfl, h1, h2⟩ := h
    exact ⟨v, ws, rfl, h1.mono e, RfsOk.mono e h2⟩
/-- a is an address of the own tree in slot i -/
def OfSlot (K : Kf) (F H : Hp) (σ : L2.St) (ρ : Rho) (i : Nat) (a : Addr) : Prop := ∃ x t v as, ρ[i]? = some x ∧ x.tr = some t ∧ σ[i]? = some (some v) ∧ TrAt K F H t v as ∧ a ∈ as
open Classical in
/-- what a caller hides from its callee: its own hidden objects, and the own objects of slots that are not handed on -/
noncomputable def hidG (K : Kf) (F G H : Hp) (σ : L2.St) (ρ : Rho) (ss : List Nat) : Hp := fun a => if (G a).isSome then G a else if ∃ i, i ∉ ss ∧ OfSlot K F H σ ρ i a then H a else none
theorem hidG_G {ss : List Nat} {a : Addr} {o : HO} (h : G a = some o) : hidG K F G H σ ρ ss a = some o := by
  unfold hidG
  rw [if_pos (by rw [h]; rfl)]
  exact h
theorem hidG_own {ss : List Nat} {a : Addr} {i : Nat} (hg : G a = none) (hi : i ∉ ss) (h1 : OfSlot K F H σ ρ i a) : hidG K F G H σ ρ ss a = H a := by
  unfold hidG
  rw [if_neg (by rw [hg]; simp), if_pos ⟨i, hi, h1⟩]
theorem hidG_cases {ss : List Nat} {a : Addr} {o : HO} (h : hidG K F G H σ ρ ss a = some o) : G a = some o ∨ (G a = none ∧ H a = some o ∧ ∃ i, i ∉ ss ∧ OfSlot K F H σ ρ i a) := by
  unfold hidG at h
  split at h
  · exact .inl h
  · rename_i hg
    split at h
    · rename_i hx
      refine .inr ⟨?_, h, hx⟩
      cases hq : G a with
      | none => rfl
      | some u => rw [hq] at hg; exact absurd rfl hg
    · cases h
theorem Ok.ofSlot (ok : Ok K F G H σ ρ) {i : Nat} {a : Addr} (h : OfSlot K F H σ ρ i a) : F a = none ∧ G a = none := by
  obtain ⟨x, t, v, as, h1, h2, h3, h4, h5⟩ := h
  exact (ok.fp (K' := K) h1 h2 h3 h4).2 a h5
theorem Ok.ofTwo (ok : Ok K F G H σ ρ) {i j : Nat} {a : Addr} (h : OfSlot K F H σ ρ i a) (g : OfSlot K F H σ ρ j a) : i = j := by
  obtain ⟨x, t, v, as, h1, h2, h3, h4, h5⟩ := h
  obtain ⟨y, u, w, bs, g1, g2, g3, g4, g5⟩ := g
  by_cases e : i = j
  · exact e
  · obtain ⟨v', w', as', bs', a1, a2, a3, a4, a5⟩ := ok.apar i j x y t u e h1 h2 g1 g2
    rw [h3] at a1; cases a1
    rw [g3] at a2; cases a2
    rw [TrAt.det _ _ _ _ a3 h4, TrAt.det _ _ _ _ a4 g4] at a5
    exact absurd g5 (a5 a h5)
/-- the state in which a callee begins -/
theorem Ok.enter {rs : List Rf} {vs : List V} {args : List Sl} (ok : Ok K F G H σ ρ) (r : RfsOk K F σ rs vs) (ha : argsR ρ rs = some args) (nd : (slotsR rs).Nodup) : Ok K F (hidG K F G H σ ρ (slotsR rs)) H (vs.map some) args := by
  have hle : vs.length = rs.length := r.length
  have gv : ∀ {k : Nat} {v : V}, vs[k]? = some v → (vs.map some)[k]? = some (some v) := fun {k v} h => by rw [List.getElem?_map, h]; rfl
  have look : ∀ {k : Nat} {x : Sl} {t : Tr}, args[k]? = some x → x.tr = some t → ∃ l v, rs[k]? = some (.slot l) ∧ ρ[l]? = some x ∧ σ[l]? = some (some v) ∧ (vs.map some)[k]? = some (some v) := fun {k x t} g1 g2 => by
    rcases argsR_get ha g1 with ⟨d', k1, e⟩ | ⟨l, k1, k2, e⟩
    · rw [e] at g2; cases g2
    · obtain ⟨v, hv, rv⟩ := r.get k1
      exact ⟨l, v, k1, k2, rv, gv hv⟩
  refine ⟨ok.sub, fun a o h => ?_, fun a o h => ?_, by rw [List.length_map, hle, argsR_len ha], fun i d h => ?_, fun i x t h hx => ?_, fun i ns h => ?_, fun i j x y t u hij h1 h2 h3 h4 => ?_⟩
  · rcases hidG_cases h with h | ⟨_, h, _⟩
    · exact ok.gsub _ _ h
    · exact h
  · rcases hidG_cases h with h | ⟨_, _, i, hi, h1⟩
    · exact ok.disj _ _ h
    · exact (ok.ofSlot h1).1
  · rcases argsR_get ha h with ⟨d', h1, e⟩ | ⟨j, h1, h2, e⟩
    · cases e
      obtain ⟨v, hv, rv⟩ := r.get h1
      exact ⟨v, gv hv, rv⟩
    · rcases e with ⟨b, e⟩ | ⟨b, e⟩ <;> cases e
  · obtain ⟨l, v, k1, k2, k3, k4⟩ := look h hx
    obtain ⟨w, as, g1, g2, g3, g4⟩ := ok.hold l x t k2 hx
    rw [k3] at g1; cases g1
    refine ⟨v, as, k4, g2, g3, fun a hm => ⟨(g4 a hm).1, ?_⟩⟩
    cases hh : hidG K F G H σ ρ (slotsR rs) a with
    | none => rfl
    | some o =>
      rcases hidG_cases hh with h | ⟨_, _, i', hi, q⟩
      · rw [(g4 a hm).2] at h; cases h
      · have : l = i' := ok.ofTwo ⟨x, t, v, as, k2, hx, k3, g2, hm⟩ q
        exact absurd (slotsR_mem.mpr ⟨i, k1⟩) (this ▸ hi)
  · rcases argsR_get ha h with ⟨d', h1, e⟩ | ⟨j, h1, h2, e⟩
    · cases e
    · obtain ⟨v, hv, rv⟩ := r.get h1
      obtain ⟨a, g1, g2⟩ := ok.scr j ns h2
      have rv : σ[j]? = some (some v) := rv
      rw [g1] at rv
      cases rv
      exact ⟨a, gv hv, g2⟩
  · obtain ⟨l, v, a1, a2, a3, a4⟩ := look h1 h2
    obtain ⟨l', w, b1, b2, b3, b4⟩ := look h3 h4
    by_cases e : l = l'
    · subst e
      exact absurd (slotsR_inj nd a1 b1) hij
    · obtain ⟨v', w', as, bs, c1, c2, c3, c4, c5⟩ := ok.apar l l' x y t u e a2 h2 b2 h4
      rw [a3] at c1; cases c1
      rw [b3] at c2; cases c2
      exact ⟨v, w, as, bs, a4, b4, c3, c4, c5⟩
/-- the caller's state behind the call -/
theorem Ok.leave {rs : List Rf} {vs : List V} {args args' : List Sl} (ok : Ok K F G H σ ρ) (r : RfsOk K F σ rs vs) (ha : argsR ρ rs = some args) (nd : (slotsR rs).Nodup) (s : Same F F') (ok' : Ok K F' (hidG K F G H σ ρ (slotsR rs)) H' (vs.map some) args') :
    Ok K F' G H' σ (backR rs args' ρ) ∧ ∀ p, New K F' (hidG K F G H σ ρ (slotsR rs)) H' (vs.map some) args' p → New K F' G H' σ (backR rs args' ρ) p := by
  have hle : vs.length = rs.length := r.length
  have hla : args'.length = rs.length := by
    have := ok'.len
    rw [List.length_map] at this
    omega
  -- a slot's content behind the call
  have back : ∀ {i : Nat} {x : Sl}, (backR rs args' ρ)[i]? = some x → (∃ (k : Nat) (v : V), rs[k]? = some (.slot i) ∧ args'[k]? = some x ∧ vs[k]? = some v ∧ σ[i]? = some (some v) ∧ (vs.map some)[k]? = some (some v)) ∨ (i ∉ slotsR rs ∧ ρ[i]? = some x) := fun {i x} h => by
    by_cases hi : i ∈ slotsR rs
    · obtain ⟨k, hk⟩ := slotsR_mem.mp hi
      have il : i < ρ.length := by
        have := (List.getElem?_eq_some_iff.mp h).1
        rw [backR_len] at this
        exact this
      rw [backR_in nd hla hk il] at h
      obtain ⟨v, hv, rv⟩ := r.get hk
      exact .inl ⟨k, v, hk, h, hv, rv, by rw [List.getElem?_map, hv]; rfl⟩
    · rw [backR_out hi] at h
      exact .inr ⟨hi, h⟩
  have gG : ∀ {a : Addr}, hidG K F G H σ ρ (slotsR rs) a = none → G a = none := fun {a} h => by
    cases hq : G a with
    | none => rfl
    | some o => rw [hidG_G hq] at h; cases h
  -- what was hidden stands as it stood
  have keep : ∀ {i : Nat} {x : Sl} {t : Tr}, i ∉ slotsR rs → ρ[i]? = some x → x.tr = some t → ∃ v as, σ[i]? = some (some v) ∧ TrAt K F H t v as ∧ TrAt K F' H' t v as ∧ as.Nodup ∧ (∀ a ∈ as, F' a = none ∧ G a = none ∧ hidG K F G H σ ρ (slotsR rs) a ≠ none) := fun {i x t} hi hb hx => by
    obtain ⟨v, as, h1, h2, h3, h4⟩ := ok.hold i x t hb hx
    have hh : ∀ a ∈ as, ∃ o, H a = some o ∧ hidG K F G H σ ρ (slotsR rs) a = some o := fun a hm => by
      obtain ⟨o, ho⟩ := h2.some _ _ _ a hm
      exact ⟨o, ho, (hidG_own (h4 a hm).2 hi ⟨x, t, v, as, hb, hx, h1, h2, hm⟩).trans ho⟩
    refine ⟨v, as, h1, h2, h2.mono s _ _ _ fun a hm => ?_, h3, fun a hm => ?_⟩
    · obtain ⟨o, e1, e2⟩ := hh a hm
      exact (ok'.gsub _ _ e2).trans e1.symm
    · obtain ⟨o, e1, e2⟩ := hh a hm
      exact ⟨ok'.disj _ _ e2, (h4 a hm).2, by rw [e2]; simp⟩
  refine ⟨⟨ok'.sub, fun a o h => ok'.gsub _ _ (hidG_G h), fun a o h => ok'.disj _ _ (hidG_G h), by rw [backR_len]; exact ok.len, fun i d h => ?_, fun i x t h hx => ?_, fun i ns h => ?_, fun i j x y t u hij h1 h2 h3 h4 => ?_⟩, fun p n => ⟨n.f, gG n.g, fun i x t h hx => ?_⟩⟩
  · rcases back h with ⟨k, v, h1, h2, h3, h4, h5⟩ | ⟨hi, h⟩
    · obtain ⟨w, g1, g2⟩ := ok'.val k d h2
      rw [h5] at g1
      cases g1
      exact ⟨v, h4, g2⟩
    · obtain ⟨v, g1, g2⟩ := ok.val i d h
      exact ⟨v, g1, Rp.mono s _ _ g2⟩
  · rcases back h with ⟨k, v, h1, h2, h3, h4, h5⟩ | ⟨hi, h⟩
    · obtain ⟨w, as, g1, g2, g3, g4⟩ := ok'.hold k x t h2 hx
      rw [h5] at g1
      cases g1
      exact ⟨v, as, h4, g2, g3, fun a hm => ⟨(g4 a hm).1, gG (g4 a hm).2⟩⟩
    · obtain ⟨v, as, g1, g2, g3, g4, g5⟩ := keep hi h hx
      exact ⟨v, as, g1, g3, g4, fun a hm => ⟨(g5 a hm).1, (g5 a hm).2.1⟩⟩
  · rcases back h with ⟨k, v, h1, h2, h3, h4, h5⟩ | ⟨hi, h⟩
    · obtain ⟨p, g1, g2⟩ := ok'.scr k ns h2
      rw [h5] at g1
      cases g1
      exact ⟨p, h4, g2⟩
    · obtain ⟨p, g1, g2⟩ := ok.scr i ns h
      exact ⟨p, g1, s.seq g2⟩
  · rcases back h1 with ⟨k, v, k1, k2, k3, k4, k5⟩ | ⟨hi, h1⟩
    · obtain ⟨v', as, a1, a2, a3, a4⟩ := ok'.hold k x t k2 h2
      rw [k5] at a1; cases a1
      rcases back h3 with ⟨l, w, l1, l2, l3, l4, l5⟩ | ⟨hj, h3⟩
      · have e : k ≠ l := fun e => by
          subst e
          rw [k1] at l1
          exact hij (Rf.slot.inj (Option.some.inj l1))
        obtain ⟨v1, w1, as1, bs1, c1, c2, c3, c4, c5⟩ := ok'.apar k l x y t u e k2 h2 l2 h4
        rw [k5] at c1; cases c1
        rw [l5] at c2; cases c2
        exact ⟨_, _, as1, bs1, k4, l4, c3, c4, c5⟩
      · obtain ⟨w, bs, b1, b2, b3, b4, b5⟩ := keep hj h3 h4
        refine ⟨v, w, as, bs, k4, b1, a2, b3, fun a hm hb => ?_⟩
        exact (b5 a hb).2.2 (a4 a hm).2
    · obtain ⟨v, as, a1, a2, a3, a4, a5⟩ := keep hi h1 h2
      rcases back h3 with ⟨l, w, l1, l2, l3, l4, l5⟩ | ⟨hj, h3⟩
      · obtain ⟨w', bs, b1, b2, b3, b4⟩ := ok'.hold l y u l2 h4
        rw [l5] at b1; cases b1
        refine ⟨v, w, as, bs, a1, l4, a3, b2, fun a hm hb => ?_⟩
        exact (a5 a hm).2.2 (b4 a hb).2
      · obtain ⟨w, bs, b1, b2, b3, b4, b5⟩ := keep hj h3 h4
        obtain ⟨v', w', as', bs', c1, c2, c3, c4, c5⟩ := ok.apar i j x y t u hij h1 h2 h3 h4
        rw [a1] at c1; cases c1
        rw [b1] at c2; cases c2
        rw [TrAt.det _ _ _ _ c3 a2, TrAt.det _ _ _ _ c4 b2] at c5
        exact ⟨v, w, as, bs, a1, b1, a3, b3, c5⟩
  · rcases back h with ⟨k, v, h1, h2, h3, h4, h5⟩ | ⟨hi, h⟩
    · obtain ⟨w, as, g1, g2, g3⟩ := n.s k x t h2 hx
      rw [h5] at g1; cases g1
      exact ⟨v, as, h4, g2, g3⟩
    · obtain ⟨v, as, a1, a2, a3, a4, a5⟩ := keep hi h hx
      exact ⟨v, as, a1, a3, fun hm => (a5 p hm).2.2 n.g⟩
theorem Ok.leaveT {rs : List Rf} {vs : List V} {args args' : List Sl} {q : Tr} {v : V} (ok : Ok K F G H σ ρ) (r : RfsOk K F σ rs vs) (ha : argsR ρ rs = some args) (nd : (slotsR rs).Nodup) (s : Same F F') (ok' : Ok K F' (hidG K F G H σ ρ (slotsR rs)) H' (vs.map some) args') (n : NewT K F' (hidG K F G H σ ρ (slotsR rs)) H' (vs.map some) args' q v) :
    NewT K F' G H' σ (backR rs args' ρ) q v := by
  obtain ⟨as, h1, h2, h3⟩ := n
  exact ⟨as, h1, h2, fun a hm => (ok.leave r ha nd s ok').2 a (h3 a hm)⟩
end
end Fx
/-! Fx: calls of defs, defs. -/
namespace Fx
open PySem PySem.Spec PyProof.Rows L2
variable [Wd]
def nilC : M (List Rf) := ret []
def consC (m : M Rf) (n : M (List Rf)) : M (List Rf) := bnd m fun d => bnd n fun ds => ret (d :: ds)
/-- the place of slot i: own, the script, or data -/
def argM (i : Nat) : M Rf := fun ρ => match ρ[i]? with
  | some (.v d) => some (.val d, ρ)
  | some (.o _) => some (.slot i, ρ)
  | some (.s _) => some (.slot i, ρ)
  | some (.t _) => some (.slot i, ρ)
  | _ => none
section
variable {X : Cx} {e : Expr} {es : List Expr} {pos : Pos} {K : Kf}
theorem b_arg (i : Nat) {x : Str} {pos : Pos} (hN : X.N[i]? = some x := by rfl) (hv : Vis X.env.scope x := by first | exact Or.inl rfl | exact Or.inr (Or.inl rfl) | exact Or.inr (Or.inr rfl)) (hd : (x == ("__debug__" : Str)) = false := by decide)
    (hcd : (x == ("__classdict__" : Str)) = false := by decide) : PE X (.Name x pos) (rdB X.K (argM i)) := by
  refine pe_imp (pe_var hN hv hd hcd) fun σ H Q h => ?_
  obtain ⟨F, G, ρ, d, ρ', ok, hm, q⟩ := h
  unfold argM at hm
  split at hm
  · rename_i d' e
    cases hm
    obtain ⟨v, h1, h2⟩ := ok.val i _ e
    exact ⟨v, h1, q v F H (Same.refl F) ok h2⟩
  · rename_i b e
    cases hm
    obtain ⟨p, h1, h2, h3, h4⟩ := ok.own i _ e
    exact ⟨_, h1, q _ F H (Same.refl F) ok h1⟩
  · rename_i b e
    cases hm
    obtain ⟨p, h1, h2⟩ := ok.scr i _ e
    exact ⟨_, h1, q _ F H (Same.refl F) ok h1⟩
  · rename_i b e
    cases hm
    obtain ⟨v, as, h1, _⟩ := ok.hold i _ _ e rfl
    exact ⟨_, h1, q _ F H (Same.refl F) ok h1⟩
  · cases hm
theorem c_nil : PA X [] (rdC X.K nilC) := pa_imp pa_nil fun σ H Q h => by
  obtain ⟨F, G, ρ, d, ρ', ok, hm, q⟩ := h
  cases hm
  exact q _ F H (Same.refl F) ok rfl
theorem c_cons {m : M Rf} {n : M (List Rf)} (he : PE X e (rdB X.K m)) (hr : PA X es (rdC X.K n)) (hs : starEach (e :: es) X.env = (false, eval e X.env) :: starEach es X.env := by rfl) : PA X (e :: es) (rdC X.K (consC m n)) := by
  refine pa_imp (pa_cons he hr hs) fun σ H Q h => ?_
  obtain ⟨F, G, ρ, d, ρ', ok, hm, q⟩ := h
  obtain ⟨x, ρ1, h1, h2⟩ := bnd_some hm
  obtain ⟨xs, ρ2, h3, h4⟩ := bnd_some h2
  cases h4
  refine ⟨F, G, ρ, x, ρ1, ok, h1, fun v F1 H1 s1 ok1 r1 => ⟨F1, G, ρ1, xs, _, ok1, h3, fun vs F2 H2 s2 ok2 r2 => ?_⟩⟩
  exact q _ F2 H2 (s1.trans s2) ok2 ⟨v, vs, rfl, r1.mono s2, r2⟩
/-- a def that may be called: its mirror is f -/
structure Df (P : Program) (w : World) (K : Kf) (mg : Str → Option Value) (base : Heap) (k : Nat) (x : Str) (n : Nat) (f : Fn) : Prop where
  ex : ∃ fa fd ps, FnOk P w K mg base CX0 k fa fd ps (Prm K n f) ∧ mg x = some (.ref fa) ∧ PySem.W.keepIn K (.ref fa) = true ∧ Binds K fd ps []
  len : ∀ args r, f args = some r → args.length = n
/-- what a call reads -/
theorem call_reads {n : Nat} {f : Fn} {m : M (List Rf)} {E : XK} {σ : L2.St} {H : Hp} {Q : VK} (hlen : ∀ args r, f args = some r → args.length = n)
    (h : ∃ F G ρ r ρ', Ok K F G H σ ρ ∧ callM f m ρ = some (r, ρ') ∧ ∀ v F' H', Same F F' → Ok K F' G H' σ ρ' → ResOk K F' G H' σ ρ' v r → Q v H') : tCall (Prm K n f) [] E (rdC K m) σ H Q := by
  obtain ⟨F, G, ρ, r, ρ', ok, hm, q⟩ := h
  obtain ⟨rs, ρ1, h1, h2⟩ := bnd_some hm
  refine ⟨F, G, ρ, rs, ρ1, ok, h1, fun vs F1 H1 s1 ok1 r1 => ?_⟩
  have h2 : (match argsR ρ1 rs with
    | some args => if (slotsR rs).Nodup then (match f args with
      | some (r, args') => some (r, backR rs args' ρ1)
      | none => none) else none
    | none => none) = some (r, ρ') := h2
  split at h2
  · rename_i args ha
    split at h2
    · rename_i nd
      split at h2
      · rename_i r' args' hf
        cases h2
        show Prm K n f (vs ++ []) H1 Q E
        rw [List.append_nil]
        refine ⟨by rw [r1.length, ← hlen _ _ hf, argsR_len ha], F1, _, args, r, args', ok1.enter r1 ha nd, hf, fun v F2 H2 s2 ok2 hr => ?_⟩
        obtain ⟨ok3, hnew⟩ := ok1.leave r1 ha nd s2 ok2
        refine q v F2 H2 (s1.trans s2) ok3 ?_
        cases r with
        | v d => exact hr
        | o b =>
          obtain ⟨p, e, n, o⟩ := hr
          exact ⟨p, e, hnew p n, o⟩
        | u => exact hr
        | s _ => exact hr
        | t q => exact ok1.leaveT r1 ha nd s2 ok2 hr
      · cases h2
    · cases h2
  · cases h2
theorem pe_callX {P : Program} {k n : Nat} {x : Str} {f : Fn} {p : Pos} {t : TA} (D : Df X.prog X.w X.K X.mg X.base k x n f) (hr : Room k X.A) (hg : Gl X x) (ha : PA X (e :: es) t) (hdb : (x == ("__debug__" : Str)) = false := by decide)
    (he : starEach (e :: es) X.env = (false, eval e X.env) :: starEach es X.env := by rfl) (hpl : (backTo pos (starEach es X.env)).any (·.1) = false := by rfl) : PE X (.Call (.Name x p) (e :: es) [] pos) (tCall (Prm X.K n f) [] E0 t) := by
  obtain ⟨fa, fd, ps, F, hm, hk, hb⟩ := D.ex
  exact pe_call F hr hg hm hk hb .nil pass0 ha hdb he hpl
theorem pe_callX0 {P : Program} {k n : Nat} {x : Str} {f : Fn} {p : Pos} (D : Df X.prog X.w X.K X.mg X.base k x n f) (hr : Room k X.A) (hg : Gl X x) (hdb : (x == ("__debug__" : Str)) = false := by decide) : PE X (.Call (.Name x p) [] [] pos) (tCall (Prm X.K n f) [] E0 tNil) := by
  obtain ⟨fa, fd, ps, F, hm, hk, hb⟩ := D.ex
  exact pe_call0 F hr hg hm hk hb .nil pass0 hdb
theorem valS_reads {m : M Sl} {F G : Hp} {ρ ρ' : Rho} {d : D} (h : valS m ρ = some (d, ρ')) : ∃ r, m ρ = some (r, ρ') ∧ (r = .v d ∨ ∃ xs, r = .o (.lst xs) ∧ d = .list xs) := by
  obtain ⟨r, ρ1, h1, h2⟩ := bnd_some h
  cases r with
  | v d' => cases h2; exact ⟨_, h1, .inl rfl⟩
  | o b =>
    cases b with
    | lst xs => cases h2; exact ⟨_, h1, .inr ⟨xs, rfl, rfl⟩⟩
    | dk _ => cases h2
    | dt _ => cases h2
    | dd _ => cases h2
  | u => cases h2
  | s _ => cases h2
  | t _ => cases h2
theorem res_val {F G H : Hp} {σ : L2.St} {ρ : Rho} {v : V} {r : Sl} {d : D} {Q : VK} (ok : Ok K F G H σ ρ) (hr : ResOk K F G H σ ρ v r) (h : r = .v d ∨ ∃ xs, r = .o (.lst xs) ∧ d = .list xs) (q : ∀ F', Same F F' → Ok K F' G H σ ρ → Rp K F' d v → Q v H) : Q v H := by
  rcases h with rfl | ⟨xs, rfl, rfl⟩
  · exact q F (Same.refl F) ok hr
  · obtain ⟨p, rfl, n, vs, h1, h2⟩ := hr
    obtain ⟨s, ok'⟩ := ok.freeze h1 n
    exact q _ s ok' ⟨p, vs, rfl, upd_same, Rps.mono s _ _ h2⟩
theorem v_call {k n : Nat} {x : Str} {f : Fn} {p : Pos} {m : M (List Rf)} (D : Df X.prog X.w X.K X.mg X.base k x n f) (hr : Room k X.A) (hg : Gl X x) (ha : PA X (e :: es) (rdC X.K m)) (hdb : (x == ("__debug__" : Str)) = false := by decide)
    (he : starEach (e :: es) X.env = (false, eval e X.env) :: starEach es X.env := by rfl) (hpl : (backTo pos (starEach es X.env)).any (·.1) = false := by rfl) : PE X (.Call (.Name x p) (e :: es) [] pos) (rdV X.K (valS (callM f m))) := by
  refine pe_imp (pe_callX (P := X.prog) D hr hg ha hdb he hpl) fun σ H Q h => call_reads D.len ?_
  obtain ⟨F, G, ρ, d, ρ', ok, hm, q⟩ := h
  obtain ⟨r, h1, h2⟩ := valS_reads (F := F) (G := G) hm
  exact ⟨F, G, ρ, r, ρ', ok, h1, fun v F1 H1 s1 ok1 hr => res_val ok1 hr h2 fun F2 s2 ok2 r2 => q v F2 H1 (s1.trans s2) ok2 r2⟩
theorem n_call {k n : Nat} {x : Str} {f : Fn} {p : Pos} {m : M (List Rf)} (D : Df X.prog X.w X.K X.mg X.base k x n f) (hr : Room k X.A) (hg : Gl X x) (ha : PA X (e :: es) (rdC X.K m)) (hdb : (x == ("__debug__" : Str)) = false := by decide)
    (he : starEach (e :: es) X.env = (false, eval e X.env) :: starEach es X.env := by rfl) (hpl : (backTo pos (starEach es X.env)).any (·.1) = false := by rfl) : PE X (.Call (.Name x p) (e :: es) [] pos) (rdN X.K (ownS (callM f m))) := by
  refine pe_imp (pe_callX (P := X.prog) D hr hg ha hdb he hpl) fun σ H Q h => call_reads D.len ?_
  obtain ⟨F, G, ρ, d, ρ', ok, hm, q⟩ := h
  obtain ⟨r, ρ1, h1, h2⟩ := bnd_some hm
  cases r with
  | o b =>
    cases h2
    refine ⟨F, G, ρ, _, _, ok, h1, fun v F1 H1 s1 ok1 hr => ?_⟩
    obtain ⟨p, rfl, n1, o1⟩ := hr
    exact q p F1 H1 s1 ok1 n1 o1
  | _ => cases h2
theorem c_nil_imp {E : XK} {n : Nat} {f : Fn} {σ : L2.St} {H : Hp} {Q : VK} (h : tCall (Prm K n f) [] E (rdC K nilC) σ H Q) : True := trivial
theorem call0_reads {n : Nat} {f : Fn} {E : XK} {σ : L2.St} {H : Hp} {Q : VK} (hlen : ∀ args r, f args = some r → args.length = n)
    (h : ∃ F G ρ r ρ', Ok K F G H σ ρ ∧ callM f nilC ρ = some (r, ρ') ∧ ∀ v F' H', Same F F' → Ok K F' G H' σ ρ' → ResOk K F' G H' σ ρ' v r → Q v H') : tCall (Prm K n f) [] E tNil σ H Q := by
  obtain ⟨F, G, ρ, r, ρ', ok, hm, q⟩ := h
  obtain ⟨rs, ρ1, h1, h2⟩ := bnd_some hm
  cases h1
  have h2 : (match f [] with
      | some (r, args') => some (r, backR [] args' ρ)
      | none => none) = some (r, ρ') := h2
  split at h2
  · rename_i r' args' hf
    cases h2
    have nd : (slotsR []).Nodup := List.nodup_nil
    refine ⟨(hlen _ _ hf), F, _, [], r, args', ok.enter (rs := []) (vs := []) rfl rfl nd, hf, fun v F2 H2 s2 ok2 hr => ?_⟩
    obtain ⟨ok3, hnew⟩ := ok.leave (rs := []) (vs := []) (args := []) rfl rfl nd s2 ok2
    refine q v F2 H2 s2 ok3 ?_
    cases r with
    | v d => exact hr
    | o b =>
      obtain ⟨p, e, n, o⟩ := hr
      exact ⟨p, e, hnew p n, o⟩
    | u => exact hr
    | s _ => exact hr
    | t q => exact ok.leaveT (rs := []) (vs := []) (args := []) rfl rfl nd s2 ok2 hr
  · cases h2
theorem v_call0 {k n : Nat} {x : Str} {f : Fn} {p : Pos} (D : Df X.prog X.w X.K X.mg X.base k x n f) (hr : Room k X.A) (hg : Gl X x) (hdb : (x == ("__debug__" : Str)) = false := by decide) : PE X (.Call (.Name x p) [] [] pos) (rdV X.K (valS (callM f nilC))) := by
  refine pe_imp (pe_callX0 (P := X.prog) D hr hg hdb) fun σ H Q h => call0_reads D.len ?_
  obtain ⟨F, G, ρ, d, ρ', ok, hm, q⟩ := h
  obtain ⟨r, h1, h2⟩ := valS_reads (F := F) (G := G) hm
  exact ⟨F, G, ρ, r, ρ', ok, h1, fun v F1 H1 s1 ok1 hr => res_val ok1 hr h2 fun F2 s2 ok2 r2 => q v F2 H1 (s1.trans s2) ok2 r2⟩
theorem n_call0 {k n : Nat} {x : Str} {f : Fn} {p : Pos} (D : Df X.prog X.w X.K X.mg X.base k x n f) (hr : Room k X.A) (hg : Gl X x) (hdb : (x == ("__debug__" : Str)) = false := by decide) : PE X (.Call (.Name x p) [] [] pos) (rdN X.K (ownS (callM f nilC))) := by
  refine pe_imp (pe_callX0 (P := X.prog) D hr hg hdb) fun σ H Q h => call0_reads D.len ?_
  obtain ⟨F, G, ρ, d, ρ', ok, hm, q⟩ := h
  obtain ⟨r, ρ1, h1, h2⟩ := bnd_some hm
  cases r with
  | o b =>
    cases h2
    refine ⟨F, G, ρ, _, _, ok, h1, fun v F1 H1 s1 ok1 hr => ?_⟩
    obtain ⟨p, rfl, n1, o1⟩ := hr
    exact q p F1 H1 s1 ok1 n1 o1
  | _ => cases h2
end
/-! ### defs -/
/-- what the parameters hold behind a call: the protected ones alone are told -/
def outs (pr : List Nat) (np : Nat) (ρ : Rho) : List Sl := (List.range np).map fun i => if i ∈ pr then (ρ[i]?).getD .u else .u
def defM (nsl np : Nat) (pr : List Nat) (m : MS) : Fn := fun args => if args.length = np then (match m (args ++ List.replicate (nsl - np) .u) with
  | some (.nx, ρ) => some (.v .none, outs pr np ρ)
  | some (.rt (.v d), ρ) => some (.v d, outs pr np ρ)
  | some (.rt (.o b), ρ) => some (.o b, outs pr np ρ)
  | some (.rt (.t q), ρ) => some (.t q, outs pr np ρ)
  | _ => none) else none
theorem defM_len {nsl np : Nat} {pr : List Nat} {m : MS} : ∀ args r, defM nsl np pr m args = some r → args.length = np := fun args r h => by
  unfold defM at h
  split at h
  · rename_i e
    exact e
  · cases h
section
variable {K : Kf} {F F' G H H' : Hp} {σ σ' : L2.St} {ρ ρ' : Rho} {pr : List Nat} {np : Nat} {vs : List V}
theorem outs_get {i : Nat} {x : Sl} (h : (outs pr np ρ)[i]? = some x) : i < np ∧ (x = .u ∨ (i ∈ pr ∧ ρ[i]? = some x)) := by
  unfold outs at h
  rw [List.getElem?_map] at h
  cases hr : (List.range np)[i]? with
  | none => rw [hr] at h; cases h
  | some j =>
    rw [hr] at h
    obtain ⟨hi, hj⟩ := List.getElem?_eq_some_iff.mp hr
    rw [List.length_range] at hi
    rw [List.getElem_range] at hj
    subst hj
    refine ⟨hi, ?_⟩
    have h : (if i ∈ pr then (ρ[i]?).getD .u else .u) = x := Option.some.inj h
    by_cases hp : i ∈ pr
    · rw [if_pos hp] at h
      cases hq : ρ[i]? with
      | none => rw [hq] at h; exact .inl h.symm
      | some y =>
        rw [hq] at h
        exact .inr ⟨hp, by rw [← h]; rfl⟩
    · rw [if_neg hp] at h
      exact .inl h.symm
theorem outs_part (hs : ∀ i ∈ pr, i < np → σ[i]? = (vs.map some)[i]?) {i : Nat} {x : Sl} (h : (Fx.outs pr np ρ)[i]? = some x) (n : x ≠ .u) : ρ[i]? = some x ∧ (vs.map some)[i]? = σ[i]? := by
  obtain ⟨h1, h2⟩ := outs_get h
  rcases h2 with rfl | ⟨h2, h3⟩
  · exact absurd rfl n
  · exact ⟨h3, (hs i h2 h1).symm⟩
theorem Ok.outs (ok : Ok K F G H σ ρ) (hl : vs.length = np) (hs : ∀ i ∈ pr, i < np → σ[i]? = (vs.map some)[i]?) : Ok K F G H (vs.map some) (outs pr np ρ) ∧ ∀ p, New K F G H σ ρ p → New K F G H (vs.map some) (outs pr np ρ) p :=
  ⟨ok.part (by unfold Fx.outs; rw [List.length_map, List.length_map, List.length_range, hl]) fun i x h n => outs_part hs h n, fun p n => n.part fun i x h n => outs_part hs h n⟩
theorem Ok.start {N : List Str} {args : List Sl} (ok : Ok K F G H (vs.map some) args) (hl : vs.length ≤ N.length) : Ok K F G H (start N vs) (args ++ List.replicate (N.length - vs.length) .u) := by
  have hla : args.length = vs.length := by
    have := ok.len
    rw [List.length_map] at this
    exact this.symm
  refine ok.part ?_ fun i x h n => ?_
  · unfold L2.start
    rw [List.length_append, List.length_append, List.length_map, List.length_replicate, List.length_replicate, hla]
  · by_cases hi : i < args.length
    · rw [List.getElem?_append_left hi] at h
      refine ⟨h, ?_⟩
      unfold L2.start
      rw [List.getElem?_append_left (by rw [List.length_map]; omega)]
    · rw [List.getElem?_append_right (by omega), List.getElem?_replicate] at h
      split at h
      · cases h; exact absurd rfl n
      · cases h
end
/-- a def of the text, at its name -/
structure Tp (K : Kf) (mg : Str → Option Value) (x : Str) (st : Stmt) : Prop where
  ex : ∃ f fd, Fun K x x st f fd ∧ mg x = some (.ref f)
section
variable {P : Program} {w : World} {K : Kf} {mg : Str → Option Value} {base : Heap}
theorem fn_mk {x : Str} {st : Stmt} {f : Addr} {fd : FuncData} {N ps : List Str} {k nsl np : Nat} {pr : List Nat} {m : MS} (F : Fun K x x st f fd) (S : FnScope N ps (defScope st)) (hn : N.length = nsl) (hp : ps.length = np) (hpr : ∀ i ∈ pr, i < np)
    (hbody : ∀ (f : Addr) (cdv : Value) (A : Around) (outer : List Env) (s : Shared) (H : Hp) (E : XK), Room k (A.deeper (envOfC x (defScope st) s.heap.objs.size f cdv)) →
      PSs (cxOf CX0 P w K mg base N x (defScope st) f cdv A outer s H E).nox (defBody st) (rdS K pr m)) : FnOk P w K mg base CX0 (k + 1) f fd ps (Prm K np (defM nsl np pr m)) := by
  subst hn hp
  have hpl : ps.length ≤ N.length := by have := congrArg List.length S.pre; rw [List.length_take] at this; omega
  refine F.ok S (fun vs H Q E h => h.1) (fun cdv A outer s H vs Q E hr h => ⟨_, hbody f cdv A outer s H E hr, ?_⟩)
  obtain ⟨hl, F0, G, args, r, args', ok, hf, q⟩ := h
  unfold defM at hf
  have hla : args.length = ps.length := by
    have := ok.len
    rw [List.length_map, hl] at this
    exact this.symm
  rw [if_pos hla] at hf
  have hst : ∀ i ∈ pr, (L2.start N vs)[i]? = (vs.map some)[i]? := fun i hi => by
    unfold L2.start
    rw [List.getElem?_append_left (by rw [List.length_map, hl]; exact hpr i hi)]
  have ok0 := ok.start (N := N) (by rw [hl]; exact hpl)
  rw [hl] at ok0
  split at hf
  · rename_i ρ hm
    cases hf
    refine ⟨F0, G, _, .nx, ρ, ok0, hm, fun σ' F' H' s' ok' p' => ?_⟩
    obtain ⟨o1, o2⟩ := ok'.outs (pr := pr) hl (fun i hi _ => (p'.2 i hi).trans (hst i hi))
    exact q .non F' H' s' o1 rfl
  · rename_i d ρ hm
    cases hf
    refine ⟨F0, G, _, _, ρ, ok0, hm, fun v σ' F' H' s' ok' p' hr => ?_⟩
    obtain ⟨o1, o2⟩ := ok'.outs (pr := pr) hl (fun i hi _ => (p'.2 i hi).trans (hst i hi))
    exact q v F' H' s' o1 hr
  · rename_i d ρ hm
    cases hf
    refine ⟨F0, G, _, _, ρ, ok0, hm, fun v σ' F' H' s' ok' p' hn ho => ?_⟩
    obtain ⟨o1, o2⟩ := ok'.outs (pr := pr) hl (fun i hi _ => (p'.2 i hi).trans (hst i hi))
    exact q _ F' H' s' o1 ⟨v, rfl, o2 v hn, ho⟩
  · rename_i d ρ hm
    cases hf
    refine ⟨F0, G, _, _, ρ, ok0, hm, fun v σ' F' H' s' ok' p' hn => ?_⟩
    obtain ⟨o1, o2⟩ := ok'.outs (pr := pr) hl (fun i hi _ => (p'.2 i hi).trans (hst i hi))
    exact q _ F' H' s' o1 (hn.part fun i x h n => outs_part (fun i hi _ => (p'.2 i hi).trans (hst i hi)) h n)
  · cases hf
theorem df_mk {x : Str} {st : Stmt} {N ps : List Str} {k nsl np : Nat} {pr : List Nat} {m : MS} (T : Tp K mg x st) (S : FnScope N ps (defScope st)) (hn : N.length = nsl) (hp : ps.length = np) (hpr : ∀ i ∈ pr, i < np)
    (hbind : ∀ (kV doc pm : Value) (an : Option Addr) (cdv ct : Value) (us : List Value), us.length = ps.length → bindArgs (PySem.W.fnOf x x (defArgs st) (defBody st) (defScope st) .none kV doc pm an cdv ct) ⟨us, []⟩ = pure (ps.zip us))
    (hbody : ∀ (f : Addr) (cdv : Value) (A : Around) (outer : List Env) (s : Shared) (H : Hp) (E : XK), Room k (A.deeper (envOfC x (defScope st) s.heap.objs.size f cdv)) →
      PSs (cxOf CX0 P w K mg base N x (defScope st) f cdv A outer s H E).nox (defBody st) (rdS K pr m)) : Df P w K mg base (k + 1) x np (defM nsl np pr m) := by
  obtain ⟨f, fd, F, hm⟩ := T.ex
  exact ⟨⟨f, fd, ps, fn_mk F S hn hp hpr hbody, hm, F.kp, F.binds hbind⟩, defM_len⟩
theorem Df.mono {j k n : Nat} {x : Str} {f : Fn} (d : Df P w K mg base j x n f) (h : j ≤ k) : Df P w K mg base k x n f := by
  obtain ⟨fa, fd, ps, F, r⟩ := d.ex
  exact ⟨⟨fa, fd, ps, F.mono h, r⟩, d.len⟩
end
/-- a constant of the module -/
structure Kc (K : Kf) (mg : Str → Option Value) (x : Str) (d : D) : Prop where
  ex : ∃ v u, mg x = some u ∧ RelV v u ∧ ∀ F, Rp K F d v
theorem Kc.v {X : Cx} {x : Str} {d : D} {pos : Pos} (c : Kc X.K X.mg x d) (hg : Gl X x) (hdb : (x == ("__debug__" : Str)) = false := by decide) : PE X (.Name x pos) (rdV X.K (cM d)) := by
  obtain ⟨v, u, h1, h2, h3⟩ := c.ex
  exact v_glob hg h1 h2 h3 hdb
/-- a tuple of the module, by its items -/
theorem SqT.kt {K : Kf} {F : Hp} {a : Addr} {od : Option Addr} {its : Array Value} {n : Nat} {sl : Array (Option Value)} {xs : List V} (l : K.lookup a = some ⟨.type "tuple", od, .seq its n, sl⟩) (hz : its.size ≤ sizeLine) (r : Vals xs its.toList) : SqT K F a xs :=
  .inr ⟨_, its, n, l, rfl, rfl, hz, r⟩
/-- the law's end -/
theorem law_end {K : Kf} {H : Hp} {a : Addr} {ns : List Int} {f : Fn} {E : XK} (h : ∃ as, f [.s ns] = some (.v (.bool true), as)) (hS : SqL K H a (ns.map V.int)) : Prm K 1 f [.ref a] H (fun v _ => v = .bl true) E := by
  obtain ⟨as, h⟩ := h
  refine ⟨rfl, H, fun _ => none, [.s ns], _, as, ⟨Same.refl H, fun a o e => (nomatch e), fun a o e => (nomatch e), rfl, fun i d e => ?_, fun i x t e hx => ?_, fun i d e => ?_, fun i j x y t u hij h1 h2 h3 h4 => ?_⟩, h, fun v F' H' s ok r => r⟩
  · cases i with
    | zero => cases e
    | succ i => simp at e
  · cases i with
    | zero => cases e; cases hx
    | succ i => simp at e
  · cases i with
    | zero => cases e; exact ⟨a, rfl, hS⟩
    | succ i => simp at e
  · cases i with
    | zero => cases h1; cases h2
    | succ i => simp at h1
end Fx
/-! Fx: methods of lists, built-in functions. -/
namespace Fx
open PySem PySem.Spec PyProof.Rows L2
variable [Wd]
/-- slot i is an own list -/
def ownLM (i : Nat) : M Unit := fun ρ => match ρ[i]? with
  | some (.o (.lst _)) => some ((), ρ)
  | _ => none
theorem ownL_some {i : Nat} {ρ ρ' : Rho} {u : Unit} (h : ownLM i ρ = some (u, ρ')) : ρ' = ρ ∧ ∃ xs, ρ[i]? = some (.o (.lst xs)) := by
  unfold ownLM at h
  split at h
  · rename_i b hb
    cases h
    exact ⟨rfl, b, hb⟩
  · cases h
def pushL (i : Nat) (d : D) : M D := fun ρ => match ρ[i]? with
  | some (.o (.lst xs)) => if decide (xs.length < sizeLine) then some (.none, ρ.set i (.o (.lst (xs ++ [d])))) else none
  | _ => none
def appM (i : Nat) (m : M D) : M D := bnd (ownLM i) fun _ => bnd m fun d => pushL i d
/-- pop's place -/
def popL (i : Nat) (k : D) : M D := fun ρ => match ρ[i]?, k with
  | some (.o (.lst xs)), .int k => if decide (-(2 ^ 63) ≤ k) && decide (k < 2 ^ 63) then (match seqIndex? k xs.length with
    | some j => (match xs[j]? with
      | some y => some (y, ρ.set i (.o (.lst (xs.eraseIdx j))))
      | none => none)
    | none => none) else none
  | _, _ => none
def popAtM (i : Nat) (m : M D) : M D := bnd (ownLM i) fun _ => bnd m fun d => popL i d
def popLast (i : Nat) : M D := fun ρ => match ρ[i]? with
  | some (.o (.lst xs)) => (match xs[xs.length - 1]? with
      | some y => some (y, ρ.set i (.o (.lst xs.dropLast)))
      | none => none)
  | _ => none
def insL (i : Nat) (k d : D) : M D := fun ρ => match ρ[i]?, k with
  | some (.o (.lst xs)), .int k => if decide (xs.length < sizeLine) && decide (0 ≤ k) && decide (k < 2 ^ 63) then some (.none, ρ.set i (.o (.lst (xs.take k.toNat ++ [d] ++ xs.drop k.toNat)))) else none
  | _, _ => none
def insM (i : Nat) (m n : M D) : M D := bnd (ownLM i) fun _ => bnd m fun k => bnd n fun d => insL i k d
def extL (i : Nat) (r : Rf) : M D := fun ρ => match ρ[i]?, look ρ r with
  | some (.o (.lst xs)), some (.list ys) => if fitS (xs.length + ys.length) then some (.none, ρ.set i (.o (.lst (xs ++ ys)))) else none
  | _, _ => none
def extM (i : Nat) (m : M Rf) : M D := bnd (ownLM i) fun _ => bnd m fun r => extL i r
section
variable {X : Cx} {e o : Expr} {es : List Expr} {pos apos px : Pos} {i : Nat} {x : Str}
theorem v_app (i : Nat) {x : Str} {px apos pos : Pos} {m : M D} (he : PE X e (rdV X.K m)) (hN : X.N[i]? = some x := by rfl) (hv : Vis X.env.scope x := by first | exact Or.inl rfl | exact Or.inr (Or.inl rfl) | exact Or.inr (Or.inr rfl)) (hd : (x == ("__debug__" : Str)) = false := by decide)
    (hcd : (x == ("__classdict__" : Str)) = false := by decide)
    (hbase : attributeBase (.Name x px) "append" X.env (eval (.Name x px) X.env) = eval (.Name x px) X.env := by rfl)
    (hfew : ((backTo pos (starEach (e :: []) X.env)).all (fun x => !x.1) && (backToKw pos (keywordEach [] X.env)).all (fun x => x.1.isSome)
      && decide ((e :: []).length + ([] : List Keyword).length + (if ([] : List Keyword).isEmpty then 0 else 1) < 30)) = true := by rfl)
    (hline : (apos.endLine == pos.line) = true := by rfl) (hs : starEach (e :: []) X.env = (false, eval e X.env) :: starEach [] X.env := by rfl) (hplain : (backTo pos (starEach [] X.env)).any (·.1) = false := by rfl) :
    PE X (.Call (.Attribute (.Name x px) "append" apos) [e] [] pos) (rdV X.K (appM i m)) := by
  refine pe_imp (pe_bm PySem.F.plainAttrs_list PySem.F.slot_list_append PySem.F.type_list_append mt_append (pe_var (i := i) hN hv hd hcd) (pa_cons he pa_nil hs) hbase hfew hline hs hplain) fun σ H Q h => ?_
  obtain ⟨F, G, ρ, d, ρ', ok, hm, q⟩ := h
  obtain ⟨u, ρ1, h1, h2⟩ := bnd_some hm
  obtain ⟨rfl, xs, hx⟩ := ownL_some h1
  obtain ⟨y, ρ2, h3, h4⟩ := bnd_some h2
  obtain ⟨p, hp, _, _, vs, hl, _⟩ := ok.own i _ hx
  refine ⟨.ref p, hp, .inl ⟨rfl, vs, SqL.of hl⟩, F, G, ρ1, y, ρ2, ok, h3, fun v F1 H1 s1 ok1 r1 => ?_⟩
  unfold pushL at h4
  split at h4
  · rename_i zs hz
    split at h4
    · rename_i hlt
      cases h4
      obtain ⟨p', hp', _, _, ws, g1, g2⟩ := ok1.own i _ hz
      rw [hp] at hp'
      cases hp'
      refine ⟨p, ws, v, rfl, rfl, g1, by rw [g2.length]; exact of_decide_eq_true hlt, ?_⟩
      exact q .non F1 _ s1 (ok1.turn hz hp ⟨_, upd_same, g2.append ⟨v, [], rfl, r1, rfl⟩⟩) rfl
    · cases h4
  · cases h4
theorem v_popAt (i : Nat) {x : Str} {px apos pos : Pos} {m : M D} (he : PE X e (rdV X.K m)) (hN : X.N[i]? = some x := by rfl) (hv : Vis X.env.scope x := by first | exact Or.inl rfl | exact Or.inr (Or.inl rfl) | exact Or.inr (Or.inr rfl)) (hd : (x == ("__debug__" : Str)) = false := by decide)
    (hcd : (x == ("__classdict__" : Str)) = false := by decide)
    (hbase : attributeBase (.Name x px) "pop" X.env (eval (.Name x px) X.env) = eval (.Name x px) X.env := by rfl)
    (hfew : ((backTo pos (starEach (e :: []) X.env)).all (fun x => !x.1) && (backToKw pos (keywordEach [] X.env)).all (fun x => x.1.isSome)
      && decide ((e :: []).length + ([] : List Keyword).length + (if ([] : List Keyword).isEmpty then 0 else 1) < 30)) = true := by rfl)
    (hline : (apos.endLine == pos.line) = true := by rfl) (hs : starEach (e :: []) X.env = (false, eval e X.env) :: starEach [] X.env := by rfl) (hplain : (backTo pos (starEach [] X.env)).any (·.1) = false := by rfl) :
    PE X (.Call (.Attribute (.Name x px) "pop" apos) [e] [] pos) (rdV X.K (popAtM i m)) := by
  refine pe_imp (pe_bm PySem.F.plainAttrs_list PySem.F.slot_list_pop PySem.F.type_list_pop mt_popAt (pe_var (i := i) hN hv hd hcd) (pa_cons he pa_nil hs) hbase hfew hline hs hplain) fun σ H Q h => ?_
  obtain ⟨F, G, ρ, d, ρ', ok, hm, q⟩ := h
  obtain ⟨u, ρ1, h1, h2⟩ := bnd_some hm
  obtain ⟨rfl, xs, hx⟩ := ownL_some h1
  obtain ⟨y, ρ2, h3, h4⟩ := bnd_some h2
  obtain ⟨p, hp, _, _, vs, hl, _⟩ := ok.own i _ hx
  refine ⟨.ref p, hp, .inl ⟨rfl, vs, SqL.of hl⟩, F, G, ρ1, y, ρ2, ok, h3, fun v F1 H1 s1 ok1 r1 => ?_⟩
  unfold popL at h4
  split at h4
  · rename_i zs k hz
    split at h4
    · rename_i hb
      rw [Bool.and_eq_true] at hb
      split at h4
      · rename_i j hj
        split at h4
        · rename_i z hzj
          cases h4
          obtain ⟨p', hp', _, _, ws, g1, g2⟩ := ok1.own i _ hz
          rw [hp] at hp'
          cases hp'
          cases (show v = _ from r1)
          obtain ⟨wv, hw, rw'⟩ := g2.get hzj
          refine ⟨p, ws, k, j, wv, rfl, rfl, g1, of_decide_eq_true hb.1, of_decide_eq_true hb.2, by rw [g2.length]; exact hj, hw, ?_⟩
          exact q wv F1 _ s1 (ok1.turn hz hp ⟨_, upd_same, Rps.eraseIdx j g2⟩) rw'
        · cases h4
      · cases h4
    · cases h4
  · cases h4
theorem v_pop (i : Nat) {x : Str} {px apos pos : Pos} (hN : X.N[i]? = some x := by rfl) (hv : Vis X.env.scope x := by first | exact Or.inl rfl | exact Or.inr (Or.inl rfl) | exact Or.inr (Or.inr rfl)) (hd : (x == ("__debug__" : Str)) = false := by decide)
    (hcd : (x == ("__classdict__" : Str)) = false := by decide)
    (hbase : attributeBase (.Name x px) "pop" X.env (eval (.Name x px) X.env) = eval (.Name x px) X.env := by rfl) (hline : (apos.endLine == pos.line) = true := by rfl) :
    PE X (.Call (.Attribute (.Name x px) "pop" apos) [] [] pos) (rdV X.K (popLast i)) := by
  refine pe_imp (pe_bm0 PySem.F.plainAttrs_list PySem.F.slot_list_pop PySem.F.type_list_pop mt_pop (pe_var (i := i) hN hv hd hcd) hbase hline) fun σ H Q h => ?_
  obtain ⟨F, G, ρ, d, ρ', ok, hm, q⟩ := h
  unfold popLast at hm
  split at hm
  · rename_i xs hx
    split at hm
    · rename_i y hy
      cases hm
      obtain ⟨p, hp, _, _, vs, hl, g2⟩ := ok.own i _ hx
      obtain ⟨wv, hw, rw'⟩ := g2.get hy
      refine ⟨.ref p, hp, .inl ⟨rfl, vs, SqL.of hl⟩, p, vs, wv, rfl, rfl, hl, by rw [g2.length]; exact hw, ?_⟩
      refine q wv F _ (Same.refl F) (ok.turn hx hp ⟨_, upd_same, ?_⟩) rw'
      rw [List.dropLast_eq_take, List.dropLast_eq_take, g2.length]
      exact g2.take _
    · cases hm
  · cases hm
theorem v_ins (i : Nat) {x : Str} {px apos pos : Pos} {e2 : Expr} {m n : M D} (he : PE X e (rdV X.K m)) (he2 : PE X e2 (rdV X.K n)) (hN : X.N[i]? = some x := by rfl) (hv : Vis X.env.scope x := by first | exact Or.inl rfl | exact Or.inr (Or.inl rfl) | exact Or.inr (Or.inr rfl)) (hd : (x == ("__debug__" : Str)) = false := by decide)
    (hcd : (x == ("__classdict__" : Str)) = false := by decide)
    (hbase : attributeBase (.Name x px) "insert" X.env (eval (.Name x px) X.env) = eval (.Name x px) X.env := by rfl)
    (hfew : ((backTo pos (starEach (e :: [e2]) X.env)).all (fun x => !x.1) && (backToKw pos (keywordEach [] X.env)).all (fun x => x.1.isSome)
      && decide ((e :: [e2]).length + ([] : List Keyword).length + (if ([] : List Keyword).isEmpty then 0 else 1) < 30)) = true := by rfl)
    (hline : (apos.endLine == pos.line) = true := by rfl) (hs : starEach (e :: [e2]) X.env = (false, eval e X.env) :: starEach [e2] X.env := by rfl) (hs2 : starEach (e2 :: []) X.env = (false, eval e2 X.env) :: starEach [] X.env := by rfl) (hplain : (backTo pos (starEach [e2] X.env)).any (·.1) = false := by rfl) :
    PE X (.Call (.Attribute (.Name x px) "insert" apos) [e, e2] [] pos) (rdV X.K (insM i m n)) := by
  refine pe_imp (pe_bm PySem.F.plainAttrs_list PySem.F.slot_list_insert PySem.F.type_list_insert mt_insert (pe_var (i := i) hN hv hd hcd) (pa_cons he (pa_cons he2 pa_nil hs2) hs) hbase hfew hline hs hplain) fun σ H Q h => ?_
  obtain ⟨F, G, ρ, d, ρ', ok, hm, q⟩ := h
  obtain ⟨u, ρ1, h1, h2⟩ := bnd_some hm
  obtain ⟨rfl, xs, hx⟩ := ownL_some h1
  obtain ⟨k, ρ2, h3, h4⟩ := bnd_some h2
  obtain ⟨y, ρ3, h5, h6⟩ := bnd_some h4
  obtain ⟨p, hp, _, _, vs, hl, _⟩ := ok.own i _ hx
  refine ⟨.ref p, hp, .inl ⟨rfl, vs, SqL.of hl⟩, F, G, ρ1, k, ρ2, ok, h3, fun kv F1 H1 s1 ok1 r1 => ⟨F1, G, ρ2, y, ρ3, ok1, h5, fun v F2 H2 s2 ok2 r2 => ?_⟩⟩
  unfold insL at h6
  split at h6
  · rename_i zs k hz
    split at h6
    · rename_i hb
      rw [Bool.and_eq_true, Bool.and_eq_true] at hb
      cases h6
      obtain ⟨p', hp', _, _, ws, g1, g2⟩ := ok2.own i _ hz
      rw [hp] at hp'
      cases hp'
      cases (show kv = _ from r1)
      refine ⟨p, ws, k, v, rfl, rfl, g1, by rw [g2.length]; exact of_decide_eq_true hb.1.1, of_decide_eq_true hb.1.2, of_decide_eq_true hb.2, ?_⟩
      exact q .non F2 _ (s1.trans s2) (ok2.turn hz hp ⟨_, upd_same, ((g2.take _).append (Rps.one r2)).append (g2.drop _)⟩) rfl
    · cases h6
  · cases h6
theorem v_ext (i : Nat) {x : Str} {px apos pos : Pos} {m : M Rf} (he : PE X e (rdB X.K m)) (hN : X.N[i]? = some x := by rfl) (hv : Vis X.env.scope x := by first | exact Or.inl rfl | exact Or.inr (Or.inl rfl) | exact Or.inr (Or.inr rfl)) (hd : (x == ("__debug__" : Str)) = false := by decide)
    (hcd : (x == ("__classdict__" : Str)) = false := by decide)
    (hbase : attributeBase (.Name x px) "extend" X.env (eval (.Name x px) X.env) = eval (.Name x px) X.env := by rfl)
    (hfew : ((backTo pos (starEach (e :: []) X.env)).all (fun x => !x.1) && (backToKw pos (keywordEach [] X.env)).all (fun x => x.1.isSome)
      && decide ((e :: []).length + ([] : List Keyword).length + (if ([] : List Keyword).isEmpty then 0 else 1) < 30)) = true := by rfl)
    (hline : (apos.endLine == pos.line) = true := by rfl) (hs : starEach (e :: []) X.env = (false, eval e X.env) :: starEach [] X.env := by rfl) (hplain : (backTo pos (starEach [] X.env)).any (·.1) = false := by rfl) :
    PE X (.Call (.Attribute (.Name x px) "extend" apos) [e] [] pos) (rdV X.K (extM i m)) := by
  refine pe_imp (pe_bm PySem.F.plainAttrs_list PySem.F.slot_list_extend PySem.F.type_list_extend mt_extend (pe_var (i := i) hN hv hd hcd) (pa_cons he pa_nil hs) hbase hfew hline hs hplain) fun σ H Q h => ?_
  obtain ⟨F, G, ρ, d, ρ', ok, hm, q⟩ := h
  obtain ⟨u, ρ1, h1, h2⟩ := bnd_some hm
  obtain ⟨rfl, xs, hx⟩ := ownL_some h1
  obtain ⟨y, ρ2, h3, h4⟩ := bnd_some h2
  obtain ⟨p, hp, _, _, vs, hl, _⟩ := ok.own i _ hx
  refine ⟨.ref p, hp, .inl ⟨rfl, vs, SqL.of hl⟩, F, G, ρ1, y, ρ2, ok, h3, fun v F1 H1 s1 ok1 r1 => ?_⟩
  unfold extL at h4
  split at h4
  · rename_i zs ys hz hy
    split at h4
    · rename_i hlt
      cases h4
      obtain ⟨p', hp', _, _, ws, g1, g2⟩ := ok1.own i _ hz
      rw [hp] at hp'
      cases hp'
      obtain ⟨b, us, rfl, k1, k2⟩ := (look_ok ok1 r1 hy).list ok1.sub
      refine ⟨p, b, ws, us, rfl, rfl, g1, k1, by rw [g2.length, k2.length]; exact of_decide_eq_true hlt, ?_⟩
      exact q .non F1 _ s1 (ok1.turn hz hp ⟨_, upd_same, g2.append k2⟩) rfl
    · cases h4
  · cases h4
end
/-! ### built-in functions of one argument -/
def b1M {α : Type} (f : D → Option α) (m : M Rf) : M α := bnd m fun r => fun ρ => match look ρ r with
  | some x => (f x).map fun z => (z, ρ)
  | none => none
theorem b1_some {α : Type} {f : D → Option α} {m : M Rf} {ρ ρ' : Rho} {z : α} (h : b1M f m ρ = some (z, ρ')) : ∃ r x, m ρ = some (r, ρ') ∧ look ρ' r = some x ∧ f x = some z := by
  obtain ⟨r, ρ1, h1, h⟩ := bnd_some h
  have h : (match look ρ1 r with
    | some x => (f x).map fun z => (z, ρ1)
    | none => none) = some (z, ρ') := h
  split at h
  · rename_i x hx
    cases hf : f x with
    | none => rw [hf] at h; cases h
    | some w => rw [hf] at h; cases h; exact ⟨r, x, h1, hx, hf⟩
  · cases h
def CbD (K : Kf) (f : D → Option D) (r : List V → Hp → VK → Prop) : Prop :=
  ∀ (F G H : Hp) (σ : L2.St) (ρ : Rho) (x d : D) (v : V) (Q : VK), Ok K F G H σ ρ → Vw K F H v x → f x = some d → (∀ z F' H', Same F F' → Ok K F' G H' σ ρ → Rp K F' d z → Q z H') → r [v] H Q
def CbN (K : Kf) (f : D → Option Own) (r : List V → Hp → VK → Prop) : Prop :=
  ∀ (F G H : Hp) (σ : L2.St) (ρ : Rho) (x : D) (d : Own) (v : V) (Q : VK), Ok K F G H σ ρ → Vw K F H v x → f x = some d → (∀ p F' H', Same F F' → Ok K F' G H' σ ρ → New K F' G H' σ ρ p → OwnAt K F' H' p d → Q (.ref p) H') → r [v] H Q
section
variable {X : Cx} {e : Expr} {pos p : Pos} {x : Str} {id T : String} {r : List V → Hp → VK → Prop} {m : M Rf} {K : Kf}
theorem v_b1 {f : D → Option D} (hc : CallR X (.builtin id) r) (hf : CbD X.K f r) (hg : Gl X x) (hm : X.mg x = none) (hv : bootBuiltins x = some (.builtin id)) (ha : PE X e (rdB X.K m)) (hn : x ≠ "__name__" := by decide) (hdb : (x == ("__debug__" : Str)) = false := by decide)
    (he : starEach (e :: []) X.env = (false, eval e X.env) :: starEach [] X.env := by rfl) (hpl : (backTo pos (starEach [] X.env)).any (·.1) = false := by rfl) : PE X (.Call (.Name x p) [e] [] pos) (rdV X.K (b1M f m)) := by
  refine pe_imp (pe_callB hc hg hm hv (pa_cons ha pa_nil he) hn hdb he hpl) fun σ H Q h => ?_
  obtain ⟨F, G, ρ, d, ρ', ok, hm, q⟩ := h
  obtain ⟨r, y, h1, h2, h3⟩ := b1_some hm
  exact ⟨F, G, ρ, r, ρ', ok, h1, fun v F1 H1 s1 ok1 r1 => hf F1 G H1 σ ρ' y d v Q ok1 (look_ok ok1 r1 h2) h3 fun z F2 H2 s2 ok2 r2 => q z F2 H2 (s1.trans s2) ok2 r2⟩
theorem v_t1 {f : D → Option D} (hc : CallR X (.type T) r) (hf : CbD X.K f r) (hg : Gl X x) (hm : X.mg x = none) (hv : bootBuiltins x = some (.type T)) (ha : PE X e (rdB X.K m)) (hn : x ≠ "__name__" := by decide) (hdb : (x == ("__debug__" : Str)) = false := by decide)
    (he : starEach (e :: []) X.env = (false, eval e X.env) :: starEach [] X.env := by rfl) (hpl : (backTo pos (starEach [] X.env)).any (·.1) = false := by rfl) : PE X (.Call (.Name x p) [e] [] pos) (rdV X.K (b1M f m)) := by
  refine pe_imp (pe_callTy hc hg hm hv (pa_cons ha pa_nil he) hn hdb he hpl) fun σ H Q h => ?_
  obtain ⟨F, G, ρ, d, ρ', ok, hm, q⟩ := h
  obtain ⟨r, y, h1, h2, h3⟩ := b1_some hm
  exact ⟨F, G, ρ, r, ρ', ok, h1, fun v F1 H1 s1 ok1 r1 => hf F1 G H1 σ ρ' y d v Q ok1 (look_ok ok1 r1 h2) h3 fun z F2 H2 s2 ok2 r2 => q z F2 H2 (s1.trans s2) ok2 r2⟩
theorem n_b1 {f : D → Option Own} (hc : CallR X (.builtin id) r) (hf : CbN X.K f r) (hg : Gl X x) (hm : X.mg x = none) (hv : bootBuiltins x = some (.builtin id)) (ha : PE X e (rdB X.K m)) (hn : x ≠ "__name__" := by decide) (hdb : (x == ("__debug__" : Str)) = false := by decide)
    (he : starEach (e :: []) X.env = (false, eval e X.env) :: starEach [] X.env := by rfl) (hpl : (backTo pos (starEach [] X.env)).any (·.1) = false := by rfl) : PE X (.Call (.Name x p) [e] [] pos) (rdN X.K (b1M f m)) := by
  refine pe_imp (pe_callB hc hg hm hv (pa_cons ha pa_nil he) hn hdb he hpl) fun σ H Q h => ?_
  obtain ⟨F, G, ρ, d, ρ', ok, hm, q⟩ := h
  obtain ⟨r, y, h1, h2, h3⟩ := b1_some hm
  exact ⟨F, G, ρ, r, ρ', ok, h1, fun v F1 H1 s1 ok1 r1 => hf F1 G H1 σ ρ' y d v Q ok1 (look_ok ok1 r1 h2) h3 fun z F2 H2 s2 ok2 r2 => q z F2 H2 (s1.trans s2) ok2 r2⟩
theorem n_t1 {f : D → Option Own} (hc : CallR X (.type T) r) (hf : CbN X.K f r) (hg : Gl X x) (hm : X.mg x = none) (hv : bootBuiltins x = some (.type T)) (ha : PE X e (rdB X.K m)) (hn : x ≠ "__name__" := by decide) (hdb : (x == ("__debug__" : Str)) = false := by decide)
    (he : starEach (e :: []) X.env = (false, eval e X.env) :: starEach [] X.env := by rfl) (hpl : (backTo pos (starEach [] X.env)).any (·.1) = false := by rfl) : PE X (.Call (.Name x p) [e] [] pos) (rdN X.K (b1M f m)) := by
  refine pe_imp (pe_callTy hc hg hm hv (pa_cons ha pa_nil he) hn hdb he hpl) fun σ H Q h => ?_
  obtain ⟨F, G, ρ, d, ρ', ok, hm, q⟩ := h
  obtain ⟨r, y, h1, h2, h3⟩ := b1_some hm
  exact ⟨F, G, ρ, r, ρ', ok, h1, fun v F1 H1 s1 ok1 r1 => hf F1 G H1 σ ρ' y d v Q ok1 (look_ok ok1 r1 h2) h3 fun z F2 H2 s2 ok2 r2 => q z F2 H2 (s1.trans s2) ok2 r2⟩
def lenD : D → Option D
  | .list xs => some (.int xs.length)
  | .tuple xs => some (.int xs.length)
  | .str s => if fitS s.length then some (.int s.length) else none
  | .dict kvs => some (.int kvs.length)
  | _ => none
/-- a's dict has n keys -/
structure DLen (X : Cx) (H : Hp) (a : Addr) (n : Nat) : Prop where
  len : ∀ {pins : List (Addr × Obj)} {σ : L2.St} {s : Shared} {A : Around} {E : Value → Shared → Prop} {Q : Value → Shared → Prop}, Inv X pins σ H s → (∀ t s', Inv X pins σ H s' → Q (.int n t) s') → wpAny (model X.prog X.w) A (call (.builtin "len") [.ref a]) Q E s
theorem DcR.len {X : Cx} {F H : Hp} {p : Addr} {kvs : List (D × D)} (hw : X.w = Wd.w) (s : Same F H) (h : DcR X.K F H p kvs) : DLen X H p kvs.length := ⟨fun I q => by
  rcases h with ⟨ws, h1, h2⟩ | ⟨es, h1, h2⟩
  · rw [← h2.len] at q
    exact d_len I h1 q
  · have hk := DictO.keys I h1
    obtain ⟨z, lo, kt, us, rv, dd⟩ := provE hw s h1 h2 hk I
    have hz : (entsE es us).length = es.length := by
      unfold entsE
      have := rv.length
      rw [List.length_map] at this
      rw [List.length_map, List.length_zip, ← this, Nat.min_self]
    refine call_len_dictH lo dd (by rw [hz]; rw [sizeLine_eq] at z; omega) ?_
    rw [hz, h2.len]
    exact q _ _ (I.tok _)⟩
theorem call_lenG {X : Cx} : CallR X (.builtin "len") (fun xs H Q => (∃ x n, xs = [x] ∧ LenV X.K x H n ∧ Q (.int n) H) ∨ ∃ a n, xs = [.ref a] ∧ DLen X H a n ∧ Q (.int (n : Nat)) H) := by
  intro pins s σ H xs us Q I r h
  rcases h with h | ⟨a, n, rfl, d, q⟩
  · exact call_len pins s σ H xs us Q I r h
  · rw [Vals.ref1 r]
    exact d.len I fun t s' I' => ⟨.int n, H, I', ⟨_, rfl⟩, q⟩
theorem cbd_len {X : Cx} (hw : X.w = Wd.w) : CbD X.K lenD (fun xs H Q => (∃ x n, xs = [x] ∧ LenV X.K x H n ∧ Q (.int n) H) ∨ ∃ a n, xs = [.ref a] ∧ DLen X H a n ∧ Q (.int (n : Nat)) H) := by
  intro F G H σ ρ x d v Q ok hx hf q
  unfold lenD at hf
  split at hf
  · cases hf
    obtain ⟨p, vs, rfl, h1, h2⟩ := hx.list ok.sub
    refine .inl ⟨_, _, rfl, .inl ⟨vs, SqL.of h1, rfl⟩, ?_⟩
    rw [h2.length]
    exact q _ F H (Same.refl F) ok rfl
  · cases hf
    obtain ⟨p, vs, rfl, h1, _, h2⟩ := hx.tuple ok.sub
    refine .inl ⟨_, _, rfl, .inr ⟨vs, h1, rfl⟩, ?_⟩
    rw [h2.length]
    exact q _ F H (Same.refl F) ok rfl
  · split at hf
    · rename_i hz
      cases hf
      have e := hx.str
      subst e
      exact .inl ⟨_, _, rfl, ⟨of_decide_eq_true hz, rfl⟩, q _ F H (Same.refl F) ok rfl⟩
    · cases hf
  · cases hf
    obtain ⟨p, rfl, hd⟩ := hx.dict ok.sub
    exact .inr ⟨p, _, rfl, hd.len hw ok.sub, q _ F H (Same.refl F) ok rfl⟩
  · cases hf
def absD : D → Option D
  | .int i => some (.int (if i < 0 then -i else i))
  | _ => none
theorem cbd_abs : CbD K absD (fun xs H Q => ∃ i, xs = [.int i] ∧ Q (.int (if i < 0 then -i else i)) H) := by
  intro F G H σ ρ x d v Q ok hx hf q
  unfold absD at hf
  split at hf
  · cases hf
    have e := hx.int
    subst e
    exact ⟨_, rfl, q _ F H (Same.refl F) ok rfl⟩
  · cases hf
def intD : D → Option D
  | .int i => some (.int i)
  | .bool b => some (.int (if b then 1 else 0))
  | _ => none
theorem cbd_int : CbD K intD (fun xs H Q => (∃ i, xs = [.int i] ∧ Q (.int i) H) ∨ ∃ k, xs = [.bl k] ∧ Q (.int (if k then 1 else 0)) H) := by
  intro F G H σ ρ x d v Q ok hx hf q
  unfold intD at hf
  split at hf
  · cases hf
    have e := hx.int
    subst e
    exact .inl ⟨_, rfl, q _ F H (Same.refl F) ok rfl⟩
  · cases hf
    have e := hx.bl
    subst e
    exact .inr ⟨_, rfl, q _ F H (Same.refl F) ok rfl⟩
  · cases hf
/-- all items are ints -/
def intsOf : List D → Option (List Int)
  | [] => some []
  | .int i :: ds => (intsOf ds).map fun ns => i :: ns
  | _ => none
theorem intsOf_eq : ∀ {ds : List D} {ns : List Int}, intsOf ds = some ns → ds = ns.map PyData.int
  | [], _, h => by cases h; rfl
  | .int i :: ds, ns, h => by
    cases hr : intsOf ds with
    | none => simp [intsOf, hr] at h
    | some ms =>
      simp [intsOf, hr] at h
      subst h
      rw [intsOf_eq hr]
      rfl
  | .none :: _, _, h => by cases h
  | .bool _ :: _, _, h => by cases h
  | .str _ :: _, _, h => by cases h
  | .list _ :: _, _, h => by cases h
  | .tuple _ :: _, _, h => by cases h
  | .dict _ :: _, _, h => by cases h
theorem intsOf_map (ns : List Int) : intsOf (ns.map PyData.int) = some ns := by
  induction ns with
  | nil => rfl
  | cons n ns ih => show (intsOf (ns.map PyData.int)).map _ = _; rw [ih]; rfl
def boolsOf : List D → Option (List Bool)
  | [] => some []
  | .bool i :: ds => (boolsOf ds).map fun ns => i :: ns
  | _ => none
theorem boolsOf_eq : ∀ {ds : List D} {ns : List Bool}, boolsOf ds = some ns → ds = ns.map PyData.bool
  | [], _, h => by cases h; rfl
  | .bool i :: ds, ns, h => by
    cases hr : boolsOf ds with
    | none => simp [boolsOf, hr] at h
    | some ms =>
      simp [boolsOf, hr] at h
      subst h
      rw [boolsOf_eq hr]
      rfl
  | .none :: _, _, h => by cases h
  | .int _ :: _, _, h => by cases h
  | .str _ :: _, _, h => by cases h
  | .list _ :: _, _, h => by cases h
  | .tuple _ :: _, _, h => by cases h
  | .dict _ :: _, _, h => by cases h
theorem boolsOf_map (ns : List Bool) : boolsOf (ns.map PyData.bool) = some ns := by
  induction ns with
  | nil => rfl
  | cons n ns ih => show (boolsOf (ns.map PyData.bool)).map _ = _; rw [ih]; rfl
end
end Fx
/-! Fx: sum, min, max, any, all, list, tuple, sorted, isinstance. -/
namespace Fx
open PySem PySem.Spec PyProof.Rows L2
variable [Wd]
section
variable {prog : Program} {w : World} {A : Around} {E : Value → Shared → Prop} {s : Shared} {l : Addr} {its : List Value} {ns : List Int}
theorem iter_tup {its : Array Value} {Q : Value → Shared → Prop} (hl : s.heap.IsTuple l its)
    (h : ∀ s₂ : Shared, s₂ = { s with heap := s.heap.push { cls := .type "tuple_iterator", data := .fields #[.ref l, .int 0 0] } } →
      (s₂.heap.IsTupleIter s.heap.objs.size l 0 ∧ s₂.heap.IsTuple l its) → (∀ b ∈ [s.heap.objs.size, l], b < s₂.heap.objs.size) → l ≠ s.heap.objs.size → Q (.ref s.heap.objs.size) s₂) :
    wpAny (model prog w) A (pyIter (.ref l)) Q E s := by
  have hlt : l < s.heap.objs.size := by obtain ⟨_, e, _⟩ := hl; exact Heap.lt_size e
  refine wpAny_pyIter_tuple hl (h _ rfl ⟨⟨_, Heap.get?_push_size _ rfl, rfl, rfl⟩, hl.push _⟩ (fun b hb => ?_) (Nat.ne_of_lt hlt))
  show b < (s.heap.push _).objs.size
  rw [Heap.size_push]
  rcases List.mem_cons.mp hb with rfl | hb
  · exact Nat.lt_succ_self _
  · rcases List.mem_cons.mp hb with rfl | hb
    · exact Nat.lt_succ_of_lt hlt
    · cases hb
theorem old_kept' {h' : Heap} {o' : Obj} (hk : ∀ b o, b ∉ [s.heap.objs.size] → (s.heap.push o').get? b = some o → h'.get? b = some o) :
    ∀ b o, s.heap.get? b = some o → h'.get? b = some o := fun b o e => by
  refine hk b o (fun hm => ?_) (Heap.get?_push_of_some _ e)
  rcases List.mem_cons.mp hm with e1 | hm
  · exact absurd (e1 ▸ Heap.lt_size e) (Nat.lt_irrefl _)
  · cases hm
theorem sum_tupRaw {Q : Value → Shared → Prop} (hh : A.handled = none) (hl : s.heap.IsTuple l its.toArray) (hi : IntsAre its ns)
    (h : ∀ h' tk t', (∀ b o, s.heap.get? b = some o → h'.get? b = some o) → Q (.int ns.sum t') { s with heap := h', toks := tk }) : wpAny (model prog w) A (call (.builtin "sum") [.ref l]) Q E s := by
  obtain ⟨xs, e⟩ := hi.allInts.items
  have hn : numsOf (intItems xs).toList = ns := by rw [← e]; exact hi.numsOf
  rw [nums_intItems] at hn
  rw [e] at hl
  refine call_sum_walkG (iter_tup hl fun s₂ e st hfp hlI => ?_)
  subst e
  refine ⟨_, _, _, _, _, _, numAt xs, rfl, Walks.tuple (A := A.in1) hh _ l hlI (intItems xs), st, hfp, (fun _ _ => intItems_at), fun h' tk t' hk => ?_⟩
  have := h h' tk t' (old_kept' hk)
  have e : preSum (numAt xs) (intItems xs).size = ns.sum := by
    rw [show (intItems xs).size = xs.size by simp [intItems], preSum_eq, List.take_of_length_le (by simp), hn]
  rw [e]
  exact this
theorem max_tupRaw {Q : Value → Shared → Prop} (hh : A.handled = none) (hl : s.heap.IsTuple l its.toArray) (hi : IntsAre its ns) (hne : 0 < ns.length)
    (h : ∀ h' tk M t', (∀ b o, s.heap.get? b = some o → h'.get? b = some o) → M ∈ ns → (∀ a, a ∈ ns → a ≤ M) → Q (.int M t') { s with heap := h', toks := tk }) : wpAny (model prog w) A (call (.builtin "max") [.ref l]) Q E s := by
  obtain ⟨xs, e⟩ := hi.allInts.items
  have hn : numsOf (intItems xs).toList = ns := by rw [← e]; exact hi.numsOf
  rw [nums_intItems] at hn
  subst hn
  rw [e] at hl
  have hsz : 0 < xs.size := by simpa using hne
  refine call_max_walk (iter_tup hl fun s₂ e st hfp hlI => ?_)
  subst e
  refine ⟨_, _, _, _, _, _, _, rfl, Walks.tuple (A := A.in1) hh _ l hlI (intItems xs), st, hfp, by simpa [intItems] using hsz, CmpOf.ints_gt (numAt xs) (fun _ _ => intItems_at), fun v h' tk hP hk => ?_⟩
  have hv : (intItems xs)[argBest (fun i j => decide (numAt xs i > numAt xs j)) (xs.size - 1)]? = some v := by simpa [intItems] using hP
  obtain ⟨t, rfl⟩ := intItems_at hv
  obtain ⟨h1, h2⟩ := argBest_gt (numAt xs) (xs.size - 1)
  refine h h' tk _ t (old_kept' hk) ?_ fun a ha => ?_
  · rw [numAt_eq]; exact PySem.getD_mem (by rw [List.length_map, Array.length_toList]; omega)
  · obtain ⟨i, hi2, hia⟩ := List.getElem_of_mem ha
    have hlt : i < xs.size := by simpa using hi2
    have e2 : numAt xs i = a := by
      rw [numAt_eq, List.getD_eq_getElem?_getD, List.getElem?_eq_getElem hi2, hia]
      rfl
    rw [← e2]
    exact h2 i (by omega)
theorem min_tupRaw {Q : Value → Shared → Prop} (hh : A.handled = none) (hl : s.heap.IsTuple l its.toArray) (hi : IntsAre its ns) (hne : 0 < ns.length)
    (h : ∀ h' tk M t', (∀ b o, s.heap.get? b = some o → h'.get? b = some o) → M ∈ ns → (∀ a, a ∈ ns → M ≤ a) → Q (.int M t') { s with heap := h', toks := tk }) : wpAny (model prog w) A (call (.builtin "min") [.ref l]) Q E s := by
  obtain ⟨xs, e⟩ := hi.allInts.items
  have hn : numsOf (intItems xs).toList = ns := by rw [← e]; exact hi.numsOf
  rw [nums_intItems] at hn
  subst hn
  rw [e] at hl
  have hsz : 0 < xs.size := by simpa using hne
  refine call_min_walk (iter_tup hl fun s₂ e st hfp hlI => ?_)
  subst e
  refine ⟨_, _, _, _, _, _, _, rfl, Walks.tuple (A := A.in1) hh _ l hlI (intItems xs), st, hfp, by simpa [intItems] using hsz, CmpOf.ints_lt (numAt xs) (fun _ _ => intItems_at), fun v h' tk hP hk => ?_⟩
  have hv : (intItems xs)[argBest (fun i j => decide (numAt xs i < numAt xs j)) (xs.size - 1)]? = some v := by simpa [intItems] using hP
  obtain ⟨t, rfl⟩ := intItems_at hv
  obtain ⟨h1, h2⟩ := argBest_lt (numAt xs) (xs.size - 1)
  refine h h' tk _ t (old_kept' hk) ?_ fun a ha => ?_
  · rw [numAt_eq]; exact PySem.getD_mem (by rw [List.length_map, Array.length_toList]; omega)
  · obtain ⟨i, hi2, hia⟩ := List.getElem_of_mem ha
    have hlt : i < xs.size := by simpa using hi2
    have e2 : numAt xs i = a := by
      rw [numAt_eq, List.getD_eq_getElem?_getD, List.getElem?_eq_getElem hi2, hia]
      rfl
    rw [← e2]
    exact h2 i (by omega)
end
section
variable {X : Cx} {K : Kf}
def rSumT (K : Kf) : List V → Hp → VK → Prop := fun vs H Q => ∃ (a : Addr) (ns : List Int), vs = [V.ref a] ∧ SqT K H a (ns.map V.int) ∧ Q (.int ns.sum) H
def rMaxT (K : Kf) : List V → Hp → VK → Prop := fun vs H Q => ∃ (a : Addr) (ns : List Int), vs = [V.ref a] ∧ SqT K H a (ns.map V.int) ∧ 0 < ns.length ∧ ∀ m, m ∈ ns → (∀ y, y ∈ ns → y ≤ m) → Q (.int m) H
def rMinT (K : Kf) : List V → Hp → VK → Prop := fun vs H Q => ∃ (a : Addr) (ns : List Int), vs = [V.ref a] ∧ SqT K H a (ns.map V.int) ∧ 0 < ns.length ∧ ∀ m, m ∈ ns → (∀ y, y ∈ ns → m ≤ y) → Q (.int m) H
theorem cr_sumT (hc : X.calm = true) : CallR X (.builtin "sum") (rSumT X.K) := by
  intro pins s σ H vs us Q I r h
  obtain ⟨a, ns, rfl, hs, q⟩ := h
  obtain ⟨its, rv, hl, _⟩ := I.tuple hs
  rw [Vals.ref1 r]
  exact sum_tupRaw (I.ok.hd hc) (show s.heap.IsTuple a its.toArray from hl) rv.ints fun h' tk t' hk => ⟨.int _, H, I.kept hk, ⟨_, rfl⟩, q⟩
theorem cr_maxT (hc : X.calm = true) : CallR X (.builtin "max") (rMaxT X.K) := by
  intro pins s σ H vs us Q I r h
  obtain ⟨a, ns, rfl, hs, hne, q⟩ := h
  obtain ⟨its, rv, hl, _⟩ := I.tuple hs
  rw [Vals.ref1 r]
  exact max_tupRaw (I.ok.hd hc) (show s.heap.IsTuple a its.toArray from hl) rv.ints hne fun h' tk m t' hk h1 h2 => ⟨.int _, H, I.kept hk, ⟨_, rfl⟩, q m h1 h2⟩
theorem cr_minT (hc : X.calm = true) : CallR X (.builtin "min") (rMinT X.K) := by
  intro pins s σ H vs us Q I r h
  obtain ⟨a, ns, rfl, hs, hne, q⟩ := h
  obtain ⟨its, rv, hl, _⟩ := I.tuple hs
  rw [Vals.ref1 r]
  exact min_tupRaw (I.ok.hd hc) (show s.heap.IsTuple a its.toArray from hl) rv.ints hne fun h' tk m t' hk h1 h2 => ⟨.int _, H, I.kept hk, ⟨_, rfl⟩, q m h1 h2⟩
def sumD : D → Option D
  | .list xs => (intsOf xs).map fun ns => .int ns.sum
  | .tuple xs => (intsOf xs).map fun ns => .int ns.sum
  | _ => none
theorem cbd_sum : CbD K sumD (fun vs H Q => rSum K vs H Q ∨ rSumT K vs H Q) := by
  intro F G H σ ρ x d v Q ok hx hf q
  unfold sumD at hf
  split at hf
  · rename_i xs
    cases hi : intsOf xs with
    | none => rw [hi] at hf; cases hf
    | some ns =>
      rw [hi] at hf
      cases hf
      obtain ⟨p, vs, rfl, h1, h2⟩ := hx.list ok.sub
      rw [intsOf_eq hi] at h2
      rw [Rps.ints.mp h2] at h1
      exact .inl ⟨p, ns, rfl, SqL.of h1, q _ F H (Same.refl F) ok rfl⟩
  · rename_i xs
    cases hi : intsOf xs with
    | none => rw [hi] at hf; cases hf
    | some ns =>
      rw [hi] at hf
      cases hf
      obtain ⟨p, vs, rfl, h1, _, h2⟩ := hx.tuple ok.sub
      rw [intsOf_eq hi] at h2
      rw [Rps.ints.mp h2] at h1
      exact .inr ⟨p, ns, rfl, h1, q _ F H (Same.refl F) ok rfl⟩
  · cases hf
def maxI : List Int → Int
  | [] => 0
  | n :: ns => ns.foldl max n
def minI : List Int → Int
  | [] => 0
  | n :: ns => ns.foldl min n
theorem foldl_max_ge (ns : List Int) (a : Int) : a ≤ ns.foldl max a ∧ (∀ y ∈ ns, y ≤ ns.foldl max a) ∧ (ns.foldl max a = a ∨ ns.foldl max a ∈ ns) := by
  induction ns generalizing a with
  | nil => exact ⟨Int.le_refl _, fun y h => (nomatch h), .inl rfl⟩
  | cons n ns ih =>
    obtain ⟨h1, h2, h3⟩ := ih (max a n)
    refine ⟨Int.le_trans (Int.le_max_left a n) h1, fun y hy => ?_, ?_⟩
    · rcases List.mem_cons.mp hy with rfl | hy
      · exact Int.le_trans (Int.le_max_right a y) h1
      · exact h2 y hy
    · rcases h3 with h3 | h3
      · show ns.foldl max (max a n) = a ∨ ns.foldl max (max a n) ∈ n :: ns
        rw [h3]
        rcases Int.le_total a n with h | h
        · rw [Int.max_eq_right h]; exact .inr List.mem_cons_self
        · rw [Int.max_eq_left h]; exact .inl rfl
      · exact .inr (List.mem_cons_of_mem _ h3)
theorem foldl_min_le (ns : List Int) (a : Int) : ns.foldl min a ≤ a ∧ (∀ y ∈ ns, ns.foldl min a ≤ y) ∧ (ns.foldl min a = a ∨ ns.foldl min a ∈ ns) := by
  induction ns generalizing a with
  | nil => exact ⟨Int.le_refl _, fun y h => (nomatch h), .inl rfl⟩
  | cons n ns ih =>
    obtain ⟨h1, h2, h3⟩ := ih (min a n)
    refine ⟨Int.le_trans h1 (Int.min_le_left a n), fun y hy => ?_, ?_⟩
    · rcases List.mem_cons.mp hy with rfl | hy
      · exact Int.le_trans h1 (Int.min_le_right a y)
      · exact h2 y hy
    · rcases h3 with h3 | h3
      · show ns.foldl min (min a n) = a ∨ ns.foldl min (min a n) ∈ n :: ns
        rw [h3]
        rcases Int.le_total a n with h | h
        · rw [Int.min_eq_left h]; exact .inl rfl
        · rw [Int.min_eq_right h]; exact .inr List.mem_cons_self
      · exact .inr (List.mem_cons_of_mem _ h3)
theorem maxI_is {ns : List Int} {m : Int} (h1 : m ∈ ns) (h2 : ∀ y ∈ ns, y ≤ m) : m = maxI ns := by
  cases ns with
  | nil => cases h1
  | cons n ns =>
    obtain ⟨g1, g2, g3⟩ := foldl_max_ge ns n
    have a1 : maxI (n :: ns) ≤ m := by
      rcases g3 with g3 | g3
      · show ns.foldl max n ≤ m; rw [g3]; exact h2 n List.mem_cons_self
      · exact h2 _ (List.mem_cons_of_mem _ g3)
    have a2 : m ≤ maxI (n :: ns) := by
      rcases List.mem_cons.mp h1 with rfl | h
      · exact g1
      · exact g2 m h
    omega
theorem minI_is {ns : List Int} {m : Int} (h1 : m ∈ ns) (h2 : ∀ y ∈ ns, m ≤ y) : m = minI ns := by
  cases ns with
  | nil => cases h1
  | cons n ns =>
    obtain ⟨g1, g2, g3⟩ := foldl_min_le ns n
    have a1 : m ≤ minI (n :: ns) := by
      rcases g3 with g3 | g3
      · show m ≤ ns.foldl min n; rw [g3]; exact h2 n List.mem_cons_self
      · exact h2 _ (List.mem_cons_of_mem _ g3)
    have a2 : minI (n :: ns) ≤ m := by
      rcases List.mem_cons.mp h1 with rfl | h
      · exact g1
      · exact g2 m h
    omega
def bestD (f : List Int → Int) : D → Option D
  | .list xs => match intsOf xs with
    | some (n :: ns) => some (.int (f (n :: ns)))
    | _ => none
  | .tuple xs => match intsOf xs with
    | some (n :: ns) => some (.int (f (n :: ns)))
    | _ => none
  | _ => none
abbrev maxD := bestD maxI
abbrev minD := bestD minI
theorem cbd_max : CbD K maxD (fun vs H Q => rMax K vs H Q ∨ rMaxT K vs H Q) := by
  intro F G H σ ρ x d v Q ok hx hf q
  unfold maxD bestD at hf
  split at hf
  · split at hf
    · rename_i xs n ns hi
      cases hf
      obtain ⟨p, vs, rfl, h1, h2⟩ := hx.list ok.sub
      rw [intsOf_eq hi] at h2
      rw [Rps.ints.mp h2] at h1
      refine .inl ⟨p, n :: ns, rfl, SqL.of h1, Nat.succ_pos _, fun m g1 g2 => ?_⟩
      rw [maxI_is g1 g2]
      exact q _ F H (Same.refl F) ok rfl
    · cases hf
  · split at hf
    · rename_i xs n ns hi
      cases hf
      obtain ⟨p, vs, rfl, h1, _, h2⟩ := hx.tuple ok.sub
      rw [intsOf_eq hi] at h2
      rw [Rps.ints.mp h2] at h1
      refine .inr ⟨p, n :: ns, rfl, h1, Nat.succ_pos _, fun m g1 g2 => ?_⟩
      rw [maxI_is g1 g2]
      exact q _ F H (Same.refl F) ok rfl
    · cases hf
  · cases hf
theorem cbd_min : CbD K minD (fun vs H Q => rMin K vs H Q ∨ rMinT K vs H Q) := by
  intro F G H σ ρ x d v Q ok hx hf q
  unfold minD bestD at hf
  split at hf
  · split at hf
    · rename_i xs n ns hi
      cases hf
      obtain ⟨p, vs, rfl, h1, h2⟩ := hx.list ok.sub
      rw [intsOf_eq hi] at h2
      rw [Rps.ints.mp h2] at h1
      refine .inl ⟨p, n :: ns, rfl, SqL.of h1, Nat.succ_pos _, fun m g1 g2 => ?_⟩
      rw [minI_is g1 g2]
      exact q _ F H (Same.refl F) ok rfl
    · cases hf
  · split at hf
    · rename_i xs n ns hi
      cases hf
      obtain ⟨p, vs, rfl, h1, _, h2⟩ := hx.tuple ok.sub
      rw [intsOf_eq hi] at h2
      rw [Rps.ints.mp h2] at h1
      refine .inr ⟨p, n :: ns, rfl, h1, Nat.succ_pos _, fun m g1 g2 => ?_⟩
      rw [minI_is g1 g2]
      exact q _ F H (Same.refl F) ok rfl
    · cases hf
  · cases hf
def anyD : D → Option D
  | .list xs => (boolsOf xs).map fun bs => .bool (bs.any id)
  | _ => none
def allD : D → Option D
  | .list xs => (boolsOf xs).map fun bs => .bool (bs.all id)
  | _ => none
theorem cbd_any : CbD K anyD (rAny K) := by
  intro F G H σ ρ x d v Q ok hx hf q
  unfold anyD at hf
  split at hf
  · rename_i xs
    cases hi : boolsOf xs with
    | none => rw [hi] at hf; cases hf
    | some ns =>
      rw [hi] at hf
      cases hf
      obtain ⟨p, vs, rfl, h1, h2⟩ := hx.list ok.sub
      rw [boolsOf_eq hi] at h2
      rw [Rps.bools.mp h2] at h1
      exact ⟨p, ns, rfl, SqL.of h1, q _ F H (Same.refl F) ok rfl⟩
  · cases hf
theorem cbd_all : CbD K allD (rAll K) := by
  intro F G H σ ρ x d v Q ok hx hf q
  unfold allD at hf
  split at hf
  · rename_i xs
    cases hi : boolsOf xs with
    | none => rw [hi] at hf; cases hf
    | some ns =>
      rw [hi] at hf
      cases hf
      obtain ⟨p, vs, rfl, h1, h2⟩ := hx.list ok.sub
      rw [boolsOf_eq hi] at h2
      rw [Rps.bools.mp h2] at h1
      exact ⟨p, ns, rfl, SqL.of h1, q _ F H (Same.refl F) ok rfl⟩
  · cases hf
/-- list(x) -/
def listO : D → Option Own
  | .list xs => some (.lst xs)
  | .tuple xs => some (.lst xs)
  | _ => none
theorem cbn_list : CbN K listO (fun xs H Q => ∃ p ys, xs = [.ref p] ∧ (SqL K H p ys ∨ SqT K H p ys) ∧ ∀ l, H l = none → Q (.ref l) (upd H l (.lst ys))) := by
  intro F G H σ ρ x d v Q ok hx hf q
  unfold listO at hf
  split at hf
  · cases hf
    obtain ⟨p, vs, rfl, h1, h2⟩ := hx.list ok.sub
    refine ⟨p, vs, rfl, .inl (SqL.of h1), fun l hl => ?_⟩
    obtain ⟨ok', n⟩ := ok.fresh (o := .lst vs) hl
    exact q l F _ (Same.refl F) ok' n ⟨vs, upd_same, h2⟩
  · cases hf
    obtain ⟨p, vs, rfl, h1, _, h2⟩ := hx.tuple ok.sub
    refine ⟨p, vs, rfl, .inr h1, fun l hl => ?_⟩
    obtain ⟨ok', n⟩ := ok.fresh (o := .lst vs) hl
    exact q l F _ (Same.refl F) ok' n ⟨vs, upd_same, h2⟩
  · cases hf
/-- tuple(x) -/
def tupleD : D → Option D
  | .list xs => some (.tuple xs)
  | .tuple xs => some (.tuple xs)
  | _ => none
theorem cbd_tuple : CbD K tupleD (fun xs H Q => ∃ p ys, xs = [.ref p] ∧ ((SqL K H p ys ∧ ∀ l, H l = none → Q (.ref l) (upd H l (.tup ys))) ∨ (SqT K H p ys ∧ Q (.ref p) H))) := by
  intro F G H σ ρ x d v Q ok hx hf q
  unfold tupleD at hf
  split at hf
  · cases hf
    obtain ⟨p, vs, rfl, h1, h2⟩ := hx.list ok.sub
    refine ⟨p, vs, rfl, .inl ⟨SqL.of h1, fun l hl => ?_⟩⟩
    obtain ⟨e, ok'⟩ := ok.alloc (o := .tup vs) hl
    exact q _ _ _ e ok' ⟨l, vs, rfl, SqT.of upd_same, Rps.mono e _ _ h2⟩
  · cases hf
    obtain ⟨p, vs, rfl, h1, h1f, h2⟩ := hx.tuple ok.sub
    exact ⟨p, vs, rfl, .inr ⟨h1, q _ F H (Same.refl F) ok ⟨p, vs, rfl, h1f, h2⟩⟩⟩
  · cases hf
/-- isinstance(x, T) -/
def tyName : D → String
  | .none => "NoneType"
  | .bool _ => "bool"
  | .int _ => "int"
  | .str _ => "str"
  | .list _ => "list"
  | .tuple _ => "tuple"
  | .dict _ => "dict"
def isiB (T : String) (n : String) : Bool := n == T || (n == "bool" && T == "int")
def isiD (T : String) : D → Option Bool
  | .dict _ => none
  | x => some (isiB T (tyName x))
def isiM (T : String) (m : M Rf) : M Bool := bnd m fun r => fun ρ => match look ρ r with
  | some x => (isiD T x).map fun b => (b, ρ)
  | none => none
theorem isiD_ok {T : String} {x : D} {b : Bool} (h : isiD T x = some b) : b = isiB T (tyName x) ∧ ∀ kvs, x ≠ .dict kvs := by
  cases x with
  | dict kvs => cases h
  | _ => cases h; exact ⟨rfl, fun _ z => nomatch z⟩
theorem Vw.ty {F H : Hp} {v : V} {d : D} (h : Vw K F H v d) (s : Same F H) (nd : ∀ kvs, d ≠ .dict kvs) : TyX K H v (.type (tyName d)) := by
  cases d with
  | none => cases h.non; exact .base .non
  | bool b => cases h.bl; exact .base (.bl b)
  | int i => cases h.int; exact .base (.int i)
  | str x => cases h.str; exact .base (.str x)
  | list xs =>
    obtain ⟨p, vs, rfl, h1, h2⟩ := h.list s
    exact .base (.lst h1)
  | tuple xs =>
    obtain ⟨p, vs, rfl, h1, _, h2⟩ := h.tuple s
    rcases h1 with (h1 | ⟨o, h1⟩) | ⟨o, its, n, k1, k2, _⟩
    · exact .base (.tup h1)
    · exact .fTuple h1
    · exact .kTuple k1 k2
  | dict kvs => exact absurd rfl (nd kvs)
theorem v_isi {T : String} {e : Expr} {m : M Rf} {p p2 pos : Pos} {x : Str} (hT : T = "int" ∨ T = "bool" ∨ T = "str" ∨ T = "tuple" ∨ T = "list") (hg : Gl X "isinstance") (hm : X.mg "isinstance" = none) (ht : Gl X x) (hmt : X.mg x = none) (hvt : bootBuiltins x = some (.type T)) (ha : PE X e (rdB X.K m))
    (hnt : x ≠ "__name__" := by decide) (hdt : (x == ("__debug__" : Str)) = false := by decide)
    (he : starEach (e :: [.Name x p2]) X.env = (false, eval e X.env) :: starEach [.Name x p2] X.env := by rfl) (he2 : starEach (.Name x p2 :: []) X.env = (false, eval (.Name x p2) X.env) :: starEach [] X.env := by rfl) (hpl : (backTo pos (starEach [.Name x p2] X.env)).any (·.1) = false := by rfl) :
    PE X (.Call (.Name "isinstance" p) [e, .Name x p2] [] pos) (rdV X.K (blM (isiM T m))) := by
  refine pe_imp (pe_callB call_isi hg hm boot_isinstance (pa_cons ha (pa_cons (pe_bltn (v := .ty T) ht hmt hvt rfl hnt hdt) pa_nil he2) he) (by decide) (by decide) he hpl) fun σ H Q h => ?_
  obtain ⟨F, G, ρ, d, ρ', ok, hm, q⟩ := h
  obtain ⟨b, h1, rfl⟩ := bl_some hm
  obtain ⟨r, ρ1, h2, h3⟩ := bnd_some h1
  have h3 : (match look ρ1 r with
    | some x => (isiD T x).map fun b => (b, ρ1)
    | none => none) = some (b, ρ') := h3
  split at h3
  · rename_i y hy
    obtain ⟨b', hb', hb2⟩ := Option.map_eq_some_iff.mp h3
    cases hb2
    obtain ⟨rfl, nd⟩ := isiD_ok hb'
    refine ⟨F, G, ρ, r, _, ok, h2, fun v F1 H1 s1 ok1 r1 => ⟨v, .ty T, .type (tyName y), .type T, _, rfl, .ty T, (look_ok ok1 r1 hy).ty ok1.sub nd, ?_, q _ F1 H1 s1 ok1 rfl⟩⟩
    have key : ∀ n ∈ ["NoneType", "bool", "int", "str", "list", "tuple", "dict"], ∀ T ∈ ["int", "bool", "str", "tuple", "list"], kitB n T = some (isiB T n) := by decide +kernel
    refine kit_ty (key _ ?_ _ ?_)
    · cases y <;> simp [tyName]
    · rcases hT with rfl | rfl | rfl | rfl | rfl <;> simp
  · cases h3
end
end Fx
/-! Fx: what a mirror gives, by weakest preconditions. No program in sight. -/
namespace Fx
open PySem PySem.Spec PyProof.Rows L2
variable [Wd]
def wp {α : Type} (m : M α) (ρ : Rho) (Q : α → Rho → Prop) : Prop := ∃ x ρ', m ρ = some (x, ρ') ∧ Q x ρ'
def fw (f : Fn) (args : List Sl) (R : Sl → List Sl → Prop) : Prop := ∃ r as, f args = some (r, as) ∧ R r as
def bop {α : Type} (f : D → D → Option α) (x y : Option D) (K : α → Prop) : Prop := ∃ a b z, x = some a ∧ y = some b ∧ f a b = some z ∧ K z
def uop {α : Type} (f : D → Option α) (x : Option D) (K : α → Prop) : Prop := ∃ a z, x = some a ∧ f a = some z ∧ K z
def seqK (k : Rho → Prop) (Q : Fl → Rho → Prop) : Fl → Rho → Prop
  | .nx, ρ => k ρ
  | f, ρ => Q f ρ
def valK (Q : D → Rho → Prop) : Sl → Rho → Prop
  | .v d, ρ => Q d ρ
  | .o (.lst xs), ρ => Q (.list xs) ρ
  | _, _ => False
def ownK (Q : Own → Rho → Prop) : Sl → Rho → Prop
  | .o b, ρ => Q b ρ
  | _, _ => False
def lopK (k : Rho → Prop) (Q : Fl → Rho → Prop) : Fl → Rho → Prop
  | .nx, ρ => k ρ
  | .ct, ρ => k ρ
  | .bk, ρ => Q .nx ρ
  | .rt r, ρ => Q (.rt r) ρ
def defK (pr : List Nat) (np : Nat) (R : Sl → List Sl → Prop) : Fl → Rho → Prop
  | .nx, ρ => R (.v .none) (outs pr np ρ)
  | .rt (.v d), ρ => R (.v d) (outs pr np ρ)
  | .rt (.o b), ρ => R (.o b) (outs pr np ρ)
  | .rt (.t b), ρ => R (.t b) (outs pr np ρ)
  | _, _ => False
def tstK (Q : Bool → Rho → Prop) : D → Rho → Prop
  | .bool b, ρ => Q b ρ
  | _, _ => False
def partK (Q : Option Int → Rho → Prop) : D → Rho → Prop
  | .int i, ρ => Q (some i) ρ
  | _, _ => False
def callK (f : Fn) (Q : Sl → Rho → Prop) (rs : List Rf) (ρ : Rho) : Prop := ∃ args, argsR ρ rs = some args ∧ (slotsR rs).Nodup ∧ fw f args fun r as => Q r (backR rs as ρ)
def frzK (Q : D → Rho → Prop) : Own → Rho → Prop
  | .lst xs, ρ => Q (.list xs) ρ
  | .dd kvs, ρ => Q (.dict kvs) ρ
  | _, _ => False
section
variable {α β : Type} {ρ : Rho} {d : D}
theorem wp_mono {m : M α} {Q Q' : α → Rho → Prop} (h : wp m ρ Q) (i : ∀ x ρ', Q x ρ' → Q' x ρ') : wp m ρ Q' := let ⟨x, ρ', e, q⟩ := h; ⟨x, ρ', e, i _ _ q⟩
theorem fw_mono {f : Fn} {args : List Sl} {R R' : Sl → List Sl → Prop} (h : fw f args R) (i : ∀ r as, R r as → R' r as) : fw f args R' := let ⟨x, ρ', e, q⟩ := h; ⟨x, ρ', e, i _ _ q⟩
theorem wp_bnd {m : M α} {f : α → M β} {Q : β → Rho → Prop} (h : wp m ρ fun x ρ1 => wp (f x) ρ1 Q) : wp (bnd m f) ρ Q := by
  obtain ⟨x, ρ1, h1, y, ρ2, h2, q⟩ := h
  exact ⟨y, ρ2, (bnd_eq h1).trans h2, q⟩
theorem wp_ret {x : α} {Q : α → Rho → Prop} (h : Q x ρ) : wp (ret x) ρ Q := ⟨x, ρ, rfl, h⟩
theorem wp_skip {Q : Fl → Rho → Prop} (h : Q .nx ρ) : wp skipM ρ Q := ⟨_, ρ, rfl, h⟩
theorem wp_c {Q : D → Rho → Prop} (h : Q d ρ) : wp (cM d) ρ Q := ⟨d, ρ, rfl, h⟩
theorem wp_get {i : Nat} {Q : D → Rho → Prop} (e : ρ[i]? = some (.v d)) (h : Q d ρ) : wp (getM i) ρ Q := ⟨d, ρ, by unfold getM; rw [e], h⟩
theorem wp_getD {i : Nat} {kvs : List (D × D)} {Q : D → Rho → Prop} (e : ρ[i]? = some (.o (.dd kvs))) (h : Q (.dict kvs) (ρ.set i (.v (.dict kvs)))) : wp (getM i) ρ Q := ⟨_, _, by unfold getM; rw [e], h⟩
theorem wp_getO {i : Nat} {xs : List D} {Q : D → Rho → Prop} (e : ρ[i]? = some (.o (.lst xs))) (h : Q (.list xs) (ρ.set i (.v (.list xs)))) : wp (getM i) ρ Q := ⟨_, _, by unfold getM; rw [e], h⟩
theorem wp_ref {i : Nat} {Q : Rf → Rho → Prop} (e : ρ[i]? = some (.v d)) (h : Q (.val d) ρ) : wp (refM i) ρ Q := ⟨_, ρ, by unfold refM; rw [e], h⟩
theorem wp_refO {i : Nat} {b : Own} {Q : Rf → Rho → Prop} (e : ρ[i]? = some (.o b)) (h : Q (.slot i) ρ) : wp (refM i) ρ Q := ⟨_, ρ, by unfold refM; rw [e], h⟩
theorem wp_arg {i : Nat} {Q : Rf → Rho → Prop} (e : ρ[i]? = some (.v d)) (h : Q (.val d) ρ) : wp (argM i) ρ Q := ⟨_, ρ, by unfold argM; rw [e], h⟩
theorem wp_argO {i : Nat} {b : Own} {Q : Rf → Rho → Prop} (e : ρ[i]? = some (.o b)) (h : Q (.slot i) ρ) : wp (argM i) ρ Q := ⟨_, ρ, by unfold argM; rw [e], h⟩
theorem wp_argS {i : Nat} {b : List Int} {Q : Rf → Rho → Prop} (e : ρ[i]? = some (.s b)) (h : Q (.slot i) ρ) : wp (argM i) ρ Q := ⟨_, ρ, by unfold argM; rw [e], h⟩
theorem wp_argT {i : Nat} {b : Tr} {Q : Rf → Rho → Prop} (e : ρ[i]? = some (.t b)) (h : Q (.slot i) ρ) : wp (argM i) ρ Q := ⟨_, ρ, by unfold argM; rw [e], h⟩
theorem wp_val {m : M D} {Q : Rf → Rho → Prop} (h : wp m ρ fun d ρ' => Q (.val d) ρ') : wp (valM m) ρ Q := wp_bnd (wp_mono h fun x ρ' q => wp_ret q)
theorem wp_bin {f : D → D → Option α} {a b : M Rf} {Q : α → Rho → Prop} (h : wp a ρ fun r ρ1 => wp b ρ1 fun s ρ2 => bop f (look ρ2 r) (look ρ2 s) fun z => Q z ρ2) : wp (binM f a b) ρ Q := by
  obtain ⟨r, ρ1, h1, s, ρ2, h2, x, y, z, e1, e2, e3, q⟩ := h
  refine ⟨z, ρ2, (bnd_eq h1).trans ((bnd_eq h2).trans ?_), q⟩
  show (match look ρ2 r, look ρ2 s with
    | some x, some y => (f x y).map fun z => (z, ρ2)
    | _, _ => none) = _
  rw [e1, e2]
  show (f x y).map _ = _
  rw [e3]
  rfl
theorem wp_b1 {f : D → Option α} {a : M Rf} {Q : α → Rho → Prop} (h : wp a ρ fun r ρ1 => uop f (look ρ1 r) fun z => Q z ρ1) : wp (b1M f a) ρ Q := by
  obtain ⟨r, ρ1, h1, x, z, e1, e3, q⟩ := h
  refine ⟨z, ρ1, (bnd_eq h1).trans ?_, q⟩
  show (match look ρ1 r with
    | some x => (f x).map fun z => (z, ρ1)
    | none => none) = _
  rw [e1]
  show (f x).map _ = _
  rw [e3]
  rfl
theorem wp_un {f : D → Option D} {a : M D} {Q : D → Rho → Prop} (h : wp a ρ fun x ρ1 => uop f (some x) fun z => Q z ρ1) : wp (unM f a) ρ Q := by
  obtain ⟨x, ρ1, h1, y, z, e1, e3, q⟩ := h
  cases e1
  refine ⟨z, ρ1, (bnd_eq h1).trans ?_, q⟩
  unfold lft
  rw [e3]
theorem wp_tst {m : M D} {Q : Bool → Rho → Prop} (h : wp m ρ (tstK Q)) : wp (tstM m) ρ Q := by
  obtain ⟨x, ρ1, h1, q⟩ := h
  cases x with
  | bool b => exact ⟨b, ρ1, (bnd_eq h1).trans rfl, q⟩
  | _ => exact q.elim
theorem wp_and {a b : M Bool} {Q : Bool → Rho → Prop} (h : wp a ρ fun c ρ1 => (c = true → wp b ρ1 Q) ∧ (c = false → Q false ρ1)) : wp (andM a b) ρ Q := by
  obtain ⟨c, ρ1, h1, q1, q2⟩ := h
  refine wp_bnd ⟨c, ρ1, h1, ?_⟩
  cases c with
  | true => exact q1 rfl
  | false => exact wp_ret (q2 rfl)
theorem wp_or {a b : M Bool} {Q : Bool → Rho → Prop} (h : wp a ρ fun c ρ1 => (c = true → Q true ρ1) ∧ (c = false → wp b ρ1 Q)) : wp (orM a b) ρ Q := by
  obtain ⟨c, ρ1, h1, q1, q2⟩ := h
  refine wp_bnd ⟨c, ρ1, h1, ?_⟩
  cases c with
  | true => exact wp_ret (q1 rfl)
  | false => exact q2 rfl
theorem wp_not {a : M Bool} {Q : Bool → Rho → Prop} (h : wp a ρ fun c ρ1 => Q (!c) ρ1) : wp (notM a) ρ Q := wp_bnd (wp_mono h fun _ _ q => wp_ret q)
theorem wp_bl {a : M Bool} {Q : D → Rho → Prop} (h : wp a ρ fun c ρ1 => Q (.bool c) ρ1) : wp (blM a) ρ Q := wp_bnd (wp_mono h fun _ _ q => wp_ret q)
theorem wp_ite {c : M Bool} {a b : M α} {Q : α → Rho → Prop} (h : wp c ρ fun x ρ1 => (x = true → wp a ρ1 Q) ∧ (x = false → wp b ρ1 Q)) : wp (iteM c a b) ρ Q := by
  obtain ⟨x, ρ1, h1, q1, q2⟩ := h
  refine wp_bnd ⟨x, ρ1, h1, ?_⟩
  cases x with
  | true => exact q1 rfl
  | false => exact q2 rfl
theorem wp_tru {a : M Rf} {Q : Bool → Rho → Prop} (h : wp a ρ fun r ρ1 => uop truD (look ρ1 r) fun z => Q z ρ1) : wp (truM a) ρ Q := by
  obtain ⟨r, ρ1, h1, x, z, e1, e3, q⟩ := h
  refine ⟨z, ρ1, (bnd_eq h1).trans ?_, q⟩
  show (match look ρ1 r with
    | some d => (truD d).map fun b => (b, ρ1)
    | none => none) = _
  rw [e1]
  show (truD x).map _ = _
  rw [e3]
  rfl
theorem wp_isi {T : String} {a : M Rf} {Q : Bool → Rho → Prop} (h : wp a ρ fun r ρ1 => uop (isiD T) (look ρ1 r) fun z => Q z ρ1) : wp (isiM T a) ρ Q := by
  obtain ⟨r, ρ1, h1, x, z, e1, e3, q⟩ := h
  refine ⟨z, ρ1, (bnd_eq h1).trans ?_, q⟩
  show (match look ρ1 r with
    | some x => (isiD T x).map fun b => (b, ρ1)
    | none => none) = _
  rw [e1]
  show (isiD T x).map _ = _
  rw [e3]
  rfl
theorem wp_chain {p p' : Int → Int → Bool} {a b c : M D} {Q : Bool → Rho → Prop} (h : wp a ρ fun x ρ1 => wp b ρ1 fun y ρ2 => ∃ i j, x = .int i ∧ y = .int j ∧ (p i j = true → wp c ρ2 fun z ρ3 => ∃ k, z = .int k ∧ Q (p' j k) ρ3) ∧ (p i j = false → Q false ρ2)) : wp (chainM p p' a b c) ρ Q := by
  obtain ⟨x, ρ1, h1, y, ρ2, h2, i, j, rfl, rfl, q1, q2⟩ := h
  refine wp_bnd ⟨_, ρ1, h1, wp_bnd ⟨_, ρ2, h2, ?_⟩⟩
  show wp (if p i j then _ else _) ρ2 Q
  cases hp : p i j with
  | true =>
    rw [if_pos rfl]
    obtain ⟨z, ρ3, h3, k, rfl, q⟩ := q1 hp
    exact wp_bnd ⟨_, ρ3, h3, wp_ret q⟩
  | false =>
    rw [if_neg Bool.false_ne_true]
    exact wp_ret (q2 hp)
theorem wp_sl {f : D → Option Int → Option Int → Option α} {m : M Rf} {lo hi : M (Option Int)} {Q : α → Rho → Prop} (h : wp m ρ fun r ρ1 => wp lo ρ1 fun l ρ2 => wp hi ρ2 fun u ρ3 => uop (fun x => f x l u) (look ρ3 r) fun z => Q z ρ3) : wp (slM f m lo hi) ρ Q := by
  obtain ⟨r, ρ1, h1, l, ρ2, h2, u, ρ3, h3, x, z, e1, e2, q⟩ := h
  refine ⟨z, ρ3, (bnd_eq h1).trans ((bnd_eq h2).trans ((bnd_eq h3).trans ?_)), q⟩
  show (match look ρ3 r with
    | some x => (f x l u).map fun z => (z, ρ3)
    | none => none) = _
  rw [e1]
  show (f x l u).map _ = _
  rw [show f x l u = some z from e2]
  rfl
theorem wp_no {Q : Option Int → Rho → Prop} (h : Q none ρ) : wp noM ρ Q := ⟨_, ρ, rfl, h⟩
theorem wp_part {m : M D} {Q : Option Int → Rho → Prop} (h : wp m ρ (partK Q)) : wp (partM m) ρ Q := by
  obtain ⟨x, ρ1, h1, q⟩ := h
  cases x with
  | int b => exact ⟨_, ρ1, (bnd_eq h1).trans rfl, q⟩
  | _ => exact q.elim
theorem wp_nilA {Q : List D → Rho → Prop} (h : Q [] ρ) : wp nilM ρ Q := ⟨_, ρ, rfl, h⟩
theorem wp_consA {m : M D} {n : M (List D)} {Q : List D → Rho → Prop} (h : wp m ρ fun d ρ1 => wp n ρ1 fun ds ρ2 => Q (d :: ds) ρ2) : wp (consM m n) ρ Q := wp_bnd (wp_mono h fun _ _ q => wp_bnd (wp_mono q fun _ _ q => wp_ret q))
theorem wp_nilC {Q : List Rf → Rho → Prop} (h : Q [] ρ) : wp nilC ρ Q := ⟨_, ρ, rfl, h⟩
theorem wp_consC {m : M Rf} {n : M (List Rf)} {Q : List Rf → Rho → Prop} (h : wp m ρ fun d ρ1 => wp n ρ1 fun ds ρ2 => Q (d :: ds) ρ2) : wp (consC m n) ρ Q := wp_bnd (wp_mono h fun _ _ q => wp_bnd (wp_mono q fun _ _ q => wp_ret q))
theorem wp_tup {m : M (List D)} {Q : D → Rho → Prop} (h : wp m ρ fun ds ρ1 => fitS ds.length = true ∧ Q (.tuple ds) ρ1) : wp (tupM m) ρ Q := wp_bnd (wp_mono h fun ds ρ1 q => by
  rw [if_pos q.1]
  exact wp_ret q.2)
theorem wp_lst {m : M (List D)} {Q : Own → Rho → Prop} (h : wp m ρ fun ds ρ1 => fitS ds.length = true ∧ Q (.lst ds) ρ1) : wp (lstM m) ρ Q := wp_bnd (wp_mono h fun ds ρ1 q => by
  rw [if_pos q.1]
  exact wp_ret q.2)
theorem wp_frz {m : M Own} {Q : D → Rho → Prop} (h : wp m ρ (frzK Q)) : wp (frzM m) ρ Q := by
  obtain ⟨x, ρ1, h1, q⟩ := h
  cases x with
  | lst xs => exact ⟨_, ρ1, (bnd_eq h1).trans rfl, q⟩
  | dd kvs => exact ⟨_, ρ1, (bnd_eq h1).trans rfl, q⟩
  | dk _ => exact q.elim
  | dt _ => exact q.elim
theorem wp_valS {m : M Sl} {Q : D → Rho → Prop} (h : wp m ρ (valK Q)) : wp (valS m) ρ Q := by
  obtain ⟨x, ρ1, h1, q⟩ := h
  cases x with
  | v d => exact ⟨_, ρ1, (bnd_eq h1).trans rfl, q⟩
  | o b =>
    cases b with
    | lst xs => exact ⟨_, ρ1, (bnd_eq h1).trans rfl, q⟩
    | _ => exact q.elim
  | _ => exact q.elim
theorem wp_ownS {m : M Sl} {Q : Own → Rho → Prop} (h : wp m ρ (ownK Q)) : wp (ownS m) ρ Q := by
  obtain ⟨x, ρ1, h1, q⟩ := h
  cases x with
  | o b => exact ⟨_, ρ1, (bnd_eq h1).trans rfl, q⟩
  | _ => exact q.elim
theorem wp_call {f : Fn} {m : M (List Rf)} {Q : Sl → Rho → Prop} (h : wp m ρ (callK f Q)) : wp (callM f m) ρ Q := by
  obtain ⟨rs, ρ1, h1, args, ha, nd, r, as, hf, q⟩ := h
  refine ⟨r, _, (bnd_eq h1).trans ?_, q⟩
  show (match argsR ρ1 rs with
    | some args => if (slotsR rs).Nodup then (match f args with
      | some (r, args') => some (r, backR rs args' ρ1)
      | none => none) else none
    | none => none) = _
  rw [ha]
  show (if (slotsR rs).Nodup then (match f args with
      | some (r, args') => some (r, backR rs args' ρ1)
      | none => none) else none) = _
  rw [if_pos nd, hf]
/-! statements -/
theorem wp_seq {a b : MS} {Q : Fl → Rho → Prop} (h : wp a ρ (seqK (fun ρ1 => wp b ρ1 Q) Q)) : wp (seqM a b) ρ Q := by
  obtain ⟨f, ρ1, h1, q⟩ := h
  refine wp_bnd ⟨f, ρ1, h1, ?_⟩
  cases f with
  | nx => exact q
  | bk => exact wp_ret q
  | ct => exact wp_ret q
  | rt r => exact wp_ret q
/-- a cut: what holds between two statements -/
theorem wp_cut {a b : MS} {Q : Fl → Rho → Prop} (J : Rho → Prop) (h : wp a ρ (seqK J Q)) (k : ∀ ρ1, J ρ1 → wp b ρ1 Q) : wp (seqM a b) ρ Q := wp_seq (wp_mono h fun f ρ1 q => by
  cases f with
  | nx => exact k ρ1 q
  | bk => exact q
  | ct => exact q
  | rt r => exact q)
theorem wp_rt {m : M D} {Q : Fl → Rho → Prop} (h : wp m ρ fun d ρ' => Q (.rt (.v d)) ρ') : wp (retM m) ρ Q := wp_bnd (wp_mono h fun _ _ q => wp_ret q)
theorem wp_rtN {m : M Own} {Q : Fl → Rho → Prop} (h : wp m ρ fun d ρ' => Q (.rt (.o d)) ρ') : wp (retNM m) ρ Q := wp_bnd (wp_mono h fun _ _ q => wp_ret q)
theorem wp_rtO {i : Nat} {b : Own} {Q : Fl → Rho → Prop} (e : ρ[i]? = some (.o b)) (h : Q (.rt (.o b)) (ρ.set i .u)) : wp (retOM i) ρ Q := ⟨_, _, by unfold retOM; rw [e], h⟩
theorem wp_asgN {i : Nat} {m : M D} {Q : Fl → Rho → Prop} (h : wp m ρ fun d ρ1 => Q .nx (ρ1.set i (.v d))) : wp (asgM m (nameT i)) ρ Q := by
  obtain ⟨d, ρ1, h1, q⟩ := h
  exact ⟨_, _, (bnd_eq h1).trans rfl, q⟩
theorem wp_asg {t : D → Rho → Option Rho} {m : M D} {Q : Fl → Rho → Prop} (h : wp m ρ fun d ρ1 => ∃ ρ2, t d ρ1 = some ρ2 ∧ Q .nx ρ2) : wp (asgM m t) ρ Q := by
  obtain ⟨d, ρ1, h1, ρ2, h2, q⟩ := h
  refine ⟨_, _, (bnd_eq h1).trans ?_, q⟩
  show (t d ρ1).map _ = _
  rw [h2]
  rfl
theorem wp_setN {i : Nat} {m : M Own} {Q : Fl → Rho → Prop} (h : wp m ρ fun b ρ1 => Q .nx (ρ1.set i (.o b))) : wp (setNM i m) ρ Q := by
  obtain ⟨d, ρ1, h1, q⟩ := h
  exact ⟨_, _, (bnd_eq h1).trans rfl, q⟩
theorem wp_drop {m : M D} {Q : Fl → Rho → Prop} (h : wp m ρ fun _ ρ1 => Q .nx ρ1) : wp (dropM m) ρ Q := wp_bnd (wp_mono h fun _ _ q => wp_ret q)
theorem wp_par {i j : Nat} {m n : M D} {Q : Fl → Rho → Prop} (h : wp m ρ fun d ρ1 => wp n ρ1 fun e ρ2 => Q .nx ((ρ2.set i (.v d)).set j (.v e))) : wp (parM i j m n) ρ Q := by
  obtain ⟨d, ρ1, h1, e, ρ2, h2, q⟩ := h
  exact ⟨_, _, (bnd_eq h1).trans ((bnd_eq h2).trans rfl), q⟩
theorem wp_aug {i : Nat} {a : Int} {f : Int → Int → Int} {m : M D} {Q : Fl → Rho → Prop} (e : ρ[i]? = some (.v (.int a))) (h : wp m ρ fun d ρ1 => ∃ b, d = .int b ∧ Q .nx (ρ1.set i (.v (.int (f a b))))) : wp (augM i f m) ρ Q := by
  obtain ⟨d, ρ1, h1, b, rfl, q⟩ := h
  refine ⟨_, _, ?_, q⟩
  unfold augM
  rw [e]
  exact (bnd_eq h1).trans rfl
theorem wp_own {i : Nat} {b : Own} {Q : Unit → Rho → Prop} (e : ρ[i]? = some (.o b)) (h : Q () ρ) : wp (ownM i) ρ Q := ⟨_, _, by unfold ownM; rw [e], h⟩
theorem wp_ownL {i : Nat} {xs : List D} {Q : Unit → Rho → Prop} (e : ρ[i]? = some (.o (.lst xs))) (h : Q () ρ) : wp (ownLM i) ρ Q := ⟨_, _, by unfold ownLM; rw [e], h⟩
theorem wp_putL {i j : Nat} {xs : List D} {k : Int} {Q : Fl → Rho → Prop} (e : ρ[i]? = some (.o (.lst xs))) (hj : ixN xs.length k = some j) (h : Q .nx (ρ.set i (.o (.lst (xs.set j d))))) : wp (putL i d (.int k)) ρ Q := by
  refine ⟨_, _, ?_, h⟩
  unfold putL
  rw [e]
  show (match ixN xs.length k with
    | some j => some (Fl.nx, ρ.set i (.o (.lst (xs.set j d))))
    | none => none) = _
  rw [hj]
theorem wp_setIt {i : Nat} {m n : M D} {Q : Fl → Rho → Prop} (h : wp m ρ fun d ρ1 => wp (ownM i) ρ1 fun _ ρ2 => wp n ρ2 fun k ρ3 => wp (putL i d k) ρ3 Q) : wp (setItM i m n) ρ Q := wp_bnd (wp_mono h fun _ _ q => wp_bnd (wp_mono q fun _ _ q => wp_bnd q))
theorem wp_augIt {i : Nat} {f : Int → Int → Int} {m n : M D} {Q : Fl → Rho → Prop} (h : wp (ownM i) ρ fun _ ρ2 => wp n ρ2 fun k ρ3 => wp (augIt i f k m) ρ3 Q) : wp (augItM i f n m) ρ Q := wp_bnd (wp_mono h fun _ _ q => wp_bnd q)
theorem wp_putD {i : Nat} {kvs : List (D × D)} {k : D} {Q : Fl → Rho → Prop} (e : ρ[i]? = some (.o (.dd kvs))) (hf : keyFit kvs k = true) (hl : kvs.length < sizeLine) (h : Q .nx (ρ.set i (.o (.dd (putD kvs k d))))) : wp (putL i d k) ρ Q := by
  refine ⟨_, _, ?_, h⟩
  unfold putL
  rw [e]
  show (if keyFit kvs k && decide (kvs.length < sizeLine) then _ else none) = _
  rw [if_pos (by rw [hf, decide_eq_true hl]; rfl)]
theorem wp_augItG {i : Nat} {f : Int → Int → Int} {a : Int} {k : D} {m : M D} {Q : Fl → Rho → Prop} (ha : atS ρ i k = some (.int a)) (h : wp m ρ fun d ρ3 => ∃ b, d = .int b ∧ wp (putL i (.int (f a b)) k) ρ3 Q) : wp (augIt i f k m) ρ Q := by
  obtain ⟨d, ρ1, h1, b, rfl, y, ρ2, h2, q⟩ := h
  refine ⟨y, ρ2, ?_, q⟩
  unfold augIt
  rw [ha]
  exact (bnd_eq h1).trans h2
theorem wp_augIt' {i : Nat} {f : Int → Int → Int} {xs : List D} {k a : Int} {m : M D} {Q : Fl → Rho → Prop} (e : ρ[i]? = some (.o (.lst xs))) (ha : atI xs k = some (.int a)) (h : wp m ρ fun d ρ3 => ∃ b, d = .int b ∧ wp (putL i (.int (f a b)) (.int k)) ρ3 Q) : wp (augIt i f (.int k) m) ρ Q := wp_augItG (by unfold atS; rw [e]; exact ha) h
theorem wp_augItD {i : Nat} {f : Int → Int → Int} {kvs : List (D × D)} {k : D} {a : Int} {m : M D} {Q : Fl → Rho → Prop} (e : ρ[i]? = some (.o (.dd kvs))) (hf : keyFit kvs k = true) (ha : lookD kvs k = some (.int a)) (h : wp m ρ fun d ρ3 => ∃ b, d = .int b ∧ wp (putL i (.int (f a b)) k) ρ3 Q) : wp (augIt i f k m) ρ Q := wp_augItG (by unfold atS; rw [e]; show (if keyFit kvs k then lookD kvs k else none) = _; rw [if_pos hf, ha]) h
/-! loops -/
theorem wp_forM {m : M (List D)} {t : D → Rho → Option Rho} {b : MS} {Q : Fl → Rho → Prop} (h : wp m ρ fun xs ρ1 => wp (forL t b xs) ρ1 Q) : wp (forM m t b) ρ Q := wp_bnd h
theorem wp_forL {xs : List D} {t : D → Rho → Option Rho} {b : MS} {Q : Fl → Rho → Prop} (I : Nat → Rho → Prop) (h0 : I 0 ρ) (hs : ∀ (i : Nat) (x : D) (ρ : Rho), xs[i]? = some x → I i ρ → ∃ ρ1, t x ρ = some ρ1 ∧ wp b ρ1 (lopK (fun ρ' => I (i + 1) ρ') Q)) (hd : ∀ ρ, I xs.length ρ → Q .nx ρ) : wp (forL t b xs) ρ Q := by
  induction xs generalizing I ρ with
  | nil => exact wp_ret (hd ρ h0)
  | cons x xs ih =>
    obtain ⟨ρ1, ht, f, ρ2, hb, q⟩ := hs 0 x ρ rfl h0
    have tl : ∀ ρ3, I 1 ρ3 → wp (forL t b xs) ρ3 Q := fun ρ3 h3 => ih (I := fun i ρ => I (i + 1) ρ) h3 (fun i y ρ hi hI => hs (i + 1) y ρ (by simpa using hi) hI) (fun ρ h => hd ρ h)
    have e : forL t b (x :: xs) ρ = (match f with
      | .nx => forL t b xs
      | .ct => forL t b xs
      | .bk => ret .nx
      | .rt r => ret (.rt r)) ρ2 := by
      show (match t x ρ with
        | some ρ1 => bnd b (fun fl => match fl with
          | .nx => forL t b xs
          | .ct => forL t b xs
          | .bk => ret .nx
          | .rt r => ret (.rt r)) ρ1
        | none => none) = _
      rw [ht]
      exact bnd_eq hb
    unfold wp
    rw [e]
    cases f with
    | nx => exact tl ρ2 q
    | ct => exact tl ρ2 q
    | bk => exact ⟨_, _, rfl, q⟩
    | rt r => exact ⟨_, _, rfl, q⟩
theorem wp_while {c : M Bool} {b : MS} {Q : Fl → Rho → Prop} (I : Nat → Rho → Prop) (n : Nat) (h0 : I n ρ) (hs : ∀ n ρ, I n ρ → wp c ρ fun k ρ1 => (k = true → wp b ρ1 (lopK (fun ρ' => ∃ m, m < n ∧ I m ρ') Q)) ∧ (k = false → Q .nx ρ1)) : wp (whileM c b) ρ Q := by
  induction n using Nat.strongRecOn generalizing ρ with
  | ind n ih =>
    rw [whileM_eq]
    refine wp_bnd (wp_mono (hs n ρ h0) fun k ρ1 q => ?_)
    cases k with
    | false => exact wp_ret (q.2 rfl)
    | true =>
      refine wp_bnd (wp_mono (q.1 rfl) fun f ρ2 q => ?_)
      cases f with
      | nx => obtain ⟨m, hm, hi⟩ := q; exact ih m hm hi
      | ct => obtain ⟨m, hm, hi⟩ := q; exact ih m hm hi
      | bk => exact wp_ret q
      | rt r => exact wp_ret q
/-! comprehensions -/
theorem wp_lc {m : M (List D)} {vs : List Nat} {t : D → Rho → Option Rho} {c : M Bool} {e : M D} {Q : Own → Rho → Prop} (h : wp m ρ fun xs ρ1 => wp (lcL vs t c e xs) (wipeR ρ1 vs) fun ds ρ2 => fitS ds.length = true ∧ Q (.lst ds) ρ2) : wp (lcM m vs t c e) ρ Q := by
  refine wp_bnd (wp_mono h fun xs ρ1 q => wp_bnd ⟨_, _, rfl, wp_bnd (wp_mono q fun ds ρ2 q => ?_)⟩)
  rw [if_pos q.1]
  exact wp_ret q.2
/-- by an invariant over (turn, what is made so far, the slots) -/
theorem wp_lcL {xs : List D} {vs : List Nat} {t : D → Rho → Option Rho} {c : M Bool} {e : M D} {Q : List D → Rho → Prop} (I : Nat → List D → Rho → Prop) (h0 : I 0 [] ρ)
    (hs : ∀ (i : Nat) (x : D) (acc : List D) (ρ : Rho), xs[i]? = some x → I i acc ρ → ∃ ρ1, t x ρ = some ρ1 ∧ wp c ρ1 fun k ρ2 => (k = true → wp e ρ2 fun d ρ3 => I (i + 1) (acc ++ [d]) (wipeR ρ3 vs)) ∧ (k = false → I (i + 1) acc (wipeR ρ2 vs)))
    (hd : ∀ acc ρ, I xs.length acc ρ → Q acc ρ) : wp (lcL vs t c e xs) ρ Q := by
  suffices key : ∀ (ys : List D) (j : Nat) (acc : List D) (ρ : Rho), xs.drop j = ys → j ≤ xs.length → I j acc ρ → wp (lcL vs t c e ys) ρ fun ds ρ' => Q (acc ++ ds) ρ' by
    have := key xs 0 [] ρ rfl (Nat.zero_le _) h0
    exact this
  intro ys
  induction ys with
  | nil =>
    intro j acc ρ hj hl hI
    have e : j = xs.length := by
      have := congrArg List.length hj
      rw [List.length_drop] at this
      simp at this
      omega
    subst e
    exact wp_ret (by rw [List.append_nil]; exact hd acc ρ hI)
  | cons y ys ih =>
    intro j acc ρ hj hl hI
    have hlt : j < xs.length := by
      have := congrArg List.length hj
      rw [List.length_drop, List.length_cons] at this
      omega
    have hy : xs[j]? = some y ∧ xs.drop (j + 1) = ys := by
      rw [List.drop_eq_getElem_cons hlt] at hj
      injection hj with a b
      exact ⟨by rw [List.getElem?_eq_getElem hlt, a], b⟩
    obtain ⟨ρ1, ht, k, ρ2, hc, q1, q2⟩ := hs j y acc ρ hy.1 hI
    have eq : lcL vs t c e (y :: ys) ρ = (if k then bnd e fun d => bnd (wipeM vs) fun _ => bnd (lcL vs t c e ys) fun ds => ret (d :: ds) else bnd (wipeM vs) fun _ => lcL vs t c e ys) ρ2 := by
      show (match t y ρ with
        | some ρ1 => bnd c (fun k => if k then bnd e fun d => bnd (wipeM vs) fun _ => bnd (lcL vs t c e ys) fun ds => ret (d :: ds) else bnd (wipeM vs) fun _ => lcL vs t c e ys) ρ1
        | none => none) = _
      rw [ht]
      exact bnd_eq hc
    unfold wp
    rw [eq]
    cases k with
    | false =>
      refine wp_bnd (m := wipeM vs) (f := fun _ => lcL vs t c e ys) ⟨(), _, rfl, ?_⟩
      exact ih (j + 1) acc _ hy.2 hlt (q2 rfl)
    | true =>
      obtain ⟨d, ρ3, he, q⟩ := q1 rfl
      refine wp_bnd ⟨d, ρ3, he, wp_bnd ⟨(), _, rfl, wp_bnd (wp_mono (ih (j + 1) (acc ++ [d]) _ hy.2 hlt q) fun ds ρ4 q => wp_ret ?_)⟩⟩
      rw [List.append_assoc] at q
      exact q
/-- without a test: the i-th made is what the i-th item gives -/
theorem wp_lcT {xs : List D} {vs : List Nat} {t : D → Rho → Option Rho} {e : M D} {Q : List D → Rho → Prop} (I : Nat → List D → Rho → Prop) (h0 : I 0 [] ρ)
    (hs : ∀ (i : Nat) (x : D) (acc : List D) (ρ : Rho), xs[i]? = some x → acc.length = i → I i acc ρ → ∃ ρ1, t x ρ = some ρ1 ∧ wp e ρ1 fun d ρ3 => I (i + 1) (acc ++ [d]) (wipeR ρ3 vs))
    (hd : ∀ acc ρ, acc.length = xs.length → I xs.length acc ρ → Q acc ρ) : wp (lcL vs t (ret true) e xs) ρ Q := by
  refine wp_lcL (fun i acc ρ => acc.length = i ∧ I i acc ρ) ⟨rfl, h0⟩ ?_ (fun acc ρ h => hd acc ρ h.1 h.2)
  rintro i x acc ρ hx ⟨hl, hI⟩
  obtain ⟨ρ1, ht, h⟩ := hs i x acc ρ hx hl hI
  refine ⟨ρ1, ht, wp_ret ⟨fun _ => wp_mono h fun d ρ3 q => ⟨?_, q⟩, fun h => by cases h⟩⟩
  rw [List.length_append, hl]
  rfl
theorem wp_it {m : M D} {Q : List D → Rho → Prop} (h : wp m ρ fun d ρ1 => uop itemsD (some d) fun xs => Q xs ρ1) : wp (itM m) ρ Q := by
  obtain ⟨d, ρ1, h1, y, xs, e1, e2, q⟩ := h
  cases e1
  refine ⟨xs, ρ1, (bnd_eq h1).trans ?_, q⟩
  unfold lft
  rw [e2]
theorem wp_scr {i : Nat} {ns : List Int} {Q : List D → Rho → Prop} (e : ρ[i]? = some (.s ns)) (h : Q (ns.map PyData.int) ρ) : wp (scrM i) ρ Q := ⟨_, _, by unfold scrM; rw [e], h⟩
theorem wp_rng1 {m : M (List D)} {Q : List D → Rho → Prop} (h : wp m ρ fun ds ρ1 => ∃ n, ds = [.int n] ∧ -(2 ^ 62) ≤ n ∧ n < 2 ^ 62 ∧ Q (rngL 0 n.toNat) ρ1) : wp (rng1M m) ρ Q := by
  obtain ⟨ds, ρ1, h1, n, rfl, h2, h3, q⟩ := h
  refine ⟨_, ρ1, (bnd_eq h1).trans ?_, q⟩
  show (if decide (-(2 ^ 62) ≤ n) && decide (n < 2 ^ 62) then ret (rngL 0 n.toNat) else fun _ => none) ρ1 = _
  rw [if_pos (by rw [decide_eq_true h2, decide_eq_true h3]; rfl)]
  rfl
theorem wp_rng2 {m : M (List D)} {Q : List D → Rho → Prop} (h : wp m ρ fun ds ρ1 => ∃ a n, ds = [.int a, .int n] ∧ (-(2 ^ 62) ≤ a ∧ a < 2 ^ 62 ∧ -(2 ^ 62) ≤ n ∧ n < 2 ^ 62) ∧ Q (rngL a (n - a).toNat) ρ1) : wp (rng2M m) ρ Q := by
  obtain ⟨ds, ρ1, h1, a, n, rfl, ⟨h2, h3, h4, h5⟩, q⟩ := h
  refine ⟨_, ρ1, (bnd_eq h1).trans ?_, q⟩
  show (if decide (-(2 ^ 62) ≤ a) && decide (a < 2 ^ 62) && decide (-(2 ^ 62) ≤ n) && decide (n < 2 ^ 62) then ret (rngL a (n - a).toNat) else fun _ => none) ρ1 = _
  rw [if_pos (by rw [decide_eq_true h2, decide_eq_true h3, decide_eq_true h4, decide_eq_true h5]; rfl)]
  rfl
theorem rngL_get {a : Int} {n i : Nat} {x : D} (h : (rngL a n)[i]? = some x) : i < n ∧ x = .int (a + i) := by
  unfold rngL at h
  rw [List.getElem?_map] at h
  cases hr : (List.range n)[i]? with
  | none => rw [hr] at h; cases h
  | some j =>
    rw [hr] at h
    obtain ⟨hi, hj⟩ := List.getElem?_eq_some_iff.mp hr
    rw [List.length_range] at hi
    rw [List.getElem_range] at hj
    subst hj
    exact ⟨hi, (Option.some.inj h).symm⟩
theorem rngL_len {a : Int} {n : Nat} : (rngL a n).length = n := by unfold rngL; rw [List.length_map, List.length_range]
/-! own lists' methods -/
theorem wp_app {i : Nat} {m : M D} {Q : D → Rho → Prop} (h : wp (ownLM i) ρ fun _ ρ1 => wp m ρ1 fun d ρ2 => wp (pushL i d) ρ2 Q) : wp (appM i m) ρ Q := wp_bnd (wp_mono h fun _ _ q => wp_bnd q)
theorem wp_push {i : Nat} {xs : List D} {Q : D → Rho → Prop} (e : ρ[i]? = some (.o (.lst xs))) (hz : xs.length < sizeLine) (h : Q .none (ρ.set i (.o (.lst (xs ++ [d]))))) : wp (pushL i d) ρ Q := by
  refine ⟨_, _, ?_, h⟩
  unfold pushL
  rw [e]
  show (if decide (xs.length < sizeLine) then some (PyData.none, ρ.set i (.o (.lst (xs ++ [d])))) else none) = _
  rw [if_pos (decide_eq_true hz)]
theorem wp_popAt {i : Nat} {m : M D} {Q : D → Rho → Prop} (h : wp (ownLM i) ρ fun _ ρ1 => wp m ρ1 fun d ρ2 => wp (popL i d) ρ2 Q) : wp (popAtM i m) ρ Q := wp_bnd (wp_mono h fun _ _ q => wp_bnd q)
theorem wp_popL {i j : Nat} {k : Int} {xs : List D} {y : D} {Q : D → Rho → Prop} (e : ρ[i]? = some (.o (.lst xs))) (h1 : -(2 ^ 63) ≤ k) (h2 : k < 2 ^ 63) (hj : seqIndex? k xs.length = some j) (hy : xs[j]? = some y) (h : Q y (ρ.set i (.o (.lst (xs.eraseIdx j))))) : wp (popL i (.int k)) ρ Q := by
  refine ⟨_, _, ?_, h⟩
  unfold popL
  rw [e]
  show (if decide (-(2 ^ 63) ≤ k) && decide (k < 2 ^ 63) then (match seqIndex? k xs.length with
    | some j => (match xs[j]? with
      | some y => some (y, ρ.set i (.o (.lst (xs.eraseIdx j))))
      | none => none)
    | none => none) else none) = _
  rw [if_pos (by rw [decide_eq_true h1, decide_eq_true h2]; rfl), hj]
  show (match xs[j]? with
      | some y => some (y, ρ.set i (.o (.lst (xs.eraseIdx j))))
      | none => none) = _
  rw [hy]
/-! defs -/
theorem fw_def {nsl np : Nat} {pr : List Nat} {m : MS} {args : List Sl} {R : Sl → List Sl → Prop} (hl : args.length = np) (h : wp m (args ++ List.replicate (nsl - np) .u) (defK pr np R)) : fw (defM nsl np pr m) args R := by
  obtain ⟨f, ρ1, h1, q⟩ := h
  unfold fw defM
  rw [if_pos hl, h1]
  cases f with
  | nx => exact ⟨_, _, rfl, q⟩
  | rt r =>
    cases r with
    | v d => exact ⟨_, _, rfl, q⟩
    | o b => exact ⟨_, _, rfl, q⟩
    | t b => exact ⟨_, _, rfl, q⟩
    | _ => exact q.elim
  | _ => exact q.elim
end
theorem mulFit_l {i j : Int} (h : i.natAbs < 2 ^ 64) : mulFit i j = true := by unfold mulFit; rw [decide_eq_true h]; rfl
theorem mulFit_r {i j : Int} (h : j.natAbs < 2 ^ 64) : mulFit i j = true := by unfold mulFit; rw [decide_eq_true h, Bool.or_true]; rfl
theorem ex_int {i : Int} {P : Int → Prop} (h : P i) : ∃ b, PyData.int i = PyData.int b ∧ P b := ⟨_, rfl, h⟩
theorem ex_rng1 {i : Int} {P : Int → Prop} (h1 : -(2 ^ 62) ≤ i) (h2 : i < 2 ^ 62) (h : P i) : ∃ n, [PyData.int i] = [PyData.int n] ∧ -(2 ^ 62) ≤ n ∧ n < 2 ^ 62 ∧ P n := ⟨_, rfl, h1, h2, h⟩
theorem ex_rng2 {i j : Int} {P : Int → Int → Prop} (h1 : -(2 ^ 62) ≤ i) (h2 : i < 2 ^ 62) (h3 : -(2 ^ 62) ≤ j) (h4 : j < 2 ^ 62) (h : P i j) : ∃ a n, [PyData.int i, PyData.int j] = [PyData.int a, PyData.int n] ∧ (-(2 ^ 62) ≤ a ∧ a < 2 ^ 62 ∧ -(2 ^ 62) ≤ n ∧ n < 2 ^ 62) ∧ P a n := ⟨_, _, rfl, ⟨h1, h2, h3, h4⟩, h⟩
/-! by what the operands are -/
section
variable {i j : Int} {a b : Str} {xs ys : List D} {K : D → Prop} {x y d : D}
theorem bop_add_ii (h : K (.int (i + j))) : bop addD (some (.int i)) (some (.int j)) K := ⟨_, _, _, rfl, rfl, rfl, h⟩
theorem bop_add_ss (hz : a.length + b.length ≤ sizeLine) (h : K (.str (a ++ b))) : bop addD (some (.str a)) (some (.str b)) K := ⟨_, _, _, rfl, rfl, (by show (if fitS (a.length + b.length) = true then some (PyData.str (a ++ b)) else none) = _; exact if_pos (decide_eq_true hz)), h⟩
theorem bop_add_tt (hz : xs.length + ys.length ≤ sizeLine) (h : K (.tuple (xs ++ ys))) : bop addD (some (.tuple xs)) (some (.tuple ys)) K := ⟨_, _, _, rfl, rfl, (by show (if fitS (xs.length + ys.length) = true then some (PyData.tuple (xs ++ ys)) else none) = _; exact if_pos (decide_eq_true hz)), h⟩
theorem bop_add_ll (hz : xs.length + ys.length ≤ sizeLine) (h : K (.list (xs ++ ys))) : bop addD (some (.list xs)) (some (.list ys)) K := ⟨_, _, _, rfl, rfl, (by show (if fitS (xs.length + ys.length) = true then some (PyData.list (xs ++ ys)) else none) = _; exact if_pos (decide_eq_true hz)), h⟩
theorem bop_sub (h : K (.int (i - j))) : bop subD (some (.int i)) (some (.int j)) K := ⟨_, _, _, rfl, rfl, rfl, h⟩
theorem bop_mul (hz : mulFit i j = true) (h : K (.int (i * j))) : bop mulD (some (.int i)) (some (.int j)) K := ⟨_, _, _, rfl, rfl, (by show (if mulFit i j = true then some (PyData.int (i * j)) else none) = _; exact if_pos hz), h⟩
theorem bop_fdiv (hz : divFit j = true) (h : K (.int (i / j))) : bop fdivD (some (.int i)) (some (.int j)) K := ⟨_, _, _, rfl, rfl, (by show (if divFit j = true then some (PyData.int (i / j)) else none) = _; exact if_pos hz), h⟩
theorem bop_mod (hz : 0 < j) (h : K (.int (i % j))) : bop modD (some (.int i)) (some (.int j)) K := ⟨_, _, _, rfl, rfl, (by show (if decide (0 < j) = true then some (PyData.int (i % j)) else none) = _; exact if_pos (decide_eq_true hz)), h⟩
theorem bop_pow (hz : powFit i j = true) (h : K (.int (i ^ j.toNat))) : bop powD (some (.int i)) (some (.int j)) K := ⟨_, _, _, rfl, rfl, (by show (if powFit i j = true then some (PyData.int (i ^ j.toNat)) else none) = _; exact if_pos hz), h⟩
theorem bop_shl (hz : powFit i j = true) (h : K (.int (i * 2 ^ j.toNat))) : bop shlD (some (.int i)) (some (.int j)) K := ⟨_, _, _, rfl, rfl, (by show (if powFit i j = true then some (PyData.int (i * 2 ^ j.toNat)) else none) = _; exact if_pos hz), h⟩
theorem bop_cmp {p : Int → Int → Bool} (h : K (.bool (p i j))) : bop (cmpD p) (some (.int i)) (some (.int j)) K := ⟨_, _, _, rfl, rfl, rfl, h⟩
theorem bop_eq (hx : SeqAt.shaped x = true) (hy : SeqAt.shaped y = true) (h : K (.bool (PyData.eqv x y))) : bop eqD (some x) (some y) K := ⟨_, _, _, rfl, rfl, by unfold eqD; rw [hx, hy]; rfl, h⟩
theorem bop_ne (hx : SeqAt.shaped x = true) (hy : SeqAt.shaped y = true) (h : K (.bool (!PyData.eqv x y))) : bop neD (some x) (some y) K := ⟨_, _, _, rfl, rfl, by unfold neD; rw [hx, hy]; rfl, h⟩
theorem bop_eq_ii (h : K (.bool (decide (i = j)))) : bop eqD (some (.int i)) (some (.int j)) K := bop_eq rfl rfl (by unfold PyData.eqv; exact h)
theorem bop_ne_ii (h : K (.bool (!decide (i = j)))) : bop neD (some (.int i)) (some (.int j)) K := bop_ne rfl rfl (by unfold PyData.eqv; exact h)
theorem shaped_str (h : PyData.strOk a = true) : SeqAt.shaped (.str a) = true := by simp [SeqAt.shaped, PyData.canLay0, PyData.depth, h]
theorem bop_eq_ss (ha : PyData.strOk a = true) (hb : PyData.strOk b = true) (h : K (.bool (decide (a = b)))) : bop eqD (some (.str a)) (some (.str b)) K := bop_eq (shaped_str ha) (shaped_str hb) (by unfold PyData.eqv; exact h)
theorem bop_ne_ss (ha : PyData.strOk a = true) (hb : PyData.strOk b = true) (h : K (.bool (!decide (a = b)))) : bop neD (some (.str a)) (some (.str b)) K := bop_ne (shaped_str ha) (shaped_str hb) (by unfold PyData.eqv; exact h)
theorem bop_ixT (e : atI xs i = some d) (h : K d) : bop ixD (some (.tuple xs)) (some (.int i)) K := ⟨_, _, _, rfl, rfl, e, h⟩
theorem bop_ixL (e : atI xs i = some d) (h : K d) : bop ixD (some (.list xs)) (some (.int i)) K := ⟨_, _, _, rfl, rfl, e, h⟩
theorem bop_isN {x : D} {b : Bool} (e : isNoneD x .none = some (.bool b)) (h : K (.bool b)) : bop isNoneD (some x) (some .none) K := ⟨_, _, _, rfl, rfl, e, h⟩
theorem bop_notN {x : D} {b : Bool} (e : notNoneD x .none = some (.bool b)) (h : K (.bool b)) : bop notNoneD (some x) (some .none) K := ⟨_, _, _, rfl, rfl, e, h⟩
theorem bop_is {α : Type} {f : D → D → Option α} {z : α} {K : α → Prop} (e : f x y = some z) (h : K z) : bop f (some x) (some y) K := ⟨_, _, _, rfl, rfl, e, h⟩
theorem uop_is {α : Type} {f : D → Option α} {z : α} {K : α → Prop} (e : f x = some z) (h : K z) : uop f (some x) K := ⟨_, _, rfl, e, h⟩
theorem uop_abs {n : Int} {K : D → Prop} (h : K (.int n.natAbs)) : uop absD (some (.int n)) K := uop_is (show absD (.int n) = some (.int (if n < 0 then -n else n)) from rfl) (by
  rw [show (if n < 0 then -n else n) = (n.natAbs : Int) by split <;> omega]
  exact h)
theorem atI_of {xs : List D} {n : Nat} (h : xs[n]? = some d) : atI xs (n : Int) = some d := atI_nat h
end
section
variable {k : Rho → Prop} {Q : Fl → Rho → Prop} {ρ : Rho} {R : Sl → List Sl → Prop} {pr : List Nat} {np : Nat} {d : D} {b : Own} {xs : List D}
theorem seqK_nx (h : k ρ) : seqK k Q .nx ρ := h
theorem seqK_rt {r : Sl} (h : Q (.rt r) ρ) : seqK k Q (.rt r) ρ := h
theorem seqK_bk (h : Q .bk ρ) : seqK k Q .bk ρ := h
theorem seqK_ct (h : Q .ct ρ) : seqK k Q .ct ρ := h
theorem lopK_nx (h : k ρ) : lopK k Q .nx ρ := h
theorem lopK_ct (h : k ρ) : lopK k Q .ct ρ := h
theorem lopK_bk (h : Q .nx ρ) : lopK k Q .bk ρ := h
theorem lopK_rt {r : Sl} (h : Q (.rt r) ρ) : lopK k Q (.rt r) ρ := h
theorem defK_nx (h : R (.v .none) (outs pr np ρ)) : defK pr np R .nx ρ := h
theorem defK_v (h : R (.v d) (outs pr np ρ)) : defK pr np R (.rt (.v d)) ρ := h
theorem defK_o (h : R (.o b) (outs pr np ρ)) : defK pr np R (.rt (.o b)) ρ := h
theorem valK_v {Q : D → Rho → Prop} (h : Q d ρ) : valK Q (.v d) ρ := h
theorem valK_o {Q : D → Rho → Prop} (h : Q (.list xs) ρ) : valK Q (.o (.lst xs)) ρ := h
theorem ownK_o {Q : Own → Rho → Prop} (h : Q b ρ) : ownK Q (.o b) ρ := h
theorem tstK_b {Q : Bool → Rho → Prop} {b : Bool} (h : Q b ρ) : tstK Q (.bool b) ρ := h
theorem partK_i {Q : Option Int → Rho → Prop} {i : Int} (h : Q (some i) ρ) : partK Q (.int i) ρ := h
theorem frzK_d {kvs : List (D × D)} {Q : D → Rho → Prop} (h : Q (.dict kvs) ρ) : frzK Q (.dd kvs) ρ := h
theorem frzK_l {Q : D → Rho → Prop} (h : Q (.list xs) ρ) : frzK Q (.lst xs) ρ := h
theorem callK_go {f : Fn} {Q : Sl → Rho → Prop} {rs : List Rf} {args : List Sl} (ha : argsR ρ rs = some args) (nd : (slotsR rs).Nodup) (h : fw f args fun r as => Q r (backR rs as ρ)) : callK f Q rs ρ := ⟨args, ha, nd, h⟩
end
end Fx
/-! Fx: numbers and rows of numbers -/
namespace Fx
open PySem PySem.Spec PyProof.Rows L2
variable [Wd]
/-- sizes -/
def Bd (k : Nat) (i : Int) : Prop := i.natAbs < 2 ^ k
theorem Bd.div {k : Nat} {j : Int} (h : Bd k j) (h0 : 0 < j) (hk : k ≤ 9000) : divFit j = true := by
  have k0 : 0 < k := by
    cases k with
    | zero => have : j.natAbs < 1 := h; omega
    | succ k => exact Nat.succ_pos k
  unfold divFit
  rw [decide_eq_true h0, decide_eq_true (Nat.lt_of_lt_of_le (PySem.Flt.log2_lt_of k0 h) hk)]
  rfl
theorem Bd.mul {k l : Nat} {i j : Int} (hi : Bd k i) (hj : Bd l j) (h : k + l ≤ 900000) : mulFit i j = true := by
  have a : i.natAbs.log2 < k + 1 := PySem.Flt.log2_lt_of (Nat.succ_pos k) (Nat.lt_of_lt_of_le hi (Nat.pow_le_pow_right (by decide) (Nat.le_succ k)))
  have b : j.natAbs.log2 < l + 1 := PySem.Flt.log2_lt_of (Nat.succ_pos l) (Nat.lt_of_lt_of_le hj (Nat.pow_le_pow_right (by decide) (Nat.le_succ l)))
  unfold mulFit
  rw [show decide (i.natAbs.log2 + j.natAbs.log2 < 1000000) = true from decide_eq_true (by omega), Bool.or_true]
theorem Bd.mono {k l : Nat} {i : Int} (h : Bd k i) (hl : k ≤ l) : Bd l i := Nat.lt_of_lt_of_le h (Nat.pow_le_pow_right (by decide) hl)
theorem Bd.neg {k : Nat} {i : Int} (h : Bd k i) : Bd k (-i) := by unfold Bd; rw [Int.natAbs_neg]; exact h
theorem Bd.of_le {k : Nat} {i j : Int} (h : Bd k i) (hl : j.natAbs ≤ i.natAbs) : Bd k j := Nat.lt_of_le_of_lt hl h
theorem Bd.mulB {k l : Nat} {i j : Int} (hi : Bd k i) (hj : Bd l j) : Bd (k + l) (i * j) := by
  unfold Bd; rw [Int.natAbs_mul, Nat.pow_add]; exact Nat.mul_lt_mul'' hi hj
theorem Bd.addB {k : Nat} {i j : Int} (hi : Bd k i) (hj : Bd k j) : Bd (k + 1) (i + j) := by
  unfold Bd at *
  have := Int.natAbs_add_le i j
  rw [Nat.pow_succ]
  omega
theorem Bd.subB {k : Nat} {i j : Int} (hi : Bd k i) (hj : Bd k j) : Bd (k + 1) (i - j) := by
  rw [Int.sub_eq_add_neg]; exact hi.addB hj.neg
theorem Bd.natAbs {k : Nat} {i : Int} (h : Bd k i) : Bd k (i.natAbs : Int) := h
theorem gcd_step (c d : Int) : Int.gcd d (c - c / d * d) = Int.gcd c d := by
  have h : c - c / d * d = c % d := by
    have := Int.emod_add_mul_ediv c d
    rw [Int.mul_comm d] at this
    omega
  rw [h, Int.gcd_comm]
  have e1 : Int.gcd (c % d) d ∣ Int.gcd c d := by
    apply Int.dvd_gcd
    · have a : ((Int.gcd (c % d) d : Nat) : Int) ∣ d := Int.gcd_dvd_right ..
      have b : ((Int.gcd (c % d) d : Nat) : Int) ∣ c % d := Int.gcd_dvd_left ..
      have := Int.dvd_add b (Int.dvd_trans a (Int.dvd_mul_right d (c / d)))
      rw [Int.emod_add_mul_ediv] at this
      exact this
    · exact Int.gcd_dvd_right ..
  have e2 : Int.gcd c d ∣ Int.gcd (c % d) d := by
    apply Int.dvd_gcd
    · have a : ((Int.gcd c d : Nat) : Int) ∣ d := Int.gcd_dvd_right ..
      have b : ((Int.gcd c d : Nat) : Int) ∣ c := Int.gcd_dvd_left ..
      rw [← h]
      exact Int.dvd_sub b (Int.dvd_trans a (Int.dvd_mul_left (c / d) d))
    · exact Int.gcd_dvd_right ..
  exact Nat.dvd_antisymm e1 e2
/-- p/q is n/d in lowest terms -/
def Low (n d p q : Int) : Prop := 0 < q ∧ Int.gcd p q = 1 ∧ p * d = n * q ∧ p.natAbs ≤ n.natAbs ∧ q.natAbs ≤ d.natAbs
theorem low_pos {n d : Int} (hd : 0 < d) : Low n d (n / (Int.gcd n d : Nat)) (d / (Int.gcd n d : Nat)) := by
  have g0 : 0 < Int.gcd n d := Int.gcd_pos_of_ne_zero_right n (Int.ne_of_gt hd)
  have g0' : (0 : Int) < (Int.gcd n d : Nat) := by omega
  have gn : ((Int.gcd n d : Nat) : Int) ∣ n := Int.gcd_dvd_left ..
  have gd : ((Int.gcd n d : Nat) : Int) ∣ d := Int.gcd_dvd_right ..
  refine ⟨Int.ediv_pos_of_pos_of_dvd hd (Int.le_of_lt g0') gd, Int.gcd_ediv_gcd_ediv_gcd g0, ?_, Int.natAbs_ediv_le_natAbs .., Int.natAbs_ediv_le_natAbs ..⟩
  have a := Int.ediv_mul_cancel gn
  have b := Int.ediv_mul_cancel gd
  generalize n / (Int.gcd n d : Nat) = p at *
  generalize d / (Int.gcd n d : Nat) = q at *
  generalize ((Int.gcd n d : Nat) : Int) = g at *
  subst a; subst b
  rw [Int.mul_assoc, Int.mul_comm g q]
/-- in lowest terms there is but one -/
theorem low_uniq {p q p' q' : Int} (hq : 0 < q) (hq' : 0 < q') (h1 : Int.gcd p q = 1) (h2 : Int.gcd p' q' = 1) (e : p * q' = p' * q) : p = p' ∧ q = q' := by
  have a : q ∣ q' := by
    have : q ∣ p * q' := ⟨p', by rw [e, Int.mul_comm]⟩
    have h := Nat.Coprime.dvd_of_dvd_mul_left (k := q.natAbs) (m := p.natAbs) (n := q'.natAbs) (by rw [Nat.coprime_comm]; exact h1) (by rw [← Int.natAbs_mul]; exact Int.natAbs_dvd_natAbs.mpr this)
    exact Int.natAbs_dvd_natAbs.mp h
  have b : q' ∣ q := by
    have : q' ∣ p' * q := ⟨p, by rw [← e, Int.mul_comm]⟩
    have h := Nat.Coprime.dvd_of_dvd_mul_left (k := q'.natAbs) (m := p'.natAbs) (n := q.natAbs) (by rw [Nat.coprime_comm]; exact h2) (by rw [← Int.natAbs_mul]; exact Int.natAbs_dvd_natAbs.mpr this)
    exact Int.natAbs_dvd_natAbs.mp h
  have c : q = q' := Int.dvd_antisymm (by omega) (by omega) a b
  subst c
  exact ⟨Int.eq_of_mul_eq_mul_right (Int.ne_of_gt hq) e, rfl⟩
/-- p/q is n/d in lowest terms; sizes apart -/
def Fr (n d p q : Int) : Prop := 0 < q ∧ Int.gcd p q = 1 ∧ p * d = n * q
theorem Low.fr {n d p q : Int} (h : Low n d p q) : Fr n d p q := ⟨h.1, h.2.1, h.2.2.1⟩
/-- a state of the draws -/
def Dst (b : Own) : Prop := ∃ (cells : List Int) (i f s : Int), b = .lst [.list (cells.map .int), .int i, .int f, .int s] ∧ 0 ≤ i ∧ 0 ≤ f ∧ 0 ≤ s
/-- equal fractions -/
theorem fr_sub {p1 q1 p3 q3 p4 q4 n1 d1 n3 d3 : Int} (h1 : p1 * d1 = n1 * q1) (h3 : p3 * d3 = n3 * q3) (h4 : p4 * (q1 * q3) = (p1 * q3 - p3 * q1) * q4) (q1p : 0 < q1) (q3p : 0 < q3) : p4 * (d1 * d3) = (n1 * d3 - n3 * d1) * q4 := by
  have hq : 0 < q1 * q3 := Int.mul_pos q1p q3p
  apply Int.eq_of_mul_eq_mul_right (Int.ne_of_gt hq)
  grind
theorem fr_add {p1 q1 p3 q3 p4 q4 n1 d1 n3 d3 : Int} (h1 : p1 * d1 = n1 * q1) (h3 : p3 * d3 = n3 * q3) (h4 : p4 * (q1 * q3) = (p1 * q3 + p3 * q1) * q4) (q1p : 0 < q1) (q3p : 0 < q3) : p4 * (d1 * d3) = (n1 * d3 + n3 * d1) * q4 := by
  have hq : 0 < q1 * q3 := Int.mul_pos q1p q3p
  apply Int.eq_of_mul_eq_mul_right (Int.ne_of_gt hq)
  grind
theorem fr_mul {p1 q1 p3 q3 p4 q4 n1 d1 n3 d3 : Int} (h1 : p1 * d1 = n1 * q1) (h3 : p3 * d3 = n3 * q3) (h4 : p4 * (q1 * q3) = (p1 * p3) * q4) (q1p : 0 < q1) (q3p : 0 < q3) : p4 * (d1 * d3) = (n1 * n3) * q4 := by
  have hq : 0 < q1 * q3 := Int.mul_pos q1p q3p
  apply Int.eq_of_mul_eq_mul_right (Int.ne_of_gt hq)
  grind
theorem fr_lt {p q n d p' q' n' d' : Int} (h : p * d = n * q) (h' : p' * d' = n' * q') (hq : 0 < q) (hq' : 0 < q') (hd : 0 < d) (hd' : 0 < d') : p * q' < p' * q ↔ n * d' < n' * d := by
  have a : 0 < d * d' := Int.mul_pos hd hd'
  have b : 0 < q * q' := Int.mul_pos hq hq'
  rw [← Int.mul_lt_mul_right a, ← Int.mul_lt_mul_right (a := q * q') b (b := n * d')]
  have e1 : p * q' * (d * d') = n * d' * (q * q') := by grind
  have e2 : p' * q * (d * d') = n' * d * (q * q') := by grind
  rw [e1, e2]
theorem sum_abs {B : Nat} : ∀ {l : List Int}, (∀ v ∈ l, v.natAbs ≤ B) → l.sum.natAbs ≤ l.length * B
  | [], _ => by simp
  | v :: l, h => by
    have a := h v List.mem_cons_self
    have b := sum_abs (l := l) fun w hw => h w (List.mem_cons_of_mem _ hw)
    rw [List.sum_cons, List.length_cons, Nat.succ_mul]
    have := Int.natAbs_add_le v l.sum
    omega
theorem Bd.sum {k j : Nat} {l : List Int} (h : ∀ v ∈ l, Bd k v) (hl : l.length < 2 ^ j) : Bd (j + k) l.sum := by
  have a := sum_abs (B := 2 ^ k) fun v hv => Nat.le_of_lt (h v hv)
  unfold Bd
  rw [Nat.pow_add]
  exact Nat.lt_of_le_of_lt a (Nat.mul_lt_mul_of_pos_right hl (Nat.two_pow_pos k))
theorem Bd.nat {k n : Nat} (h : n < 2 ^ k) : Bd k (n : Int) := by unfold Bd; rw [Int.natAbs_natCast]; exact h
theorem sum_sq (c t : Int) : ∀ l : List Int, (l.map fun v => (c * v - t) * (c * v - t)).sum = c * c * (l.map fun v => v * v).sum - 2 * c * t * l.sum + l.length * t * t
  | [] => by simp
  | v :: l => by
    have := sum_sq c t l
    simp only [List.map_cons, List.sum_cons, List.length_cons]
    rw [this]
    grind
theorem uop_sumL {l : List Int} {K : D → Prop} (h : K (.int l.sum)) : uop sumD (some (.list (l.map PyData.int))) K := uop_is (show (intsOf (l.map PyData.int)).map _ = _ by rw [intsOf_map]; rfl) h
theorem uop_sumT {l : List Int} {K : D → Prop} (h : K (.int l.sum)) : uop sumD (some (.tuple (l.map PyData.int))) K := uop_is (show (intsOf (l.map PyData.int)).map _ = _ by rw [intsOf_map]; rfl) h
theorem bestL {f : List Int → Int} {l : List Int} {K : D → Prop} (h0 : l ≠ []) (h : K (.int (f l))) : uop (bestD f) (some (.list (l.map PyData.int))) K := by
  cases l with
  | nil => exact absurd rfl h0
  | cons n ns => exact uop_is (show (match intsOf ((n :: ns).map PyData.int) with
    | some (n :: ns) => some (PyData.int (f (n :: ns)))
    | _ => none) = _ by rw [intsOf_map]) h
theorem bestT {f : List Int → Int} {l : List Int} {K : D → Prop} (h0 : l ≠ []) (h : K (.int (f l))) : uop (bestD f) (some (.tuple (l.map PyData.int))) K := by
  cases l with
  | nil => exact absurd rfl h0
  | cons n ns => exact uop_is (show (match intsOf ((n :: ns).map PyData.int) with
    | some (n :: ns) => some (PyData.int (f (n :: ns)))
    | _ => none) = _ by rw [intsOf_map]) h
theorem cutG_from {α : Type} (xs : List α) (a : Nat) : cutG xs (some (a : Int)) none = xs.drop a := by
  unfold cutG
  rw [HT.sIx_nat, HT.sIx_none]
  rw [List.take_of_length_le (by rw [List.length_drop]; exact Nat.le_refl _)]
  by_cases h : a ≤ xs.length
  · rw [Nat.min_eq_left h]
  · rw [Nat.min_eq_right (by omega), List.drop_length, List.drop_of_length_le (by omega)]
theorem cutG_to {α : Type} (xs : List α) (b : Nat) : cutG xs none (some (b : Int)) = xs.take b := by
  unfold cutG
  rw [HT.sIx_nat, HT.sIx_none, List.drop_zero, Nat.sub_zero]
  by_cases h : b ≤ xs.length
  · rw [Nat.min_eq_left h]
  · rw [Nat.min_eq_right (by omega), List.take_length, List.take_of_length_le (by omega)]
theorem bop_mul_li {xs : List D} {k : Int} {K : D → Prop} (h1 : -(2 ^ 63) ≤ k) (h2 : k < 2 ^ 63) (hz : xs.length * k.toNat ≤ sizeLine) (h : K (.list (List.replicate k.toNat xs).flatten)) : bop mulD (some (.list xs)) (some (.int k)) K := bop_is (show (if decide (-(2 ^ 63) ≤ k) && decide (k < 2 ^ 63) && fitS (xs.length * k.toNat) then some (PyData.list (List.replicate k.toNat xs).flatten) else none) = _ by
  rw [if_pos]
  rw [decide_eq_true h1, decide_eq_true h2]
  exact decide_eq_true hz) h
theorem rep_map {α β : Type} (f : α → β) (n : Nat) (l : List α) : (List.replicate n (l.map f)).flatten = ((List.replicate n l).flatten).map f := by
  rw [List.map_flatten, List.map_replicate]
theorem rep_mem {α : Type} {n : Nat} {l : List α} {x : α} (h : x ∈ (List.replicate n l).flatten) : x ∈ l := by
  obtain ⟨m, hm, hx⟩ := List.mem_flatten.mp h
  rw [List.eq_of_mem_replicate hm] at hx
  exact hx
theorem rep_len {α : Type} (n : Nat) (l : List α) : (List.replicate n l).flatten.length = n * l.length := by
  induction n with
  | zero => simp
  | succ n ih => rw [List.replicate_succ, List.flatten_cons, List.length_append, ih, Nat.succ_mul, Nat.add_comm]
theorem uop_cutL {xs : List D} {lo hi : Option Int} {K : D → Prop} (h : K (.list (cutG xs lo hi))) : uop (fun x => slD x lo hi) (some (.list xs)) K := uop_is rfl h
theorem uop_cutT {xs : List D} {lo hi : Option Int} {K : D → Prop} (h : K (.tuple (cutG xs lo hi))) : uop (fun x => slD x lo hi) (some (.tuple xs)) K := uop_is rfl h
theorem mapI_get {l : List Int} {i : Nat} {x : D} (h : (l.map PyData.int)[i]? = some x) : ∃ v, l[i]? = some v ∧ x = .int v ∧ v ∈ l := by
  rw [List.getElem?_map] at h
  obtain ⟨v, hv, rfl⟩ := Option.map_eq_some_iff.mp h
  exact ⟨v, hv, rfl, List.mem_of_getElem? hv⟩
theorem take_snoc {α β : Type} {l : List α} {f : α → β} {i : Nat} {v : α} (h : l[i]? = some v) : (l.take i).map f ++ [f v] = (l.take (i + 1)).map f := by
  rw [List.take_add_one, h, List.map_append]
  rfl
theorem lenFit {α : Type} {l : List α} (h : l.length ≤ 16000000) : fitS l.length = true := decide_eq_true (by show l.length ≤ 2 ^ 24; omega)
/-! what can be asked for == -/
def Shp (k : Nat) (x : D) : Prop := x.canLay0 = true ∧ x.depth ≤ k
theorem Shp.shaped {k : Nat} {x : D} (h : Shp k x) (hk : k ≤ 64) : SeqAt.shaped x = true := by
  unfold SeqAt.shaped
  rw [h.1, decide_eq_true (Nat.le_trans h.2 hk)]
  rfl
theorem Shp.int (k : Nat) (i : Int) : Shp k (.int i) := ⟨rfl, Nat.zero_le _⟩
theorem Shp.bool (k : Nat) (i : Bool) : Shp k (.bool i) := ⟨rfl, Nat.zero_le _⟩
theorem Shp.none (k : Nat) : Shp k .none := ⟨rfl, Nat.zero_le _⟩
theorem Shp.str (k : Nat) {a : Str} (h : PyData.strOk a = true) : Shp k (.str a) := ⟨by simp [PyData.canLay0, h], Nat.zero_le _⟩
theorem Shp.all {k : Nat} : ∀ {xs : List D}, (∀ x ∈ xs, Shp k x) → PyData.canLayAll0 xs = true ∧ PyData.depthAll xs ≤ k
  | [], _ => ⟨rfl, Nat.zero_le _⟩
  | x :: xs, h => by
    have a := h x List.mem_cons_self
    have b := Shp.all (xs := xs) fun y hy => h y (List.mem_cons_of_mem _ hy)
    constructor
    · rw [PyData.canLayAll0, a.1, b.1]; rfl
    · rw [PyData.depthAll]; exact Nat.max_le.mpr ⟨a.2, b.2⟩
theorem Shp.tup {k : Nat} {xs : List D} (h : ∀ x ∈ xs, Shp k x) : Shp (k + 1) (.tuple xs) := by
  have := Shp.all h
  exact ⟨by rw [PyData.canLay0]; exact this.1, by rw [PyData.depth]; exact Nat.succ_le_succ this.2⟩
theorem Shp.lst {k : Nat} {xs : List D} (h : ∀ x ∈ xs, Shp k x) : Shp (k + 1) (.list xs) := by
  have := Shp.all h
  exact ⟨by rw [PyData.canLay0]; exact this.1, by rw [PyData.depth]; exact Nat.succ_le_succ this.2⟩
theorem Shp.mono {k l : Nat} {x : D} (h : Shp k x) (hl : k ≤ l) : Shp l x := ⟨h.1, Nat.le_trans h.2 hl⟩
theorem Shp.refl {k : Nat} {x : D} (h : Shp k x) : PyData.eqv x x = true := PySem.SeqAt.eqv_refl x h.1
theorem bop_eq_same {k : Nat} {x : D} {K : D → Prop} (hs : Shp k x) (hk : k ≤ 64) (h : K (.bool true)) : bop eqD (some x) (some x) K := bop_eq (hs.shaped hk) (hs.shaped hk) (by rw [hs.refl]; exact h)
theorem bop_ne_same {k : Nat} {x : D} {K : D → Prop} (hs : Shp k x) (hk : k ≤ 64) (h : K (.bool false)) : bop neD (some x) (some x) K := bop_ne (hs.shaped hk) (hs.shaped hk) (by rw [hs.refl]; exact h)
theorem boolsOf_true (n : Nat) : boolsOf (List.replicate n (.bool true)) = some (List.replicate n true) := by
  induction n with
  | zero => rfl
  | succ n ih =>
    rw [List.replicate_succ, List.replicate_succ]
    show (boolsOf (List.replicate n (.bool true))).map _ = _
    rw [ih]
    rfl
theorem uop_allT {n : Nat} {K : D → Prop} (h : K (.bool true)) : uop allD (some (.list (List.replicate n (.bool true)))) K := uop_is (show (boolsOf (List.replicate n (.bool true))).map _ = some (.bool true) by
  rw [boolsOf_true]
  show some (PyData.bool ((List.replicate n true).all id)) = _
  rw [List.all_replicate]
  cases n <;> rfl) h
theorem rep_snoc {α : Type} (n : Nat) (x : α) : List.replicate n x ++ [x] = List.replicate (n + 1) x := List.replicate_succ'.symm
/-! fractions -/
def frac (n d : Int) : Int × Int := if d < 0 then (-n / (Int.gcd n d : Nat), -d / (Int.gcd n d : Nat)) else (n / (Int.gcd n d : Nat), d / (Int.gcd n d : Nat))
def frD (f : Int × Int) : D := .tuple [.int f.1, .int f.2]
theorem frac_low {n d : Int} (h : d ≠ 0) : Low n d (frac n d).1 (frac n d).2 := by
  unfold frac
  split
  · rename_i h0
    have := low_pos (n := -n) (d := -d) (by omega)
    rw [Int.gcd_neg, Int.neg_gcd] at this
    obtain ⟨a, b, c, e, f⟩ := this
    refine ⟨a, b, ?_, ?_, ?_⟩
    · rw [Int.mul_neg, Int.neg_mul] at c
      exact Int.neg_inj.mp c
    · rw [Int.natAbs_neg n] at e; exact e
    · rw [Int.natAbs_neg d] at f; exact f
  · exact low_pos (by omega)
theorem fr_uniq {n d p q p' q' : Int} (hd : d ≠ 0) (h : Fr n d p q) (h' : Fr n d p' q') : p = p' ∧ q = q' := by
  refine low_uniq h.1 h'.1 h.2.1 h'.2.1 ?_
  have e1 := h.2.2
  have e2 := h'.2.2
  apply Int.eq_of_mul_eq_mul_right hd
  grind
theorem Fr.eq {n d p q : Int} (hd : d ≠ 0) (h : Fr n d p q) : (.tuple [.int p, .int q] : D) = frD (frac n d) := by
  have := fr_uniq hd h (frac_low hd).fr
  unfold frD
  rw [this.1, this.2]
/-- a fraction in lowest terms -/
structure Frc (k : Nat) (f : Int × Int) : Prop where
  pos : 0 < f.2
  low : Int.gcd f.1 f.2 = 1
  b1 : Bd k f.1
  b2 : Bd k f.2
theorem Frc.mono {k l : Nat} {f : Int × Int} (h : Frc k f) (hl : k ≤ l) : Frc l f := ⟨h.pos, h.low, h.b1.mono hl, h.b2.mono hl⟩
theorem frac_frc {k : Nat} {n d : Int} (hd : d ≠ 0) (B1 : Bd k n) (B2 : Bd k d) : Frc k (frac n d) := by
  have := frac_low (n := n) hd
  exact ⟨this.1, this.2.1, B1.of_le this.2.2.2.1, B2.of_le this.2.2.2.2⟩
theorem Frc.self {k : Nat} {f : Int × Int} (h : Frc k f) : frac f.1 f.2 = f := by
  have a : Fr f.1 f.2 f.1 f.2 := ⟨h.pos, h.low, rfl⟩
  have := fr_uniq (Int.ne_of_gt h.pos) a (frac_low (Int.ne_of_gt h.pos)).fr
  rw [Prod.ext_iff]
  exact ⟨this.1.symm, this.2.symm⟩
theorem frD_shp (f : Int × Int) : Shp 1 (frD f) := Shp.tup (k := 0) fun x hx => by
  rcases List.mem_cons.mp hx with rfl | hx
  · exact Shp.int _ _
  · rw [List.mem_singleton.mp hx]; exact Shp.int _ _
theorem frDs_shp (l : List (Int × Int)) : ∀ x ∈ l.map frD, Shp 1 x := fun x hx => by
  obtain ⟨f, _, rfl⟩ := List.mem_map.mp hx
  exact frD_shp f
def addF (a b : Int × Int) : Int × Int := frac (a.1 * b.2 + b.1 * a.2) (a.2 * b.2)
def subF (a b : Int × Int) : Int × Int := frac (a.1 * b.2 - b.1 * a.2) (a.2 * b.2)
def mulF (a b : Int × Int) : Int × Int := frac (a.1 * b.1) (a.2 * b.2)
def divF (a b : Int × Int) : Int × Int := frac (a.1 * b.2) (a.2 * b.1)
theorem Frc.add {k : Nat} {a b : Int × Int} (ha : Frc k a) (hb : Frc k b) : Frc (2 * k + 1) (addF a b) := frac_frc (Int.ne_of_gt (Int.mul_pos ha.pos hb.pos)) (((ha.b1.mulB hb.b2).addB (hb.b1.mulB ha.b2)).mono (by omega)) ((ha.b2.mulB hb.b2).mono (by omega))
theorem Frc.sub {k : Nat} {a b : Int × Int} (ha : Frc k a) (hb : Frc k b) : Frc (2 * k + 1) (subF a b) := frac_frc (Int.ne_of_gt (Int.mul_pos ha.pos hb.pos)) (((ha.b1.mulB hb.b2).subB (hb.b1.mulB ha.b2)).mono (by omega)) ((ha.b2.mulB hb.b2).mono (by omega))
theorem Frc.mul {k : Nat} {a b : Int × Int} (ha : Frc k a) (hb : Frc k b) : Frc (2 * k + 1) (mulF a b) := frac_frc (Int.ne_of_gt (Int.mul_pos ha.pos hb.pos)) ((ha.b1.mulB hb.b1).mono (by omega)) ((ha.b2.mulB hb.b2).mono (by omega))
theorem Frc.div {k : Nat} {a b : Int × Int} (ha : Frc k a) (hb : Frc k b) (h0 : b.1 ≠ 0) : Frc (2 * k + 1) (divF a b) := frac_frc (Int.mul_ne_zero (Int.ne_of_gt ha.pos) h0) ((ha.b1.mulB hb.b2).mono (by omega)) ((ha.b2.mulB hb.b1).mono (by omega))
theorem Frc.zero {k : Nat} (hk : 0 < k) : Frc k (0, 1) := ⟨by decide, rfl, Nat.two_pow_pos k, Nat.one_lt_two_pow (by omega)⟩
end Fx
/-! Fx: more built-ins -/
namespace Fx
open PySem PySem.Spec PyProof.Rows L2
variable [Wd]
def ii2 (g : Int → Int → Int) : D → D → Option D
  | .int i, .int j => some (.int (g i j))
  | _, _ => none
def b2M (f : D → D → Option D) (m n : M D) : M D := bnd m fun x => bnd n fun y => lft (f x y)
def min2M (m n : M D) : M D := b2M (ii2 fun i j => if j < i then j else i) m n
def max2M (m n : M D) : M D := b2M (ii2 fun i j => if j > i then j else i) m n
theorem b2_some {g : Int → Int → Int} {m n : M D} {ρ ρ' : Rho} {z : D} (h : b2M (ii2 g) m n ρ = some (z, ρ')) : ∃ i j ρ1, m ρ = some (.int i, ρ1) ∧ n ρ1 = some (.int j, ρ') ∧ z = .int (g i j) := by
  obtain ⟨x, ρ1, h1, h⟩ := bnd_some h
  obtain ⟨y, ρ2, h2, h⟩ := bnd_some h
  unfold lft at h
  cases x with
  | int i =>
    cases y with
    | int j => cases h; exact ⟨i, j, ρ1, h1, h2, rfl⟩
    | _ => cases h
  | _ => cases h
section
variable {X : Cx} {a b : Expr} {pos p : Pos} {m n : M D}
theorem v_min2 (hc : X.calm = true) (hg : Gl X "min") (hm : X.mg "min" = none) (ha : PE X a (rdV X.K m)) (hb : PE X b (rdV X.K n))
    (hsa : starEach (a :: [b]) X.env = (false, eval a X.env) :: starEach [b] X.env := by rfl) (hsb : starEach [b] X.env = (false, eval b X.env) :: starEach [] X.env := by rfl) (hpl : (backTo pos (starEach [b] X.env)).any (·.1) = false := by rfl) : PE X (.Call (.Name "min" p) [a, b] [] pos) (rdV X.K (min2M m n)) := by
  refine pe_imp (pe_callB (call_min2 hc) hg hm boot_min (pa_cons ha (pa_cons hb pa_nil hsb) hsa) (by decide) (by decide) hsa hpl) fun σ H Q h => ?_
  obtain ⟨F, G, ρ, d, ρ', ok, hm, q⟩ := h
  obtain ⟨i, j, ρ1, h1, h2, rfl⟩ := b2_some hm
  refine ⟨F, G, ρ, _, ρ1, ok, h1, fun v F1 H1 s1 ok1 r1 => ⟨F1, G, ρ1, _, ρ', ok1, h2, fun w F2 H2 s2 ok2 r2 => ⟨i, j, ?_, ?_⟩⟩⟩
  · rw [show v = V.int i from r1, show w = V.int j from r2]
  · exact q _ F2 H2 (s1.trans s2) ok2 rfl
theorem v_max2 (hc : X.calm = true) (hg : Gl X "max") (hm : X.mg "max" = none) (ha : PE X a (rdV X.K m)) (hb : PE X b (rdV X.K n))
    (hsa : starEach (a :: [b]) X.env = (false, eval a X.env) :: starEach [b] X.env := by rfl) (hsb : starEach [b] X.env = (false, eval b X.env) :: starEach [] X.env := by rfl) (hpl : (backTo pos (starEach [b] X.env)).any (·.1) = false := by rfl) : PE X (.Call (.Name "max" p) [a, b] [] pos) (rdV X.K (max2M m n)) := by
  refine pe_imp (pe_callB (call_max2 hc) hg hm boot_max (pa_cons ha (pa_cons hb pa_nil hsb) hsa) (by decide) (by decide) hsa hpl) fun σ H Q h => ?_
  obtain ⟨F, G, ρ, d, ρ', ok, hm, q⟩ := h
  obtain ⟨i, j, ρ1, h1, h2, rfl⟩ := b2_some hm
  refine ⟨F, G, ρ, _, ρ1, ok, h1, fun v F1 H1 s1 ok1 r1 => ⟨F1, G, ρ1, _, ρ', ok1, h2, fun w F2 H2 s2 ok2 r2 => ⟨i, j, ?_, ?_⟩⟩⟩
  · rw [show v = V.int i from r1, show w = V.int j from r2]
  · exact q _ F2 H2 (s1.trans s2) ok2 rfl
end
theorem wp_min2 {m n : M D} {ρ : Rho} {Q : D → Rho → Prop} (h : wp m ρ fun x ρ1 => wp n ρ1 fun y ρ2 => ∃ i j, x = .int i ∧ y = .int j ∧ Q (.int (if j < i then j else i)) ρ2) : wp (min2M m n) ρ Q := by
  obtain ⟨x, ρ1, h1, y, ρ2, h2, i, j, rfl, rfl, q⟩ := h
  exact ⟨_, ρ2, (bnd_eq h1).trans ((bnd_eq h2).trans rfl), q⟩
theorem wp_max2 {m n : M D} {ρ : Rho} {Q : D → Rho → Prop} (h : wp m ρ fun x ρ1 => wp n ρ1 fun y ρ2 => ∃ i j, x = .int i ∧ y = .int j ∧ Q (.int (if j > i then j else i)) ρ2) : wp (max2M m n) ρ Q := by
  obtain ⟨x, ρ1, h1, y, ρ2, h2, i, j, rfl, rfl, q⟩ := h
  exact ⟨_, ρ2, (bnd_eq h1).trans ((bnd_eq h2).trans rfl), q⟩
theorem ex_int2 {i j : Int} {P : Int → Int → Prop} (h : P i j) : ∃ a b, PyData.int i = PyData.int a ∧ PyData.int j = PyData.int b ∧ P a b := ⟨_, _, rfl, rfl, h⟩
end Fx
/-! Fx: dicts with tuples as keys; list(range) -/
namespace Fx
open PySem PySem.Spec PyProof.Rows L2
variable [Wd]
def keysD : List D → Option (List Key)
  | [] => some []
  | .int i :: ds => (keysD ds).map fun ks => Sum.inl i :: ks
  | .str s :: ds => (keysD ds).map fun ks => Sum.inr s :: ks
  | _ :: _ => none
theorem keys_vs {K : Kf} {F : Hp} : ∀ {xs : List D} {ks : List Key} {vs : List V}, keysD xs = some ks → Rps K F xs vs → vs = ks.map kV
  | [], ks, vs, h, r => by cases h; exact r
  | x :: xs, ks, vs, h, r => by
    obtain ⟨v, r', rfl, h1, h2⟩ := r
    cases x with
    | int i =>
      cases hr : keysD xs with
      | none => simp [keysD, hr] at h
      | some ks' =>
        simp [keysD, hr] at h
        subst h
        rw [keys_vs hr h2, show v = V.int i from h1]
        rfl
    | str s =>
      cases hr : keysD xs with
      | none => simp [keysD, hr] at h
      | some ks' =>
        simp [keysD, hr] at h
        subst h
        rw [keys_vs hr h2, show v = V.str s from h1]
        rfl
    | _ => simp [keysD] at h
def getG {κ α : Type} [DecidableEq κ] (kvs : List (κ × α)) (k : κ) : Option α := (kvs.find? fun kv => decide (kv.1 = k)).map fun kv => kv.2
def putG {κ α : Type} [DecidableEq κ] (kvs : List (κ × α)) (k : κ) (v : α) : List (κ × α) :=
  if (kvs.any fun kv => decide (kv.1 = k)) = true then kvs.map (fun kv => if kv.1 = k then (kv.1, v) else kv) else kvs ++ [(k, v)]
/-- the same keys, and values that stand for the data -/
def Two {κ : Type} (K : Kf) (F : Hp) (kvs : List (κ × D)) (ws : List (κ × V)) : Prop := ws.map (·.1) = kvs.map (·.1) ∧ Rps K F (kvs.map (·.2)) (ws.map (·.2))
section
variable {κ : Type} [DecidableEq κ] {K : Kf} {F : Hp}
theorem Two.get : ∀ {kvs : List (κ × D)} {ws : List (κ × V)} {k : κ} {d : D}, Two K F kvs ws → getG kvs k = some d → ∃ v, valV ws k = some v ∧ Rp K F d v
  | [], ws, k, d, h, g => by cases g
  | (k0, d0) :: kvs, ws, k, d, ⟨h1, h2⟩, g => by
    cases ws with
    | nil => cases h1
    | cons w ws =>
      obtain ⟨w0, v0⟩ := w
      injection h1 with e1 e2
      cases (show w0 = k0 from e1)
      obtain ⟨v, r, e3, h3, h4⟩ := h2
      injection e3 with e4 e5
      cases (show v0 = v from e4)
      cases (show _ = r from e5)
      unfold getG at g
      unfold valV
      rw [List.find?_cons] at g ⊢
      by_cases hk : k0 = k
      · rw [decide_eq_true hk] at g ⊢
        cases g
        exact ⟨_, rfl, h3⟩
      · rw [decide_eq_false hk] at g ⊢
        exact Two.get (kvs := kvs) (ws := ws) ⟨e2, h4⟩ g
theorem any_keys {α : Type} (k : κ) : ∀ (kvs : List (κ × α)), (kvs.any fun kv => decide (kv.1 = k)) = (kvs.map (·.1)).any fun x => decide (x = k)
  | [] => rfl
  | kv :: kvs => by rw [List.any_cons, List.map_cons, List.any_cons, any_keys k kvs]
theorem Two.repl {k : κ} {d : D} {v : V} (r : Rp K F d v) : ∀ {kvs : List (κ × D)} {ws : List (κ × V)}, Two K F kvs ws → Two K F (kvs.map fun kv => if kv.1 = k then (kv.1, d) else kv) (ws.map fun kv => if kv.1 = k then (kv.1, v) else kv)
  | [], ws, ⟨h1, h2⟩ => by
    cases ws with
    | nil => exact ⟨rfl, rfl⟩
    | cons w ws => cases h1
  | (k0, d0) :: kvs, ws, ⟨h1, h2⟩ => by
    cases ws with
    | nil => cases h1
    | cons w ws =>
      obtain ⟨w0, v0⟩ := w
      injection h1 with e1 e2
      cases (show w0 = k0 from e1)
      obtain ⟨v', r', e3, h3, h4⟩ := h2
      injection e3 with e4 e5
      cases (show v0 = v' from e4)
      cases (show _ = r' from e5)
      have ih := Two.repl (k := k) (d := d) r (kvs := kvs) (ws := ws) ⟨e2, h4⟩
      by_cases hk : k0 = k
      · constructor
        · simp only [List.map_cons, if_pos hk]
          rw [ih.1]
        · simp only [List.map_cons, if_pos hk]
          exact ⟨_, _, rfl, r, ih.2⟩
      · constructor
        · simp only [List.map_cons, if_neg hk]
          rw [ih.1]
        · simp only [List.map_cons, if_neg hk]
          exact ⟨_, _, rfl, h3, ih.2⟩
theorem Two.put {kvs : List (κ × D)} {ws : List (κ × V)} {k : κ} {d : D} {v : V} (h : Two K F kvs ws) (r : Rp K F d v) : Two K F (putG kvs k d) (putK ws k v) := by
  unfold putG putK
  rw [any_keys k kvs, any_keys k ws, h.1]
  split
  · exact h.repl r
  · constructor
    · rw [List.map_append, List.map_append, h.1]
      rfl
    · rw [List.map_append, List.map_append]
      exact h.2.append ⟨v, [], rfl, r, rfl⟩
theorem putG_same {α : Type} (kvs : List (κ × α)) (k : κ) (v : α) : getG (putG kvs k v) k = some v := by
  unfold putG
  split
  · rename_i h
    induction kvs with
    | nil => cases h
    | cons kv kvs ih =>
      unfold getG
      rw [List.map_cons, List.find?_cons]
      by_cases hk : kv.1 = k
      · rw [if_pos hk, decide_eq_true hk]; rfl
      · rw [if_neg hk, decide_eq_false hk]
        rw [List.any_cons, decide_eq_false hk, Bool.false_or] at h
        exact ih h
  · rename_i h
    unfold getG
    rw [List.find?_append, List.find?_eq_none.mpr (by
      intro x hx e
      exact h (List.any_eq_true.mpr ⟨x, hx, e⟩))]
    simp
theorem putG_other {α : Type} {kvs : List (κ × α)} {k k' : κ} {v : α} (hk : k' ≠ k) : getG (putG kvs k v) k' = getG kvs k' := by
  unfold putG
  split
  · rename_i h
    clear h
    induction kvs with
    | nil => rfl
    | cons kv kvs ih =>
      unfold getG at ih ⊢
      rw [List.map_cons, List.find?_cons, List.find?_cons]
      by_cases h1 : kv.1 = k
      · rw [if_pos h1]
        have h2 : kv.1 ≠ k' := fun e => hk (e.symm.trans h1)
        rw [decide_eq_false h2]
        exact ih
      · rw [if_neg h1]
        by_cases h2 : kv.1 = k'
        · rw [decide_eq_true h2]
        · rw [decide_eq_false h2]; exact ih
  · unfold getG
    rw [List.find?_append]
    cases kvs.find? fun kv => decide (kv.1 = k') with
    | some x => rfl
    | none => simp [Ne.symm hk]
theorem putG_len {α : Type} (kvs : List (κ × α)) (k : κ) (v : α) : (putG kvs k v).length ≤ kvs.length + 1 := by
  unfold putG
  split
  · rw [List.length_map]; omega
  · rw [List.length_append]; exact Nat.le_refl _
end
def newTM : M Own := ret (.dt [])
def getT (i : Nat) (xs : List D) : M D := fun ρ => match ρ[i]?, keysD xs with
  | some (.o (.dt kvs)), some ks => (getG kvs ks).map fun d => (d, ρ)
  | _, _ => none
def dgetM (i : Nat) (m : M (List D)) : M D := bnd (ownM i) fun _ => bnd m fun xs => if fitS xs.length then getT i xs else fun _ => none
def putT (i : Nat) (d : D) (xs : List D) : MS := fun ρ => match ρ[i]?, keysD xs with
  | some (.o (.dt kvs)), some ks => if decide (kvs.length < sizeLine) then some (.nx, ρ.set i (.o (.dt (putG kvs ks d)))) else none
  | _, _ => none
def dputM (i : Nat) (m : M D) (n : M (List D)) : MS := bnd m fun d => bnd (ownM i) fun _ => bnd n fun xs => if fitS xs.length then putT i d xs else fun _ => none
def listrng2M (m n : M D) : M Own := bnd m fun x => bnd n fun y => fun ρ => match x, y with
  | .int a, .int b => if decide (-(2 ^ 62) ≤ a) && decide (a < 2 ^ 62) && decide (-(2 ^ 62) ≤ b) && decide (b < 2 ^ 62) && decide ((b - a).toNat ≤ 2 ^ 24) then some (.lst (rngL a (b - a).toNat), ρ) else none
  | _, _ => none
def listrng1M (m : M D) : M Own := listrng2M (cM (.int 0)) m
section
variable {X : Cx} {e a b : Expr} {es : List Expr} {pos p : Pos}
theorem n_newT : PE X (.Dict [] [] pos) (rdN X.K newTM) := by
  refine pe_imp pe_dnewT fun σ H Q h => ?_
  obtain ⟨F, G, ρ, d, ρ', ok, hm, q⟩ := h
  cases hm
  intro p hp
  obtain ⟨ok2, n⟩ := ok.fresh (o := .dT []) hp
  exact q p F _ (Same.refl F) ok2 n ⟨[], upd_same, rfl, rfl⟩
theorem v_dget (i : Nat) {x : Str} {m : M (List D)} {px p1 : Pos} {x1 : Nat} (hu : X.A.units + 64 < cLine) (ha : PA X es (rdA X.K m)) (hN : X.N[i]? = some x := by rfl) (hv : Vis X.env.scope x := by first | exact Or.inl rfl | exact Or.inr (Or.inl rfl) | exact Or.inr (Or.inr rfl)) (hd : (x == ("__debug__" : Str)) = false := by decide)
    (hcd : (x == ("__classdict__" : Str)) = false := by decide) (hs : NoSl (.Tuple es x1 p1) := by intro _ _; rfl) : PE X (.Subscript (.Name x px) (.Tuple es x1 p1) pos) (rdV X.K (dgetM i m)) := by
  refine pe_imp (pe_dget (by omega) (pe_var (i := i) hN hv hd hcd) (pe_tup ha) hs) fun σ H Q h => ?_
  obtain ⟨F, G, ρ, d, ρ', ok, hm, q⟩ := h
  obtain ⟨u, ρ1, h1, h2⟩ := bnd_some hm
  obtain ⟨rfl, b, hb⟩ := own_some h1
  obtain ⟨xs, ρ2, h3, h4⟩ := bnd_some h2
  obtain ⟨p, hp, _, _, _⟩ := ok.own i b hb
  by_cases hz : fitS xs.length = true
  · rw [if_pos hz] at h4
    refine ⟨.ref p, hp, F, G, ρ1, xs, ρ2, ok, h3, fun vs F1 H1 s1 ok1 r1 => ⟨by rw [r1.length]; exact of_decide_eq_true hz, fun kp hkp => ?_⟩⟩
    obtain ⟨s2, ok2⟩ := ok1.alloc (o := .tup vs) hkp
    unfold getT at h4
    split at h4
    · rename_i kvs ks hx hk
      obtain ⟨q', hq, f2, g2, ws, h7, h8, h9⟩ := ok2.own i _ hx
      rw [hp] at hq
      cases hq
      cases hg : getG kvs ks with
      | none => rw [hg] at h4; cases h4
      | some d' =>
        rw [hg] at h4
        cases h4
        obtain ⟨v, hv1, hv2⟩ := Two.get (kvs := kvs) (ws := ws) ⟨h8, h9⟩ hg
        refine ⟨p, v, rfl, ?_, q v _ _ (s1.trans s2) ok2 hv2⟩
        rw [← hv1]
        exact DGet.t h7 (by rw [← keys_vs hk r1]; exact upd_same)
    · cases h4
  · rw [if_neg hz] at h4
    cases h4
theorem s_dput (i : Nat) {x : Str} {m : M D} {n : M (List D)} {pr : List Nat} {px p1 p2 : Pos} {x1 : Nat} (hu : X.A.units + 64 < cLine) (he : PE X e (rdV X.K m)) (ha : PA X es (rdA X.K n)) (hN : X.N[i]? = some x := by rfl) (hv : Vis X.env.scope x := by first | exact Or.inl rfl | exact Or.inr (Or.inl rfl) | exact Or.inr (Or.inr rfl)) (hd : (x == ("__debug__" : Str)) = false := by decide)
    (hcd : (x == ("__classdict__" : Str)) = false := by decide) (hs : swapsWith e (some (.Subscript (.Name x px) (.Tuple es x1 p1) p2)) pos.line X.env = pure false := by rfl) : PS X (.Assign [.Subscript (.Name x px) (.Tuple es x1 p1) p2] e pos) (rdS X.K pr (dputM i m n)) := ps_imp (ps_dput (by omega) (pe_var (i := i) hN hv hd hcd) (pe_tup ha) he hs) fun E σ H h => by
  obtain ⟨F, G, ρ, fl, ρ', ok, hm, w⟩ := h
  obtain ⟨d, ρ1, h1, h2⟩ := bnd_some hm
  obtain ⟨u, ρ2, h3, h4⟩ := bnd_some h2
  obtain ⟨rfl, b, hb⟩ := own_some h3
  obtain ⟨xs, ρ3, h5, h6⟩ := bnd_some h4
  refine ⟨F, G, ρ, d, ρ2, ok, h1, fun v F1 H1 s1 ok1 r1 => ?_⟩
  obtain ⟨p, hp, _, _, _⟩ := ok1.own i b hb
  by_cases hz : fitS xs.length = true
  · rw [if_pos hz] at h6
    refine ⟨.ref p, hp, F1, G, ρ2, xs, ρ3, ok1, h5, fun vs F2 H2 s2 ok2 r2 => ⟨by rw [r2.length]; exact of_decide_eq_true hz, fun kp hkp => ?_⟩⟩
    obtain ⟨s3, ok3⟩ := ok2.alloc (o := .tup vs) hkp
    unfold putT at h6
    split at h6
    · rename_i kvs ks hx hk
      split at h6
      · rename_i hl
        cases h6
        obtain ⟨q', hq, f2, g2, ws, h7, h8, h9⟩ := ok3.own i _ hx
        rw [hp] at hq
        cases hq
        have hlen : ws.length = kvs.length := by
          have := congrArg List.length h8
          rw [List.length_map, List.length_map] at this
          exact this
        have T := Two.put (kvs := kvs) (ws := ws) (k := ks) ⟨h8, h9⟩ (Rp.mono (s2.trans s3) _ _ r1)
        refine ⟨p, _, rfl, DPut.t h7 (by rw [← keys_vs hk r2]; exact upd_same) (by rw [hlen]; exact of_decide_eq_true hl), ?_⟩
        exact w σ _ _ (s1.trans (s2.trans s3)) (ok3.turn hx hp ⟨_, upd_same, T.1, T.2⟩) Pr.refl
      · cases h6
    · cases h6
  · rw [if_neg hz] at h6
    cases h6
theorem rng_rps {K : Kf} {F : Hp} (a n : Int) : Rps K F (rngL a (n - a).toNat) (rgV a n) := by
  unfold rgV rngL
  have : ∀ l : List Nat, Rps K F (l.map fun i => PyData.int (a + (i : Nat))) (l.map fun i => V.int (a + (i : Nat))) := by
    intro l
    induction l with
    | nil => rfl
    | cons x l ih => exact ⟨_, _, rfl, rfl, ih⟩
  exact this _
theorem n_listrng2 {m n : M D} {p2 pos2 : Pos} (hc : X.calm = true) (hg : Gl X "list") (hm : X.mg "list" = none) (hg2 : Gl X "range") (hm2 : X.mg "range" = none) (ha : PE X a (rdV X.K m)) (hb : PE X b (rdV X.K n))
    (na : starEach [a, b] X.env = (false, eval a X.env) :: starEach [b] X.env := by rfl) (nb : starEach [b] X.env = (false, eval b X.env) :: starEach [] X.env := by rfl) (hp : (backTo pos2 (starEach [b] X.env)).any (·.1) = false := by rfl)
    (nr : starEach [.Call (.Name "range" p2) [a, b] [] pos2] X.env = (false, eval (.Call (.Name "range" p2) [a, b] [] pos2) X.env) :: starEach [] X.env := by rfl) : PE X (.Call (.Name "list" p) [.Call (.Name "range" p2) [a, b] [] pos2] [] pos) (rdN X.K (listrng2M m n)) := by
  refine pe_imp (pe_listRg hc hg hm (prg_2 hg2 hm2 ha hb na nb hp) nr) fun σ H Q h => ?_
  obtain ⟨F, G, ρ, o, ρ', ok, hm, q⟩ := h
  obtain ⟨x, ρ1, h1, h2⟩ := bnd_some hm
  obtain ⟨y, ρ2, h3, h4⟩ := bnd_some h2
  split at h4
  · rename_i i j
    split at h4
    · rename_i hz
      cases h4
      rw [Bool.and_eq_true, Bool.and_eq_true, Bool.and_eq_true, Bool.and_eq_true] at hz
      refine ⟨F, G, ρ, _, ρ1, ok, h1, fun v F1 H1 s1 ok1 r1 => ⟨F1, G, ρ1, _, ρ', ok1, h3, fun w F2 H2 s2 ok2 r2 => ⟨i, j, r1, r2, ⟨of_decide_eq_true hz.1.1.1.1, of_decide_eq_true hz.1.1.1.2, of_decide_eq_true hz.1.1.2, of_decide_eq_true hz.1.2, of_decide_eq_true hz.2⟩, fun p hp => ?_⟩⟩⟩
      obtain ⟨ok3, n⟩ := ok2.fresh (o := .lst (rgV i j)) hp
      exact q p F2 _ (s1.trans s2) ok3 n ⟨_, upd_same, rng_rps i j⟩
    · cases h4
  · cases h4
theorem n_listrng1 {n : M D} {p2 pos2 : Pos} (hc : X.calm = true) (hg : Gl X "list") (hm : X.mg "list" = none) (hg2 : Gl X "range") (hm2 : X.mg "range" = none) (hb : PE X b (rdV X.K n))
    (nb : starEach [b] X.env = (false, eval b X.env) :: starEach [] X.env := by rfl)
    (nr : starEach [.Call (.Name "range" p2) [b] [] pos2] X.env = (false, eval (.Call (.Name "range" p2) [b] [] pos2) X.env) :: starEach [] X.env := by rfl) : PE X (.Call (.Name "list" p) [.Call (.Name "range" p2) [b] [] pos2] [] pos) (rdN X.K (listrng1M n)) := by
  refine pe_imp (pe_listRg hc hg hm (prg_1 hg2 hm2 hb nb) nr) fun σ H Q h => ?_
  obtain ⟨F, G, ρ, o, ρ', ok, hm, q⟩ := h
  have hm : listrng2M (cM (.int 0)) n ρ = some (o, ρ') := hm
  unfold listrng2M at hm
  obtain ⟨x, ρ1, h1, h2⟩ := bnd_some hm
  cases h1
  obtain ⟨y, ρ2, h3, h4⟩ := bnd_some h2
  split at h4
  · rename_i i j e1
    cases e1
    split at h4
    · rename_i hz
      cases h4
      rw [Bool.and_eq_true, Bool.and_eq_true, Bool.and_eq_true, Bool.and_eq_true] at hz
      refine ⟨F, G, ρ, _, ρ', ok, h3, fun w F2 H2 s2 ok2 r2 => ⟨j, r2, ⟨of_decide_eq_true hz.1.1.1.1, of_decide_eq_true hz.1.1.1.2, of_decide_eq_true hz.1.1.2, of_decide_eq_true hz.1.2, of_decide_eq_true hz.2⟩, fun p hp => ?_⟩⟩
      obtain ⟨ok3, n⟩ := ok2.fresh (o := .lst (rgV 0 j)) hp
      exact q p F2 _ s2 ok3 n ⟨_, upd_same, rng_rps 0 j⟩
    · cases h4
  · cases h4
end
/-! what they give -/
section
variable {ρ : Rho} {i : Nat}
theorem wp_newT {Q : Own → Rho → Prop} (h : Q (.dt []) ρ) : wp newTM ρ Q := ⟨_, ρ, rfl, h⟩
theorem wp_dget {m : M (List D)} {Q : D → Rho → Prop} (h : wp (ownM i) ρ fun _ ρ1 => wp m ρ1 fun xs ρ2 => ∃ kvs ks d, ρ2[i]? = some (.o (.dt kvs)) ∧ keysD xs = some ks ∧ fitS xs.length = true ∧ getG kvs ks = some d ∧ Q d ρ2) : wp (dgetM i m) ρ Q := by
  obtain ⟨u, ρ1, h1, xs, ρ2, h2, kvs, ks, d, e1, e2, e3, e4, q⟩ := h
  refine ⟨d, ρ2, (bnd_eq h1).trans ((bnd_eq h2).trans ?_), q⟩
  show (if fitS xs.length = true then getT i xs else fun _ => none) ρ2 = _
  rw [if_pos e3]
  unfold getT
  rw [e1, e2]
  show (getG kvs ks).map _ = _
  rw [e4]
  rfl
theorem wp_dput {m : M D} {n : M (List D)} {Q : Fl → Rho → Prop} (h : wp m ρ fun d ρ1 => wp (ownM i) ρ1 fun _ ρ2 => wp n ρ2 fun xs ρ3 => ∃ kvs ks, ρ3[i]? = some (.o (.dt kvs)) ∧ keysD xs = some ks ∧ fitS xs.length = true ∧ kvs.length < sizeLine ∧ Q .nx (ρ3.set i (.o (.dt (putG kvs ks d))))) : wp (dputM i m n) ρ Q := by
  obtain ⟨d, ρ1, h1, u, ρ2, h2, xs, ρ3, h3, kvs, ks, e1, e2, e3, e4, q⟩ := h
  refine ⟨_, _, (bnd_eq h1).trans ((bnd_eq h2).trans ((bnd_eq h3).trans ?_)), q⟩
  show (if fitS xs.length = true then putT i d xs else fun _ => none) ρ3 = _
  rw [if_pos e3]
  unfold putT
  rw [e1, e2]
  show (if decide (kvs.length < sizeLine) = true then _ else none) = _
  rw [if_pos (decide_eq_true e4)]
theorem wp_listrng2 {m n : M D} {Q : Own → Rho → Prop} (h : wp m ρ fun x ρ1 => wp n ρ1 fun y ρ2 => ∃ a b, x = .int a ∧ y = .int b ∧ (-(2 ^ 62) ≤ a ∧ a < 2 ^ 62 ∧ -(2 ^ 62) ≤ b ∧ b < 2 ^ 62 ∧ (b - a).toNat ≤ 2 ^ 24) ∧ Q (.lst (rngL a (b - a).toNat)) ρ2) : wp (listrng2M m n) ρ Q := by
  obtain ⟨x, ρ1, h1, y, ρ2, h2, a, b, rfl, rfl, ⟨e1, e2, e3, e4, e5⟩, q⟩ := h
  refine ⟨_, ρ2, (bnd_eq h1).trans ((bnd_eq h2).trans ?_), q⟩
  show (if decide (-(2 ^ 62) ≤ a) && decide (a < 2 ^ 62) && decide (-(2 ^ 62) ≤ b) && decide (b < 2 ^ 62) && decide ((b - a).toNat ≤ 2 ^ 24) then _ else none) = _
  rw [if_pos]
  rw [decide_eq_true e1, decide_eq_true e2, decide_eq_true e3, decide_eq_true e4, decide_eq_true e5]
  rfl
theorem wp_listrng1 {n : M D} {Q : Own → Rho → Prop} (h : wp n ρ fun y ρ2 => ∃ b, y = .int b ∧ (-(2 ^ 62) ≤ b ∧ b < 2 ^ 62 ∧ (b - 0).toNat ≤ 2 ^ 24) ∧ Q (.lst (rngL 0 (b - 0).toNat)) ρ2) : wp (listrng1M n) ρ Q := by
  refine wp_listrng2 (wp_c (wp_mono h ?_))
  rintro y ρ2 ⟨b, rfl, ⟨e3, e4, e5⟩, q⟩
  exact ⟨0, b, rfl, rfl, ⟨by decide, by decide, e3, e4, e5⟩, q⟩
end
end Fx
/-! Fx: texts -/
namespace Fx
open PySem PySem.Spec PyProof.Rows L2
variable [Wd]
def strsOf : List D → Option (List Str)
  | [] => some []
  | .str s :: ds => (strsOf ds).map fun ns => s :: ns
  | _ :: _ => none
theorem strsOf_eq : ∀ {ds : List D} {ns : List Str}, strsOf ds = some ns → ds = ns.map PyData.str
  | [], ns, h => by cases h; rfl
  | .str s :: ds, ns, h => by
    cases hr : strsOf ds with
    | none => simp [strsOf, hr] at h
    | some ms =>
      simp [strsOf, hr] at h
      subst h
      rw [strsOf_eq hr]
      rfl
  | .int _ :: _, _, h => by simp [strsOf] at h
  | .none :: _, _, h => by simp [strsOf] at h
  | .bool _ :: _, _, h => by simp [strsOf] at h
  | .list _ :: _, _, h => by simp [strsOf] at h
  | .tuple _ :: _, _, h => by simp [strsOf] at h
  | .dict _ :: _, _, h => by simp [strsOf] at h
theorem strsOf_map (ns : List Str) : strsOf (ns.map PyData.str) = some ns := by
  induction ns with
  | nil => rfl
  | cons n ns ih => show (strsOf (ns.map PyData.str)).map _ = _; rw [ih]; rfl
/-- a sign in a text; a text in a row of texts -/
def inB : D → D → Option Bool
  | .str s, .str z => match s.cps.toList with
    | [c] => some (decide (c ∈ z.cps.toList))
    | _ => none
  | .str s, .list ys => (strsOf ys).map fun zs => zs.any fun z => decide (z = s)
  | .str s, .tuple ys => (strsOf ys).map fun zs => zs.any fun z => decide (z = s)
  | .int i, .list ys => (intsOf ys).map fun zs => zs.any fun z => decide (z = i)
  | .int i, .tuple ys => (intsOf ys).map fun zs => zs.any fun z => decide (z = i)
  | k, .dict kvs => if keyFit kvs k then some (hasD kvs k) else none
  | _, _ => none
theorem hasD_look (kvs : List (D × D)) (k : D) : (lookD kvs k).isSome = hasD kvs k := by
  unfold lookD hasD
  rw [Option.isSome_map, Bool.eq_iff_iff, List.find?_isSome, List.any_eq_true]
def rInDG (X : Cx) (n : Bool) : R2 := fun x y H Q => ∃ a o, y = .ref a ∧ DG X H a x o ∧ Q (.bl (if n then !o.isSome else o.isSome)) H
theorem op_inDG {X : Cx} (hu : X.A.units + 64 < cLine) : OpR X (compareOp .In) (rInDG X false) := by
  intro pins s σ H x y v u Q I rx ry h
  obtain ⟨a, o, rfl, g, q⟩ := h
  obtain rfl : u = Value.ref a := ry
  exact g.isin (by omega) I rx fun s' I' => ⟨.bl o.isSome, H, I', rfl, q⟩
theorem op_ninDG {X : Cx} (hu : X.A.units + 64 < cLine) : OpR X (compareOp .NotIn) (rInDG X true) := by
  intro pins s σ H x y v u Q I rx ry h
  obtain ⟨a, o, rfl, g, q⟩ := h
  obtain rfl : u = Value.ref a := ry
  exact g.noin (by omega) I rx fun s' I' => ⟨.bl (!o.isSome), H, I', rfl, q⟩
def inD (x y : D) : Option D := (inB x y).map PyData.bool
def notInD (x y : D) : Option D := (inB x y).map fun b => .bool (!b)
theorem inV_strs (s : Str) (zs : List Str) : inV (.str s) (zs.map V.str) = zs.any fun z => decide (z = s) := by
  unfold inV
  induction zs with
  | nil => rfl
  | cons z zs ih =>
    rw [List.map_cons, List.any_cons, List.any_cons, ih]
    congr 1
theorem flat_strs (zs : List Str) : (zs.map V.str).all flatV = true := by
  induction zs with
  | nil => rfl
  | cons z zs ih => rw [List.map_cons, List.all_cons, ih]; rfl
theorem inV_ints (i : Int) (zs : List Int) : inV (.int i) (zs.map V.int) = zs.any fun z => decide (z = i) := by
  unfold inV
  induction zs with
  | nil => rfl
  | cons z zs ih =>
    rw [List.map_cons, List.any_cons, List.any_cons, ih]
    congr 1
theorem flat_ints (zs : List Int) : (zs.map V.int).all flatV = true := by
  induction zs with
  | nil => rfl
  | cons z zs ih => rw [List.map_cons, List.all_cons, ih]; rfl
section
variable {K : Kf}
def rInS (K : Kf) (n : Bool) : R2 := fun x y H Q => (∃ (c : Nat) (z : Str), x = .str ⟨#[c]⟩ ∧ y = .str z ∧ Q (.bl (if n then !decide (c ∈ z.cps.toList) else decide (c ∈ z.cps.toList))) H) ∨ rIn K n x y H Q
theorem op_inS {X : Cx} (hu : X.A.units + 64 < cLine) : OpR X (compareOp .In) (fun x y H Q => rInS X.K false x y H Q ∨ rInDG X false x y H Q) := OpR.or (OpR.or op_in_sign op_in_seq) (op_inDG hu)
theorem op_ninS {X : Cx} (hu : X.A.units + 64 < cLine) : OpR X (compareOp .NotIn) (fun x y H Q => rInS X.K true x y H Q ∨ rInDG X true x y H Q) := OpR.or (OpR.or op_notIn_sign op_notIn_seq) (op_ninDG hu)
theorem in_gen {X : Cx} (hw : X.w = Wd.w) {F G H : Hp} {σ : L2.St} {ρ : Rho} {x y : D} {v w : V} {Q : VK} {b n : Bool} (ok : Ok X.K F G H σ ρ) (hx : Vw X.K F H v x) (hy : Vw X.K F H w y) (hf : inB x y = some b) (q : Q (.bl (if n then !b else b)) H) : rInS X.K n v w H Q ∨ rInDG X n v w H Q := by
  unfold inB at hf
  split at hf
  · rename_i s z
    have e1 := hx.str
    have e2 := hy.str
    subst e1 e2
    split at hf
    · rename_i c hc
      cases hf
      refine .inl (.inl ⟨c, z, ?_, rfl, q⟩)
      congr 1
      cases s with
      | mk a =>
        congr 1
        exact Array.toList_inj.mp hc
    · cases hf
  · rename_i s ys
    have e1 := hx.str
    subst e1
    obtain ⟨zs, hz, hb⟩ := Option.map_eq_some_iff.mp hf
    obtain ⟨p, vs, rfl, h1, h2⟩ := hy.list ok.sub
    rw [strsOf_eq hz] at h2
    rw [Rps.strs.mp h2] at h1
    refine .inl (.inr ⟨p, zs.map V.str, rfl, .inl (SqL.of h1), rfl, flat_strs zs, ?_⟩)
    rw [inV_strs, hb]
    exact q
  · rename_i s ys
    have e1 := hx.str
    subst e1
    obtain ⟨zs, hz, hb⟩ := Option.map_eq_some_iff.mp hf
    obtain ⟨p, vs, rfl, h1, _, h2⟩ := hy.tuple ok.sub
    rw [strsOf_eq hz] at h2
    rw [Rps.strs.mp h2] at h1
    refine .inl (.inr ⟨p, zs.map V.str, rfl, .inr h1, rfl, flat_strs zs, ?_⟩)
    rw [inV_strs, hb]
    exact q
  · rename_i s ys
    have e1 := hx.int
    subst e1
    obtain ⟨zs, hz, hb⟩ := Option.map_eq_some_iff.mp hf
    obtain ⟨p, vs, rfl, h1, h2⟩ := hy.list ok.sub
    rw [intsOf_eq hz] at h2
    rw [Rps.ints.mp h2] at h1
    refine .inl (.inr ⟨p, zs.map V.int, rfl, .inl (SqL.of h1), rfl, flat_ints zs, ?_⟩)
    rw [inV_ints, hb]
    exact q
  · rename_i s ys
    have e1 := hx.int
    subst e1
    obtain ⟨zs, hz, hb⟩ := Option.map_eq_some_iff.mp hf
    obtain ⟨p, vs, rfl, h1, _, h2⟩ := hy.tuple ok.sub
    rw [intsOf_eq hz] at h2
    rw [Rps.ints.mp h2] at h1
    refine .inl (.inr ⟨p, zs.map V.int, rfl, .inr h1, rfl, flat_ints zs, ?_⟩)
    rw [inV_ints, hb]
    exact q
  · split at hf
    · rename_i hz
      cases hf
      obtain ⟨p, rfl, hd⟩ := hy.dict ok.sub
      obtain ⟨o, g, ro⟩ := hd.get hw ok.sub hz (keyFit_rp hz hx)
      refine .inr ⟨p, o, rfl, g, ?_⟩
      rw [ro.isSome, hasD_look]
      exact q
    · cases hf
  · cases hf
theorem opd_in {X : Cx} (hw : X.w = Wd.w) : OpD X.K inD (fun x y H Q => rInS X.K false x y H Q ∨ rInDG X false x y H Q) := by
  intro F G H σ ρ x y d v w Q ok hx hy hf q
  obtain ⟨b, hb, rfl⟩ := Option.map_eq_some_iff.mp hf
  exact in_gen (n := false) hw ok hx hy hb (q _ F H (Same.refl F) ok rfl)
theorem opd_nin {X : Cx} (hw : X.w = Wd.w) : OpD X.K notInD (fun x y H Q => rInS X.K true x y H Q ∨ rInDG X true x y H Q) := by
  intro F G H σ ρ x y d v w Q ok hx hy hf q
  obtain ⟨b, hb, rfl⟩ := Option.map_eq_some_iff.mp hf
  exact in_gen (n := true) hw ok hx hy hb (q _ F H (Same.refl F) ok rfl)
end
section
variable {X : Cx} {a b : Expr} {ma mb : M Rf} {pos : Pos}
theorem v_in (hu : X.A.units + 64 < cLine) (ha : PE X a (rdB X.K ma)) (hb : PE X b (rdB X.K mb)) (hm : behindInMarks .In b = false := by rfl) (hw : X.w = Wd.w := by rfl) : PE X (.Compare a [.In] [b] pos) (rdV X.K (binM inD ma mb)) := v_cmp (op_inS hu) (opd_in hw) ha hb hm
theorem v_notin (hu : X.A.units + 64 < cLine) (ha : PE X a (rdB X.K ma)) (hb : PE X b (rdB X.K mb)) (hm : behindInMarks .NotIn b = false := by rfl) (hw : X.w = Wd.w := by rfl) : PE X (.Compare a [.NotIn] [b] pos) (rdV X.K (binM notInD ma mb)) := v_cmp (op_ninS hu) (opd_nin hw) ha hb hm
theorem t_in (hu : X.A.units + 64 < cLine) (ha : PE X a (rdB X.K ma)) (hb : PE X b (rdB X.K mb)) (hm : behindInMarks .In b = false := by rfl) (hw : X.w = Wd.w := by rfl) : PT X (.Compare a [.In] [b] pos) (rdT X.K (tstM (binM inD ma mb))) := t_cmp (op_inS hu) (opd_in hw) ha hb hm
theorem t_notin (hu : X.A.units + 64 < cLine) (ha : PE X a (rdB X.K ma)) (hb : PE X b (rdB X.K mb)) (hm : behindInMarks .NotIn b = false := by rfl) (hw : X.w = Wd.w := by rfl) : PT X (.Compare a [.NotIn] [b] pos) (rdT X.K (tstM (binM notInD ma mb))) := t_cmp (op_ninS hu) (opd_nin hw) ha hb hm
def splitD : D → D → Option D
  | .str s, .str z => if (z.length == 0) = false ∧ s.length + 2 ≤ sizeLine then some (.list ((Txt.split s z).map PyData.str)) else none
  | _, _ => none
def joinD : D → D → Option D
  | .str s, .list ys => match strsOf ys with
    | some zs => if (zs.map (·.length)).sum + zs.length * s.length ≤ 16777216 then some (.str (Txt.join s zs)) else none
    | none => none
  | .str s, .tuple ys => match strsOf ys with
    | some zs => if (zs.map (·.length)).sum + zs.length * s.length ≤ 16777216 then some (.str (Txt.join s zs)) else none
    | none => none
  | _, _ => none
theorem look_str {ρ : Rho} {r : Rf} {s : Str} (h : look ρ r = some (.str s)) : r = .val (.str s) := by
  cases r with
  | val d => cases h; rfl
  | slot i =>
    have h : (match ρ[i]? with
      | some (.o (.lst xs)) => some (PyData.list xs)
      | some (.o (.dd kvs)) => some (PyData.dict kvs)
      | _ => none) = some (PyData.str s) := h
    split at h <;> cases h
theorem v_split {apos : Pos} (ha : PE X a (rdB X.K ma)) (hb : PE X b (rdB X.K mb)) (hs : starEach [b] X.env = [(false, eval b X.env)] := by rfl) (hbase : attributeBase a "split" X.env (eval a X.env) = eval a X.env := by rfl) (hline : (apos.endLine == pos.line) = true := by rfl) :
    PE X (.Call (.Attribute a "split" apos) [b] [] pos) (rdV X.K (binM splitD ma mb)) := by
  refine pe_imp (pe_split ha hb hs hbase hline) fun σ H Q h => ?_
  obtain ⟨F, G, ρ, d, ρ', ok, hm, q⟩ := h
  obtain ⟨r, ρ1, s, x, y, h1, h2, e1, e2, e3⟩ := binM_some hm
  unfold splitD at e3
  split at e3
  · rename_i u z
    split at e3
    · rename_i hz
      cases e3
      have er := look_str e1
      have es := look_str e2
      subst er es
      refine ⟨F, G, ρ, _, ρ1, ok, h1, fun v F1 H1 s1 ok1 r1 => ⟨⟨u, r1⟩, F1, G, ρ1, _, ρ', ok1, h2, fun w F2 H2 s2 ok2 r2 => ⟨u, z, r1, ?_, hz.1, hz.2, fun p hp => ?_⟩⟩⟩
      · rw [show w = V.str z from r2]
      · obtain ⟨s3, ok3⟩ := ok2.alloc (o := .lst ((Txt.split u z).map V.str)) hp
        exact q _ _ _ ((s1.trans s2).trans s3) ok3 ⟨p, _, rfl, upd_same, Rps.strs.mpr rfl⟩
    · cases e3
  · cases e3
theorem v_join {apos : Pos} (ha : PE X a (rdB X.K ma)) (hb : PE X b (rdB X.K mb)) (hs : starEach [b] X.env = [(false, eval b X.env)] := by rfl) (hbase : attributeBase a "join" X.env (eval a X.env) = eval a X.env := by rfl) (hline : (apos.endLine == pos.line) = true := by rfl) :
    PE X (.Call (.Attribute a "join" apos) [b] [] pos) (rdV X.K (binM joinD ma mb)) := by
  refine pe_imp (pe_join ha hb hs hbase hline) fun σ H Q h => ?_
  obtain ⟨F, G, ρ, d, ρ', ok, hm, q⟩ := h
  obtain ⟨r, ρ1, s, x, y, h1, h2, e1, e2, e3⟩ := binM_some hm
  unfold joinD at e3
  split at e3
  · rename_i u ys
    split at e3
    · rename_i zs hz
      split at e3
      · rename_i hl
        cases e3
        have er := look_str e1
        subst er
        refine ⟨F, G, ρ, _, ρ1, ok, h1, fun v F1 H1 s1 ok1 r1 => ⟨⟨u, r1⟩, F1, G, ρ1, _, ρ', ok1, h2, fun w F2 H2 s2 ok2 r2 => ?_⟩⟩
        obtain ⟨p, vs, rfl, g1, g2⟩ := (look_ok ok2 r2 e2).list ok2.sub
        rw [strsOf_eq hz] at g2
        rw [Rps.strs.mp g2] at g1
        exact ⟨u, p, zs, r1, rfl, .inl (SqL.of g1), hl, q _ F2 H2 (s1.trans s2) ok2 rfl⟩
      · cases e3
    · cases e3
  · rename_i u ys
    split at e3
    · rename_i zs hz
      split at e3
      · rename_i hl
        cases e3
        have er := look_str e1
        subst er
        refine ⟨F, G, ρ, _, ρ1, ok, h1, fun v F1 H1 s1 ok1 r1 => ⟨⟨u, r1⟩, F1, G, ρ1, _, ρ', ok1, h2, fun w F2 H2 s2 ok2 r2 => ?_⟩⟩
        obtain ⟨p, vs, rfl, g1, _, g2⟩ := (look_ok ok2 r2 e2).tuple ok2.sub
        rw [strsOf_eq hz] at g2
        rw [Rps.strs.mp g2] at g1
        exact ⟨u, p, zs, r1, rfl, .inr g1, hl, q _ F2 H2 (s1.trans s2) ok2 rfl⟩
      · cases e3
    · cases e3
  · cases e3
end
end Fx
/-! Fx: texts as lists of signs -/
namespace Fx
open PySem PySem.Spec PyProof.Rows L2
variable [Wd]
def mk (l : List Nat) : Str := ⟨l.toArray⟩
theorem mk_tl (s : Str) : mk s.cps.toList = s := by
  cases s with
  | mk a => unfold mk; rw [Array.toArray_toList]
theorem tl_mk (l : List Nat) : (mk l).cps.toList = l := rfl
theorem mk_len (l : List Nat) : (mk l).length = l.length := by
  show l.toArray.size = _
  rw [List.size_toArray]
theorem mk_add (a b : List Nat) : mk a ++ mk b = mk (a ++ b) := by
  show (⟨a.toArray ++ b.toArray⟩ : Str) = ⟨(a ++ b).toArray⟩
  rw [List.append_toArray]
theorem mk_inj {a b : List Nat} (h : mk a = mk b) : a = b := by
  have := congrArg (fun s : Str => s.cps.toList) h
  exact this
def OkL (l : List Nat) : Prop := ∀ c ∈ l, c < 0x110000
theorem OkL.app {a b : List Nat} (ha : OkL a) (hb : OkL b) : OkL (a ++ b) := fun c hc => (List.mem_append.mp hc).elim (ha c) (hb c)
theorem OkL.sub {a b : List Nat} (h : OkL b) (hs : ∀ c ∈ a, c ∈ b) : OkL a := fun c hc => h c (hs c hc)
theorem OkL.nil : OkL [] := fun c hc => by cases hc
theorem mk_ok {l : List Nat} (h : OkL l) : PyData.strOk (mk l) = true := by
  unfold PyData.strOk mk
  rw [List.all_toArray, List.all_eq_true]
  intro c hc
  exact decide_eq_true (h c hc)
section
variable {a b l : List Nat} {K : D → Prop}
theorem fit_mk (h : l.length ≤ 16000000) : fitS (mk l).length = true := by rw [mk_len]; exact lenFit h
theorem bop_add_mk (hz : a.length + b.length ≤ 16000000) (h : K (.str (mk (a ++ b)))) : bop addD (some (.str (mk a))) (some (.str (mk b))) K := bop_add_ss (by rw [mk_len, mk_len]; show _ ≤ 2 ^ 24; omega) (by rw [mk_add]; exact h)
theorem uop_len_mk (hz : l.length ≤ 16000000) (h : K (.int l.length)) : uop lenD (some (.str (mk l))) K := uop_is (show (if fitS (mk l).length then some (PyData.int (mk l).length) else none) = _ by rw [if_pos (fit_mk hz), mk_len]) h
theorem bop_ix_mk {i c : Nat} (hz : l.length ≤ 16000000) (hc : l[i]? = some c) (h : K (.str (mk [c]))) : bop ixD (some (.str (mk l))) (some (.int (i : Nat))) K := bop_is (show (if fitS (mk l).length then (atI (mk l).cps.toList (i : Int)).map (fun c => PyData.str ⟨#[c]⟩) else none) = _ by
  rw [if_pos (fit_mk hz), tl_mk, atI_nat hc]
  rfl) h
theorem cutS_mid {i j : Nat} (h1 : i ≤ j) (h2 : j ≤ l.length) : cutS (mk l) (some (i : Int)) (some (j : Int)) = mk ((l.drop i).take (j - i)) := by
  unfold cutS
  rw [HT.sIx_nat, HT.sIx_nat, mk_len, Nat.min_eq_left h2, Nat.min_eq_left (Nat.le_trans h1 h2)]
  rfl
theorem uop_cut_mk {i j : Nat} (hz : l.length ≤ 16000000) (h1 : i ≤ j) (h2 : j ≤ l.length) (h : K (.str (mk ((l.drop i).take (j - i))))) : uop (fun x => slD x (some (i : Int)) (some (j : Int))) (some (.str (mk l))) K := uop_is (show (if fitS (mk l).length then some (PyData.str (cutS (mk l) (some (i : Int)) (some (j : Int)))) else none) = _ by
  rw [if_pos (fit_mk hz), cutS_mid h1 h2]) h
theorem signs_mk : signs (mk l) = l.map fun c => PyData.str (mk [c]) := rfl
theorem bop_in_mk {c : Nat} (h : K (.bool (decide (c ∈ l)))) : bop inD (some (.str (mk [c]))) (some (.str (mk l))) K := bop_is rfl h
theorem bop_ne_mk (ha : OkL a) (hb : OkL b) (h : K (.bool (!decide (a = b)))) : bop neD (some (.str (mk a))) (some (.str (mk b))) K := bop_ne_ss (mk_ok ha) (mk_ok hb) (by
  rw [show decide (mk a = mk b) = decide (a = b) from by
    by_cases e : a = b
    · rw [decide_eq_true e, decide_eq_true (congrArg mk e)]
    · rw [decide_eq_false e, decide_eq_false fun h => e (mk_inj h)]]
  exact h)
theorem items_mk {K : List D → Prop} (h : K (l.map fun c => PyData.str (mk [c]))) : uop itemsD (some (.str (mk l))) K := uop_is rfl h
end
/-- the parts of a split -/
theorem parts_of {S : List Nat} : ∀ (ps : List (List Nat)), (ps.map List.length).sum ≤ (TL.joinL S ps).length ∧ ∀ p ∈ ps, ∀ c ∈ p, c ∈ TL.joinL S ps
  | [] => ⟨Nat.le_refl _, fun p hp => by cases hp⟩
  | [p] => ⟨by simp [TL.joinL], fun q hq c hc => by rw [List.mem_singleton.mp hq] at hc; exact hc⟩
  | p :: q :: r => by
    obtain ⟨h1, h2⟩ := parts_of (S := S) (q :: r)
    have e : TL.joinL S (p :: q :: r) = p ++ (S ++ TL.joinL S (q :: r)) := rfl
    constructor
    · rw [e, List.map_cons, List.sum_cons, List.length_append, List.length_append]
      omega
    · intro x hx c hc
      rw [e]
      rcases List.mem_cons.mp hx with rfl | hx
      · exact List.mem_append_left _ hc
      · exact List.mem_append_right _ (List.mem_append_right _ (h2 x hx c hc))
theorem joinL_len {S : List Nat} : ∀ (ps : List (List Nat)), (TL.joinL S ps).length ≤ (ps.map List.length).sum + ps.length * S.length ∧ ∀ c ∈ TL.joinL S ps, c ∈ S ∨ ∃ p ∈ ps, c ∈ p
  | [] => ⟨by simp [TL.joinL], fun c hc => by cases hc⟩
  | [p] => ⟨by simp [TL.joinL], fun c hc => .inr ⟨p, List.mem_singleton.mpr rfl, hc⟩⟩
  | p :: q :: r => by
    obtain ⟨h1, h2⟩ := joinL_len (S := S) (q :: r)
    have e : TL.joinL S (p :: q :: r) = p ++ (S ++ TL.joinL S (q :: r)) := rfl
    constructor
    · rw [e, List.map_cons, List.sum_cons, List.length_append, List.length_append, List.length_cons, Nat.succ_mul]
      omega
    · intro c hc
      rw [e] at hc
      rcases List.mem_append.mp hc with hc | hc
      · exact .inr ⟨p, List.mem_cons_self, hc⟩
      rcases List.mem_append.mp hc with hc | hc
      · exact .inl hc
      rcases h2 c hc with h | ⟨x, hx, hc⟩
      · exact .inl h
      · exact .inr ⟨x, List.mem_cons_of_mem _ hx, hc⟩
theorem split_facts (l z : List Nat) (hz : z ≠ []) : ∃ ps : List (List Nat), Txt.split (mk l) (mk z) = ps.map mk ∧ ps.length ≤ l.length + 2 ∧ (ps.map List.length).sum ≤ l.length ∧ ∀ p ∈ ps, ∀ c ∈ p, c ∈ l := by
  refine ⟨(Txt.split (mk l) (mk z)).map TL.tl, ?_, ?_, ?_⟩
  · rw [List.map_map]
    conv => lhs; rw [← List.map_id (Txt.split (mk l) (mk z))]
    exact List.map_congr_left fun s _ => (mk_tl s).symm
  · rw [List.length_map]
    have := PyProof.Rows.split_le (mk l) (mk z)
    rw [mk_len] at this
    exact this
  · have e := PySem.StrLaws.join_split (mk l) (mk z)
    have e := congrArg TL.tl e
    rw [TL.tl_join] at e
    have h := parts_of (S := TL.tl (mk z)) ((Txt.split (mk l) (mk z)).map TL.tl)
    rw [e] at h
    exact h
theorem join_facts (s : List Nat) (ps : List (List Nat)) : ∃ r, Txt.join (mk s) (ps.map mk) = mk r ∧ r.length ≤ (ps.map List.length).sum + ps.length * s.length ∧ ∀ c ∈ r, c ∈ s ∨ ∃ p ∈ ps, c ∈ p := by
  refine ⟨TL.joinL s ps, ?_, joinL_len ps⟩
  rw [TL.join_eq]
  have := TL.tl_join (mk s) (ps.map mk)
  rw [List.map_map, show TL.tl ∘ mk = id from rfl, List.map_id] at this
  rw [← mk_tl (Str.join (mk s) (ps.map mk))]
  exact congrArg mk this
theorem uop_split_mk {l z : List Nat} {K : D → Prop} (hz : z ≠ []) (hl : l.length ≤ 16000000) (h : ∀ ps : List (List Nat), ps.length ≤ l.length + 2 → (ps.map List.length).sum ≤ l.length → (∀ p ∈ ps, ∀ c ∈ p, c ∈ l) → K (.list (ps.map fun p => PyData.str (mk p)))) : bop splitD (some (.str (mk l))) (some (.str (mk z))) K := by
  obtain ⟨ps, e, h1, h2, h3⟩ := split_facts l z hz
  refine bop_is (z := .list ((Txt.split (mk l) (mk z)).map PyData.str)) ?_ ?_
  · show (if ((mk z).length == 0) = false ∧ (mk l).length + 2 ≤ sizeLine then some (PyData.list ((Txt.split (mk l) (mk z)).map PyData.str)) else none) = _
    rw [if_pos]
    refine ⟨?_, by rw [mk_len]; show _ ≤ 2 ^ 24; omega⟩
    rw [mk_len]
    cases z with
    | nil => exact absurd rfl hz
    | cons c z => rfl
  · rw [e, List.map_map]
    exact h ps h1 h2 h3
theorem bop_join_mk {s : List Nat} {ps : List (List Nat)} {K : D → Prop} (hl : (ps.map List.length).sum + ps.length * s.length ≤ 16000000) (h : ∀ r : List Nat, r.length ≤ (ps.map List.length).sum + ps.length * s.length → (∀ c ∈ r, c ∈ s ∨ ∃ p ∈ ps, c ∈ p) → K (.str (mk r))) : bop joinD (some (.str (mk s))) (some (.list (ps.map fun p => PyData.str (mk p)))) K := by
  obtain ⟨r, e, h1, h2⟩ := join_facts s ps
  have em : (ps.map fun p => PyData.str (mk p)) = (ps.map mk).map PyData.str := by rw [List.map_map]; rfl
  rw [em]
  refine bop_is (z := .str (mk r)) ?_ (h r h1 h2)
  show (match strsOf ((ps.map mk).map PyData.str) with
    | some zs => if (zs.map fun z : Str => z.length).sum + zs.length * (mk s).length ≤ 16777216 then some (PyData.str (Txt.join (mk s) zs)) else none
    | none => none) = _
  rw [strsOf_map]
  show (if ((ps.map mk).map fun z : Str => z.length).sum + (ps.map mk).length * (mk s).length ≤ 16777216 then some (PyData.str (Txt.join (mk s) (ps.map mk))) else none) = _
  rw [List.map_map, show ((fun x : Str => x.length) ∘ mk) = (List.length : List Nat → Nat) from funext mk_len, List.length_map, mk_len, if_pos (by omega), e]
end Fx
/-! Fx: xs[::-1], text.index -/
namespace Fx
open PySem PySem.Spec PyProof.Rows L2
variable [Wd]
def revD : D → Option D
  | .list xs => some (.list xs.reverse)
  | .tuple xs => some (.tuple xs.reverse)
  | _ => none
theorem rev_places (n : Nat) : Builtin.Slice.slicePlaces ((n : Int) - 1) (-1) (-1) = n := by
  unfold Builtin.Slice.slicePlaces
  rw [if_neg (show ¬ ((-1 : Int) > 0) by decide)]
  by_cases h : (n : Int) - 1 > -1
  · rw [if_pos h, show (-(-1) : Int) = 1 by decide, Int.ediv_one]; omega
  · rw [if_neg h]; omega
theorem rev_pick (xs : Array Value) : ((List.range xs.size).filterMap fun (k : Nat) => xs[(((xs.size : Int) - 1) + (k : Int) * (-1)).toNat]?).toArray = xs.toList.reverse.toArray := by
  congr 1
  have e : ((List.range xs.size).filterMap fun (k : Nat) => xs[(((xs.size : Int) - 1) + (k : Int) * (-1)).toNat]?) = ((List.range xs.size).map fun k => xs.size - 1 - k).filterMap (xs[·]?) := by
    rw [List.filterMap_map]
    have key : ∀ l : List Nat, (∀ k ∈ l, k < xs.size) → (l.filterMap fun (k : Nat) => xs[(((xs.size : Int) - 1) + (k : Int) * (-1)).toNat]?) = l.filterMap ((xs[·]?) ∘ fun k => xs.size - 1 - k) := by
      intro l
      induction l with
      | nil => intro _; rfl
      | cons k l ih =>
        intro hl
        have hk := hl k List.mem_cons_self
        rw [List.filterMap_cons, List.filterMap_cons, ih fun j hj => hl j (List.mem_cons_of_mem _ hj)]
        have : ((((xs.size : Int) - 1) + (k : Int) * (-1)).toNat) = xs.size - 1 - k := by omega
        rw [this]
        rfl
    exact key _ fun k hk => List.mem_range.mp hk
  rw [e, PySem.W.krv_range, List.filterMap_reverse, PySem.W.krv_all]
section
variable {prog : Program} {w : World} {A : Around} {E : Value → Shared → Prop} {s : Shared}
theorem sliceApplied_rev {sl : Addr} {n : Nat} {u : Tok} {Q : Int × Int × Nat → Shared → Prop} (hs : s.heap.IsSliceOf sl .none .none (.int (-1) u)) (h : Q ((n : Int) - 1, -1, n) s) :
    wpAny (model prog w) A (Builtin.Slice.sliceApplied (.ref sl) (pure (n : Int))) Q E s := by
  obtain ⟨os, hos, hcs, hds⟩ := id hs
  unfold Builtin.Slice.sliceApplied Builtin.Slice.sliceFields
  refine wpAny_bind (wpAny_bind (wpAny_field hos hds (x := .none) rfl (wpAny_bind (wpAny_field hos hds (x := .none) rfl (wpAny_bind (wpAny_field hos hds (x := .int (-1) u) rfl (wpAny_pure ?_)))))))
  refine wpAny_bind (slicePart_int ?_)
  show wpAny _ _ (if ((-1 : Int) == 0) = true then _ else _) _ _ s
  rw [if_neg (by decide)]
  refine wpAny_bind (slicePart_none (wpAny_bind (slicePart_none (wpAny_bind (wpAny_pure ?_)))))
  have e := rev_places n
  show wpAny _ _ (pure ((n : Int) - 1, (-1 : Int), Builtin.Slice.slicePlaces ((n : Int) - 1) (-1) (-1))) _ _ s
  rw [e]
  exact wpAny_pure h
theorem getItem_tuple_rev {t sl : Addr} {items : Array Value} {vs : Value} {Q : Value → Shared → Prop} (ht : IsTup s.heap t items) (hs : s.heap.IsSliceOf sl .none .none vs) (hv : ∃ u, vs = .int (-1) u)
    (h : Q (.ref s.heap.objs.size) { s with heap := s.heap.push { cls := .type "tuple", data := .seq items.toList.reverse.toArray } })
    (hsz : items.size ≤ sizeLine) : wpAny (model prog w) A (getItem (.ref t) (.ref sl)) Q E s := by
  obtain ⟨u, rfl⟩ := hv
  have hdrop : sizeOk (.seq items.toList.reverse.toArray) := by
    show items.toList.reverse.toArray.size ≤ sizeLine
    rw [List.size_toArray, List.length_reverse, Array.length_toList]
    exact hsz
  obtain ⟨os, hos, hcs, hds⟩ := id hs
  have hTs : s.TypeIs (.ref sl) "slice" := ⟨os, hos, hcs⟩
  unfold getItem
  try with_reducible refine wpAny_holding ?_
  first | refine wpAny_bind (wpAny_pure ?_) | skip
  refine wpAny_bind (wpAny_sequenceKey ht.typeIs (by decide) ?_)
  refine wpAny_bind (wpAny_callSpecial?_slot (name := Str.ofString "__getitem__") ht.typeIs PyProof.Rows.slot_tuple_getitem
    (wpAny_call_entry PyProof.Rows.slot_tuple_getitem ht.typeIs PyProof.Rows.entry_tuple_getitem ?_ (PyProof.Rows.args_tuple_getitem _ _)))
  show wpAny _ _ (Builtin.Tuple.tupleItemsOf (.ref t) >>= _) _ _ s
  refine wpAny_bind (tupleItemsOf_ ht ?_)
  refine wpAny_bind (wpAny_typeOf hTs ?_)
  rw [if_pos (by decide)]
  refine wpAny_bind (sliceApplied_rev hs ?_)
  have hno : ¬ ((((items.size : Int) - 1) == 0 && (-1 : Int) == 1 && items.size == items.size) = true) := by
    rw [show ((-1 : Int) == 1) = false from rfl, Bool.and_false]
    simp
  show wpAny _ _ (if (((items.size : Int) - 1) == 0 && (-1 : Int) == 1 && items.size == items.size) = true then _ else _) _ _ s
  rw [if_neg hno, rev_pick items]
  first
    | exact wpAny_bind (m := Builtin.Tuple.tupleExact _) (wpAny_newObj_type (wpAny_pure ⟨_, rfl, wpAny_pure h⟩) hdrop)
    | exact wpAny_bind (m := Builtin.Tuple.tupleExact _) (wpAny_newObj_type (wpAny_bind (wpAny_pure (wpAny_pure ⟨_, rfl, wpAny_pure h⟩))) hdrop)
    | exact wpAny_bind (wpAny_bind (m := Builtin.Tuple.tupleExact _) (wpAny_newObj_type (wpAny_pure (wpAny_pure ⟨_, rfl, wpAny_pure h⟩)) hdrop))
    | exact wpAny_bind (wpAny_bind (m := Builtin.Tuple.tupleExact _) (wpAny_newObj_type (wpAny_pure ⟨_, rfl, wpAny_pure h⟩) hdrop))
end
/-- xs[::-1], of a list, of a tuple -/
def tRevG (K : Kf) (te : TE) : TE := fun σ H Q => te σ H fun x H1 => ∃ a xs, x = .ref a ∧ ((SqL K H1 a xs ∧ ∀ p, H1 p = none → Q (.ref p) (upd H1 p (.lst xs.reverse))) ∨ (SqT K H1 a xs ∧ ∀ p, H1 p = none → Q (.ref p) (upd H1 p (.tup xs.reverse))))
theorem pe_revG {X : Cx} {e : Expr} {te : TE} {k : Nat} {p1 p2 p3 pos : Pos} (he : PE X e te) : PE X (.Subscript e (.Slice none none (some (.UnaryOp .USub (.Constant (.int 1) k p1) p2)) p3) pos) (tRevG X.K te) := by
  refine ⟨fun pins s σ H Q I h => ?_⟩
  refine Subscript_ (thn (he.run pins s σ H _ I h) fun v s1 ⟨x, H1, I1, r1, q1⟩ => ?_)
  obtain ⟨a, xs, ex, q⟩ := q1
  subst ex
  cases r1
  have hst : PO X (some (.UnaryOp .USub (.Constant (.int 1) k p1) p2)) (tPart (tUn (rU fun i => .int (-i)) (tC (.int 1)))) := po_some (pe_un un_neg pe_int)
  refine wpAny_Slice (thn (po_none.run pins s1 σ H1 (fun o H2 => o = none ∧ H2 = H1) I1 ⟨rfl, rfl⟩) fun vl s2 ⟨l, H2, I2, pl, el, e2⟩ => ?_)
  subst el e2
  refine thn (po_none.run pins s2 σ H2 (fun o H3 => o = none ∧ H3 = H2) I2 ⟨rfl, rfl⟩) fun vu s3 ⟨u, H3, I3, pu, eu, e3⟩ => ?_
  subst eu e3
  refine thn (hst.run pins s3 σ H3 (fun o H4 => o = some (-1) ∧ H4 = H3) I3 ⟨1, rfl, -1, rfl, rfl, rfl⟩) fun vs s4 ⟨o, H4, I4, ps, eo, e4⟩ => ?_
  subst eo e4
  have I5 : Inv X pins σ H4 { s4 with heap := s4.heap.push { cls := .type "slice", data := .fields #[vl, vu, vs] } } := I4.kept (t' := s4.toks) fun b ob q => Heap.get?_push_of_some _ q
  show wpAny (model X.prog X.w) X.A (subscriptTail e (.Slice none none (some (.UnaryOp .USub (.Constant (.int 1) k p1) p2)) p3) (.ref a) (.ref s4.heap.objs.size)) (EP X pins σ Q) X.xe { s4 with heap := s4.heap.push { cls := .type "slice", data := .fields #[vl, vu, vs] } }
  rcases q with ⟨hx, q⟩ | ⟨hx, q⟩
  · obtain ⟨its, r, ht, hz⟩ := I5.list hx
    have hlen := r.length
    refine tail_any (ops := [.ref a, .ref s4.heap.objs.size]) ht.isList.typeIs (PySem.slot_list_getitem.lookup) ?_ (by with_unfolding_all rfl)
    refine wpAny_getItem_list_slice ht.isList (Heap.IsSliceOf.new _ vl vu vs) pl pu ps (by decide) ?_ (by rw [List.size_toArray]; omega)
    rw [PySem.W.krv_pick]
    refine ⟨.ref _, _, I5.laid (t' := s4.toks) (o := .lst xs.reverse) (fun b ob q => Heap.get?_push_of_some _ q) (Nat.le_refl _) ?_, rfl, q _ (I5.hok.fresh (Nat.le_refl _))⟩
    exact ⟨by rw [List.length_reverse]; exact hz, _, 0, r.reverse, Heap.get?_push_size _ rfl⟩
  · obtain ⟨its, r, ht, hz⟩ := I5.tuple hx
    have hlen := r.length
    cases ps
    cases pl
    cases pu
    refine tail_any (ops := [.ref a, .ref s4.heap.objs.size]) ht.typeIs (PyProof.Rows.slot_tuple_getitem.lookup) ?_ (by with_unfolding_all rfl)
    refine getItem_tuple_rev ht (Heap.IsSliceOf.new _ _ _ _) ⟨_, rfl⟩ ?_ (by rw [List.size_toArray]; omega)
    refine ⟨.ref _, _, I5.laid (t' := s4.toks) (o := .tup xs.reverse) (fun b ob q => Heap.get?_push_of_some _ q) (Nat.le_refl _) ?_, rfl, q _ (I5.hok.fresh (Nat.le_refl _))⟩
    exact ⟨by rw [List.length_reverse]; exact hz, _, r.reverse, ⟨_, Heap.get?_push_size _ rfl, rfl, _, rfl⟩⟩
def indexD : D → D → Option D
  | .str a, .str b => match Builtin.Str.occurrences a b 0 a.length 1 with
    | i :: _ => some (.int (i : Nat))
    | [] => none
  | _, _ => none
section
variable {X : Cx} {a b e : Expr} {m ma mb : M Rf} {pos : Pos}
theorem v_rev {k : Nat} {p1 p2 p3 : Pos} (he : PE X e (rdB X.K m)) : PE X (.Subscript e (.Slice none none (some (.UnaryOp .USub (.Constant (.int 1) k p1) p2)) p3) pos) (rdV X.K (b1M revD m)) := by
  refine pe_imp (pe_revG he) fun σ H Q h => ?_
  obtain ⟨F, G, ρ, d, ρ', ok, hm, q⟩ := h
  obtain ⟨r, y, h1, h2, h3⟩ := b1_some hm
  refine ⟨F, G, ρ, r, ρ', ok, h1, fun v F1 H1 s1 ok1 r1 => ?_⟩
  unfold revD at h3
  split at h3
  · rename_i xs
    cases h3
    obtain ⟨p, vs, rfl, g1, g2⟩ := (look_ok ok1 r1 h2).list ok1.sub
    refine ⟨p, vs, rfl, .inl ⟨SqL.of g1, fun q' hq => ?_⟩⟩
    obtain ⟨s2, ok2⟩ := ok1.alloc (o := .lst vs.reverse) hq
    exact q _ _ _ (s1.trans s2) ok2 ⟨q', _, rfl, upd_same, Rps.mono s2 _ _ (Rps.reverse g2)⟩
  · rename_i xs
    cases h3
    obtain ⟨p, vs, rfl, g1, _, g2⟩ := (look_ok ok1 r1 h2).tuple ok1.sub
    refine ⟨p, vs, rfl, .inr ⟨g1, fun q' hq => ?_⟩⟩
    obtain ⟨s2, ok2⟩ := ok1.alloc (o := .tup vs.reverse) hq
    exact q _ _ _ (s1.trans s2) ok2 ⟨q', _, rfl, .inl (.inl upd_same), Rps.mono s2 _ _ (Rps.reverse g2)⟩
  · cases h3
theorem v_index {apos : Pos} (ha : PE X a (rdB X.K ma)) (hb : PE X b (rdB X.K mb)) (hs : starEach [b] X.env = [(false, eval b X.env)] := by rfl) (hbase : attributeBase a "index" X.env (eval a X.env) = eval a X.env := by rfl) (hline : (apos.endLine == pos.line) = true := by rfl) :
    PE X (.Call (.Attribute a "index" apos) [b] [] pos) (rdV X.K (binM indexD ma mb)) := by
  refine pe_imp (pe_m1 F.slot_str_index F.type_str_index mt_sindex ha hb hs hbase hline) fun σ H Q h => ?_
  obtain ⟨F, G, ρ, d, ρ', ok, hm, q⟩ := h
  obtain ⟨r, ρ1, s, x, y, h1, h2, e1, e2, e3⟩ := binM_some hm
  unfold indexD at e3
  split at e3
  · rename_i u z
    split at e3
    · rename_i i rest hz
      cases e3
      have er := look_str e1
      have es := look_str e2
      subst er es
      refine ⟨F, G, ρ, _, ρ1, ok, h1, fun v F1 H1 s1 ok1 r1 => ⟨⟨u, r1⟩, F1, G, ρ1, _, ρ', ok1, h2, fun w F2 H2 s2 ok2 r2 => ⟨u, z, i, rest, r1, ?_, hz, ?_⟩⟩⟩
      · rw [show w = V.str z from r2]
      · exact q _ _ _ (s1.trans s2) ok2 rfl
    · cases e3
  · cases e3
end
/-- where the fuel of a recursion is out, nothing is said -/
theorem pss_none {X : Cx} {st : List Stmt} {pr : List Nat} : PSs X st (rdS X.K pr (fun _ => none)) := ⟨fun pins s σ H D I h => by
  obtain ⟨_, _, _, _, _, _, hm, _⟩ := h
  cases hm⟩
end Fx
/-! Fx: dicts with ints or texts as keys -/
namespace Fx
open PySem PySem.Spec PyProof.Rows L2
variable [Wd]
def newKM : M Own := ret (.dk [])
def getK (i : Nat) (x : D) : M D := fun ρ => match ρ[i]?, keyD x with
  | some (.o (.dk kvs)), some k => (getG kvs k).map fun d => (d, ρ)
  | _, _ => none
def kgetM (i : Nat) (m : M D) : M D := bnd (ownM i) fun _ => bnd m fun x => getK i x
def putKM (i : Nat) (d x : D) : MS := fun ρ => match ρ[i]?, keyD x with
  | some (.o (.dk kvs)), some k => if decide (kvs.length < sizeLine) then some (.nx, ρ.set i (.o (.dk (putG kvs k d)))) else none
  | _, _ => none
def kputM (i : Nat) (m n : M D) : MS := bnd m fun d => bnd (ownM i) fun _ => bnd n fun x => putKM i d x
section
variable {X : Cx} {e ke : Expr} {pos p : Pos}
theorem n_newK : PE X (.Dict [] [] pos) (rdN X.K newKM) := by
  refine pe_imp pe_dnewK fun σ H Q h => ?_
  obtain ⟨F, G, ρ, d, ρ', ok, hm, q⟩ := h
  cases hm
  intro p hp
  obtain ⟨ok2, n⟩ := ok.fresh (o := .dK []) hp
  exact q p F _ (Same.refl F) ok2 n ⟨[], upd_same, rfl, rfl⟩
theorem v_kget (i : Nat) {x : Str} {m : M D} {px : Pos} (hu : X.A.units + 64 < cLine) (hk : PE X ke (rdV X.K m)) (hN : X.N[i]? = some x := by rfl) (hv : Vis X.env.scope x := by first | exact Or.inl rfl | exact Or.inr (Or.inl rfl) | exact Or.inr (Or.inr rfl)) (hd : (x == ("__debug__" : Str)) = false := by decide)
    (hcd : (x == ("__classdict__" : Str)) = false := by decide) (hs : NoSl ke := by intro _ _; rfl) : PE X (.Subscript (.Name x px) ke pos) (rdV X.K (kgetM i m)) := by
  refine pe_imp (pe_dget (by omega) (pe_var (i := i) hN hv hd hcd) hk hs) fun σ H Q h => ?_
  obtain ⟨F, G, ρ, d, ρ', ok, hm, q⟩ := h
  obtain ⟨u, ρ1, h1, h2⟩ := bnd_some hm
  obtain ⟨rfl, b, hb⟩ := own_some h1
  obtain ⟨kd, ρ2, h3, h4⟩ := bnd_some h2
  obtain ⟨p, hp, _, _, _⟩ := ok.own i b hb
  refine ⟨.ref p, hp, F, G, ρ1, kd, ρ2, ok, h3, fun kv F1 H1 s1 ok1 r1 => ?_⟩
  unfold getK at h4
  split at h4
  · rename_i kvs k hx hk'
    obtain ⟨q', hq, f2, g2, ws, h7, h8, h9⟩ := ok1.own i _ hx
    rw [hp] at hq
    cases hq
    cases hg : getG kvs k with
    | none => rw [hg] at h4; cases h4
    | some d' =>
      rw [hg] at h4
      cases h4
      obtain ⟨v, hv1, hv2⟩ := Two.get (kvs := kvs) (ws := ws) ⟨h8, h9⟩ hg
      refine ⟨p, v, rfl, ?_, q v _ _ s1 ok1 hv2⟩
      rw [← hv1, key_v hk' r1]
      exact DGet.k h7
  · cases h4
theorem s_kput (i : Nat) {x : Str} {m n : M D} {pr : List Nat} {px p2 : Pos} (hu : X.A.units + 64 < cLine) (he : PE X e (rdV X.K m)) (hk : PE X ke (rdV X.K n)) (hN : X.N[i]? = some x := by rfl) (hv : Vis X.env.scope x := by first | exact Or.inl rfl | exact Or.inr (Or.inl rfl) | exact Or.inr (Or.inr rfl)) (hd : (x == ("__debug__" : Str)) = false := by decide)
    (hcd : (x == ("__classdict__" : Str)) = false := by decide) (hs : swapsWith e (some (.Subscript (.Name x px) ke p2)) pos.line X.env = pure false := by rfl) : PS X (.Assign [.Subscript (.Name x px) ke p2] e pos) (rdS X.K pr (kputM i m n)) := ps_imp (ps_dput (by omega) (pe_var (i := i) hN hv hd hcd) hk he hs) fun E σ H h => by
  obtain ⟨F, G, ρ, fl, ρ', ok, hm, w⟩ := h
  obtain ⟨d, ρ1, h1, h2⟩ := bnd_some hm
  obtain ⟨u, ρ2, h3, h4⟩ := bnd_some h2
  obtain ⟨rfl, b, hb⟩ := own_some h3
  obtain ⟨kd, ρ3, h5, h6⟩ := bnd_some h4
  refine ⟨F, G, ρ, d, ρ2, ok, h1, fun v F1 H1 s1 ok1 r1 => ?_⟩
  obtain ⟨p, hp, _, _, _⟩ := ok1.own i b hb
  refine ⟨.ref p, hp, F1, G, ρ2, kd, ρ3, ok1, h5, fun kv F2 H2 s2 ok2 r2 => ?_⟩
  unfold putKM at h6
  split at h6
  · rename_i kvs k hx hk'
    split at h6
    · rename_i hl
      cases h6
      obtain ⟨q', hq, f2, g2, ws, h7, h8, h9⟩ := ok2.own i _ hx
      rw [hp] at hq
      cases hq
      have hlen : ws.length = kvs.length := by
        have := congrArg List.length h8
        rw [List.length_map, List.length_map] at this
        exact this
      have T := Two.put (kvs := kvs) (ws := ws) (k := k) ⟨h8, h9⟩ (Rp.mono s2 _ _ r1)
      refine ⟨p, _, rfl, by rw [key_v hk' r2]; exact DPut.k h7 (by rw [hlen]; exact of_decide_eq_true hl), ?_⟩
      exact w σ _ _ (s1.trans s2) (ok2.turn hx hp ⟨_, upd_same, T.1, T.2⟩) Pr.refl
    · cases h6
  · cases h6
end
section
variable {ρ : Rho} {i : Nat}
theorem wp_newK {Q : Own → Rho → Prop} (h : Q (.dk []) ρ) : wp newKM ρ Q := ⟨_, ρ, rfl, h⟩
theorem wp_kget {m : M D} {Q : D → Rho → Prop} (h : wp (ownM i) ρ fun _ ρ1 => wp m ρ1 fun x ρ2 => ∃ kvs k d, ρ2[i]? = some (.o (.dk kvs)) ∧ keyD x = some k ∧ getG kvs k = some d ∧ Q d ρ2) : wp (kgetM i m) ρ Q := by
  obtain ⟨u, ρ1, h1, x, ρ2, h2, kvs, k, d, e1, e2, e4, q⟩ := h
  refine ⟨d, ρ2, (bnd_eq h1).trans ((bnd_eq h2).trans ?_), q⟩
  unfold getK
  rw [e1, e2]
  show (getG kvs k).map _ = _
  rw [e4]
  rfl
theorem wp_kput {m n : M D} {Q : Fl → Rho → Prop} (h : wp m ρ fun d ρ1 => wp (ownM i) ρ1 fun _ ρ2 => wp n ρ2 fun x ρ3 => ∃ kvs k, ρ3[i]? = some (.o (.dk kvs)) ∧ keyD x = some k ∧ kvs.length < sizeLine ∧ Q .nx (ρ3.set i (.o (.dk (putG kvs k d))))) : wp (kputM i m n) ρ Q := by
  obtain ⟨d, ρ1, h1, u, ρ2, h2, x, ρ3, h3, kvs, k, e1, e2, e4, q⟩ := h
  refine ⟨_, _, (bnd_eq h1).trans ((bnd_eq h2).trans ((bnd_eq h3).trans ?_)), q⟩
  unfold putKM
  rw [e1, e2]
  show (if decide (kvs.length < sizeLine) = true then _ else none) = _
  rw [if_pos (decide_eq_true e4)]
end
end Fx
/-! Fx: a dict's display -/
namespace Fx
open PySem PySem.Spec PyProof.Rows L2
variable [Wd]
/-- the pairs, from the left: keys are constants -/
def pairsM : List (D × M D) → M (List (D × D))
  | [] => ret []
  | (k, m) :: r => bnd m fun d => bnd (pairsM r) fun ds => ret ((k, d) :: ds)
def PRp (K : Kf) (F : Hp) : List (D × D) → List (V × V) → Prop
  | [], ps => ps = []
  | (k, d) :: r, ps => ∃ x y t, ps = (x, y) :: t ∧ Rp K F k x ∧ Rp K F d y ∧ PRp K F r t
theorem PRp.mono {K : Kf} {F F' : Hp} (s : Same F F') : ∀ {ds : List (D × D)} {ps : List (V × V)}, PRp K F ds ps → PRp K F' ds ps
  | [], _, h => h
  | (k, d) :: r, ps, ⟨x, y, t, e, h1, h2, h3⟩ => ⟨x, y, t, e, Rp.mono s _ _ h1, Rp.mono s _ _ h2, PRp.mono s h3⟩
theorem pairs_run {K : Kf} {G : Hp} {σ : L2.St} : ∀ {l : List (D × M D)} {F H : Hp} {ρ ρ' : Rho} {ds : List (D × D)} {Q : List (V × V) → Hp → Prop}, Ok K F G H σ ρ → pairsM l ρ = some (ds, ρ') →
    (∀ ps F' H', Same F F' → Ok K F' G H' σ ρ' → PRp K F' ds ps → Q ps H') → tPairs (l.map fun x => (rdV K (cM x.1), rdV K x.2)) σ H Q
  | [], F, H, ρ, ρ', ds, Q, ok, h, q => by
    cases h
    exact q [] F H (Same.refl F) ok rfl
  | (k, m) :: l, F, H, ρ, ρ', ds, Q, ok, h, q => by
    have h : bnd m (fun d => bnd (pairsM l) fun ds => ret ((k, d) :: ds)) ρ = some (ds, ρ') := h
    obtain ⟨d, ρ1, h1, h2⟩ := bnd_some h
    obtain ⟨es, ρ2, h3, h4⟩ := bnd_some h2
    cases h4
    refine ⟨F, G, ρ, k, ρ, ok, rfl, fun x F1 H1 s1 ok1 r1 => ⟨F1, G, ρ, d, ρ1, ok1, h1, fun y F2 H2 s2 ok2 r2 => ?_⟩⟩
    exact pairs_run ok2 h3 fun ps F3 H3 s3 ok3 r3 => q _ F3 H3 ((s1.trans s2).trans s3) ok3 ⟨x, y, ps, rfl, Rp.mono (s2.trans s3) _ _ r1, Rp.mono s3 _ _ r2, r3⟩
def mergeG {κ α : Type} [DecidableEq κ] (kvs more : List (κ × α)) : List (κ × α) := more.foldl (fun acc kv => putG acc kv.1 kv.2) kvs
def kpairs : List (D × D) → Option (List (Key × D))
  | [] => some []
  | (k, d) :: r => match keyD k, kpairs r with
    | some k, some t => some ((k, d) :: t)
    | _, _ => none
theorem kpairs_is {K : Kf} {F : Hp} : ∀ {ds : List (D × D)} {ps : List (V × V)} {kd : List (Key × D)}, kpairs ds = some kd → PRp K F ds ps → ∃ ws : List (Key × V), ps = ws.map (fun kv => (kV kv.1, kv.2)) ∧ ws.length = kd.length ∧ ∀ (a : List (Key × D)) (b : List (Key × V)), Two K F a b → Two K F (mergeG a kd) (mergeK b ws)
  | [], ps, kd, h, r => by
    cases h
    exact ⟨[], r, rfl, fun a b t => t⟩
  | (k, d) :: ds, ps, kd, h, ⟨x, y, t, e, h1, h2, h3⟩ => by
    unfold kpairs at h
    split at h
    · rename_i k' t' e1 e2
      cases h
      obtain ⟨ws, g1, g2, g3⟩ := kpairs_is e2 h3
      refine ⟨(k', y) :: ws, ?_, ?_, fun a b tt => g3 _ _ (Two.put tt h2)⟩
      · rw [e, g1, key_v e1 h1]; rfl
      · rw [List.length_cons, List.length_cons, g2]
    · cases h
def dispM (l : List (D × M D)) : M Own := bnd (pairsM l) fun ds => fun ρ => match kpairs ds with
  | some kd => if kd.length ≤ 15 then some (.dk (mergeG [] kd), ρ) else none
  | none => none
theorem n_disp {X : Cx} {pos : Pos} {keys : List (Option Expr)} {values : List Expr} {l : List (D × M D)} (h : PPs X pos keys values (l.map fun x => (rdV X.K (cM x.1), rdV X.K x.2))) (hall : keys.all (·.isSome) = true := by rfl) (hl : keys.length = values.length := by rfl) (h0 : keys ≠ [] := by intro e; cases e) (h15 : keys.length ≤ 15 := by decide) :
    PE X (.Dict keys values pos) (rdN X.K (dispM l)) := by
  refine pe_imp (pe_disp h hall hl h0 h15) fun σ H Q h => ?_
  obtain ⟨F, G, ρ, o, ρ', ok, hm, q⟩ := h
  obtain ⟨ds, ρ1, h1, h2⟩ := bnd_some hm
  intro p hp
  have gp : G p = none := by
    cases e : G p with
    | none => rfl
    | some u => have := ok.gsub _ _ e; rw [hp] at this; cases this
  refine pairs_run (ok.hide (o := .dK []) hp) h1 fun ps F1 H1 s1 ok1 r1 => ?_
  split at h2
  · rename_i kd hk
    split at h2
    · rename_i hz
      cases h2
      obtain ⟨ws, g1, g2, g3⟩ := kpairs_is hk r1
      refine ⟨ok1.gsub _ _ upd_same, ws, g1, by omega, ?_⟩
      have T := g3 [] [] ⟨rfl, rfl⟩
      obtain ⟨ok2, n2⟩ := (ok1.ghost (o' := .dK (mergeK [] ws))).unhide gp
      exact q p F1 _ s1 ok2 n2 ⟨_, upd_same, T.1, T.2⟩
    · cases h2
  · cases h2
theorem wp_disp_nil {ρ : Rho} {Q : List (D × D) → Rho → Prop} (h : Q [] ρ) : wp (pairsM []) ρ Q := ⟨_, ρ, rfl, h⟩
theorem wp_disp_cons {ρ : Rho} {k : D} {m : M D} {r : List (D × M D)} {Q : List (D × D) → Rho → Prop} (h : wp m ρ fun d ρ1 => wp (pairsM r) ρ1 fun ds ρ2 => Q ((k, d) :: ds) ρ2) : wp (pairsM ((k, m) :: r)) ρ Q := wp_bnd (wp_mono h fun _ _ q => wp_bnd (wp_mono q fun _ _ q => wp_ret q))
theorem wp_disp {ρ : Rho} {l : List (D × M D)} {Q : Own → Rho → Prop} (h : wp (pairsM l) ρ fun ds ρ1 => ∃ kd, kpairs ds = some kd ∧ kd.length ≤ 15 ∧ Q (.dk (mergeG [] kd)) ρ1) : wp (dispM l) ρ Q := by
  obtain ⟨ds, ρ1, h1, kd, e1, e2, q⟩ := h
  refine ⟨_, ρ1, (bnd_eq h1).trans ?_, q⟩
  show (match kpairs ds with
    | some kd => if kd.length ≤ 15 then some (Own.dk (mergeG [] kd), ρ1) else none
    | none => none) = _
  rw [e1]
  exact if_pos e2
/-- a split that stays an own list -/
def splitO : D → D → Option Own
  | .str s, .str z => if (z.length == 0) = false ∧ s.length + 2 ≤ sizeLine then some (.lst ((Txt.split s z).map PyData.str)) else none
  | _, _ => none
theorem n_split {X : Cx} {a b : Expr} {ma mb : M Rf} {pos apos : Pos} (ha : PE X a (rdB X.K ma)) (hb : PE X b (rdB X.K mb)) (hs : starEach [b] X.env = [(false, eval b X.env)] := by rfl) (hbase : attributeBase a "split" X.env (eval a X.env) = eval a X.env := by rfl) (hline : (apos.endLine == pos.line) = true := by rfl) :
    PE X (.Call (.Attribute a "split" apos) [b] [] pos) (rdN X.K (binM splitO ma mb)) := by
  refine pe_imp (pe_split ha hb hs hbase hline) fun σ H Q h => ?_
  obtain ⟨F, G, ρ, d, ρ', ok, hm, q⟩ := h
  obtain ⟨r, ρ1, s, x, y, h1, h2, e1, e2, e3⟩ := binM_some hm
  unfold splitO at e3
  split at e3
  · rename_i u z
    split at e3
    · rename_i hz
      cases e3
      have er := look_str e1
      have es := look_str e2
      subst er es
      refine ⟨F, G, ρ, _, ρ1, ok, h1, fun v F1 H1 s1 ok1 r1 => ⟨⟨u, r1⟩, F1, G, ρ1, _, ρ', ok1, h2, fun w F2 H2 s2 ok2 r2 => ⟨u, z, r1, ?_, hz.1, hz.2, fun p hp => ?_⟩⟩⟩
      · rw [show w = V.str z from r2]
      · obtain ⟨ok3, n⟩ := ok2.fresh (o := .lst ((Txt.split u z).map V.str)) hp
        exact q p F2 _ (s1.trans s2) ok3 n ⟨_, upd_same, Rps.strs.mpr rfl⟩
    · cases e3
  · cases e3
end Fx
/-! Fx: the order of data; sorted -/
namespace Fx
open PySem PySem.Spec PyProof.Rows L2
variable [Wd]
/-! ### < of data that can be compared place by place -/
def ordFit (x y : D) : Bool := SeqAt.shaped x && PyData.canLay0 y && PySem.W.alike x y && (match x with | .none => false | _ => true)
def ltGD (x y : D) : Option D := if ordFit x y then some (.bool (PySem.W.dataLt x y)) else none
def gtGD (x y : D) : Option D := if ordFit x y then some (.bool (PySem.W.dataLt y x)) else none
def leGD (x y : D) : Option D := if ordFit x y then some (.bool (!PySem.W.dataLt y x)) else none
def geGD (x y : D) : Option D := if ordFit x y then some (.bool (!PySem.W.dataLt x y)) else none
theorem ordFit_ok {x y : D} (h : ordFit x y = true) : SeqAt.shaped x = true ∧ PySem.W.alike x y = true ∧ x ≠ .none ∧ y.canLay0 = true := by
  unfold ordFit at h
  rw [Bool.and_eq_true, Bool.and_eq_true, Bool.and_eq_true] at h
  refine ⟨h.1.1.1, h.1.2, fun e => ?_, h.1.1.2⟩
  subst e
  exact Bool.noConfusion h.2
def rOrd (K : Kf) (f : D → D → Bool) : R2 := fun x y H Q => ∃ d e, Dp K H x d ∧ Dp K H y e ∧ SeqAt.shaped d = true ∧ PySem.W.alike d e = true ∧ d ≠ .none ∧ Q (.bl (f d e)) H
theorem depth64 {d : D} (h : SeqAt.shaped d = true) : d.depth ≤ 64 := by
  unfold SeqAt.shaped at h
  rw [Bool.and_eq_true] at h
  exact of_decide_eq_true h.2
section
variable {X : Cx}
theorem op_ltG (hu : X.A.units + 64 < cLine) : OpR X (compareOp .Lt) (rOrd X.K fun d e => PySem.W.dataLt d e) := by
  intro pins s σ H x y v u Q I rx ry h
  obtain ⟨d, e, hd, he, sd, al, nn, q⟩ := h
  obtain ⟨as, r1⟩ := Dp.reads I d x v hd rx
  obtain ⟨bs, r2⟩ := Dp.reads I e y u he ry
  have := depth64 sd
  exact PySem.W.lt_data r1 r2 al nn (by omega) ⟨.bl _, H, I, rfl, q⟩
theorem op_gtG (hu : X.A.units + 64 < cLine) : OpR X (compareOp .Gt) (rOrd X.K fun d e => PySem.W.dataLt e d) := by
  intro pins s σ H x y v u Q I rx ry h
  obtain ⟨d, e, hd, he, sd, al, nn, q⟩ := h
  obtain ⟨as, r1⟩ := Dp.reads I d x v hd rx
  obtain ⟨bs, r2⟩ := Dp.reads I e y u he ry
  have := depth64 sd
  exact PySem.W.gt_data r1 r2 al nn (by omega) ⟨.bl _, H, I, rfl, q⟩
theorem op_leG (hu : X.A.units + 64 < cLine) : OpR X (compareOp .LtE) (rOrd X.K fun d e => !PySem.W.dataLt e d) := by
  intro pins s σ H x y v u Q I rx ry h
  obtain ⟨d, e, hd, he, sd, al, nn, q⟩ := h
  obtain ⟨as, r1⟩ := Dp.reads I d x v hd rx
  obtain ⟨bs, r2⟩ := Dp.reads I e y u he ry
  have := depth64 sd
  exact PySem.W.le_data r1 r2 al nn (by omega) ⟨.bl _, H, I, rfl, q⟩
theorem op_geG (hu : X.A.units + 64 < cLine) : OpR X (compareOp .GtE) (rOrd X.K fun d e => !PySem.W.dataLt d e) := by
  intro pins s σ H x y v u Q I rx ry h
  obtain ⟨d, e, hd, he, sd, al, nn, q⟩ := h
  obtain ⟨as, r1⟩ := Dp.reads I d x v hd rx
  obtain ⟨bs, r2⟩ := Dp.reads I e y u he ry
  have := depth64 sd
  exact PySem.W.ge_data r1 r2 al nn (by omega) ⟨.bl _, H, I, rfl, q⟩
end
theorem opd_ord {K : Kf} {f : D → D → Bool} {g : D → D → Option D} (hg : ∀ x y, g x y = if ordFit x y then some (.bool (f x y)) else none) : OpD K g (rOrd K f) := by
  intro F G H σ ρ x y d v w Q ok hx hy hf q
  rw [hg] at hf
  split at hf
  · rename_i hz
    cases hf
    obtain ⟨a, b, c, e⟩ := ordFit_ok hz
    exact ⟨x, y, hx.dp ok.sub (SeqAt.canLay_of_shaped a), hy.dp ok.sub e, a, b, c, q _ F H (Same.refl F) ok rfl⟩
  · cases hf
section
variable {X : Cx} {a b : Expr} {ma mb : M Rf} {pos : Pos}
theorem v_ltG (hu : X.A.units + 64 < cLine) (ha : PE X a (rdB X.K ma)) (hb : PE X b (rdB X.K mb)) : PE X (.Compare a [.Lt] [b] pos) (rdV X.K (binM ltGD ma mb)) := v_cmp (op_ltG hu) (opd_ord fun _ _ => rfl) ha hb (nomark _)
theorem v_gtG (hu : X.A.units + 64 < cLine) (ha : PE X a (rdB X.K ma)) (hb : PE X b (rdB X.K mb)) : PE X (.Compare a [.Gt] [b] pos) (rdV X.K (binM gtGD ma mb)) := v_cmp (op_gtG hu) (opd_ord fun _ _ => rfl) ha hb (nomark _)
theorem v_leG (hu : X.A.units + 64 < cLine) (ha : PE X a (rdB X.K ma)) (hb : PE X b (rdB X.K mb)) : PE X (.Compare a [.LtE] [b] pos) (rdV X.K (binM leGD ma mb)) := v_cmp (op_leG hu) (opd_ord fun _ _ => rfl) ha hb (nomark _)
theorem v_geG (hu : X.A.units + 64 < cLine) (ha : PE X a (rdB X.K ma)) (hb : PE X b (rdB X.K mb)) : PE X (.Compare a [.GtE] [b] pos) (rdV X.K (binM geGD ma mb)) := v_cmp (op_geG hu) (opd_ord fun _ _ => rfl) ha hb (nomark _)
theorem t_ltG (hu : X.A.units + 64 < cLine) (ha : PE X a (rdB X.K ma)) (hb : PE X b (rdB X.K mb)) : PT X (.Compare a [.Lt] [b] pos) (rdT X.K (tstM (binM ltGD ma mb))) := t_cmp (op_ltG hu) (opd_ord fun _ _ => rfl) ha hb (nomark _)
theorem t_gtG (hu : X.A.units + 64 < cLine) (ha : PE X a (rdB X.K ma)) (hb : PE X b (rdB X.K mb)) : PT X (.Compare a [.Gt] [b] pos) (rdT X.K (tstM (binM gtGD ma mb))) := t_cmp (op_gtG hu) (opd_ord fun _ _ => rfl) ha hb (nomark _)
theorem t_leG (hu : X.A.units + 64 < cLine) (ha : PE X a (rdB X.K ma)) (hb : PE X b (rdB X.K mb)) : PT X (.Compare a [.LtE] [b] pos) (rdT X.K (tstM (binM leGD ma mb))) := t_cmp (op_leG hu) (opd_ord fun _ _ => rfl) ha hb (nomark _)
theorem t_geG (hu : X.A.units + 64 < cLine) (ha : PE X a (rdB X.K ma)) (hb : PE X b (rdB X.K mb)) : PT X (.Compare a [.GtE] [b] pos) (rdT X.K (tstM (binM geGD ma mb))) := t_cmp (op_geG hu) (opd_ord fun _ _ => rfl) ha hb (nomark _)
end
/-! ### sorted -/
def isNn : D → Bool
  | .none => false
  | _ => true
def isTp : D → Bool
  | .tuple _ => true
  | _ => false
def isTp1 : D → Bool
  | .tuple (_ :: _) => true
  | _ => false
/-- all are tuples with an item, or none is a tuple, or there is one at most -/
def sortKindB (ds : List D) : Bool := decide (ds.length < 2) || ds.all isTp1 || ds.all (fun d => !isTp d)
def sortFit (ds : List D) : Bool := ds.all (fun d => SeqAt.shaped d && isNn d) && ds.all (fun d => ds.all fun e => PySem.W.alike d e) && sortKindB ds && decide (ds.length ≤ sizeLine)
def sortD (ds : List D) : List D := ds.mergeSort (PySem.W.dataLe false id)
theorem sortsAt_data {prog : Program} {w : World} {A : Around} {s : Shared} {vs : List Value} {ds : List D} (e : PySem.W.EachIs (fun v d => ∃ as, Reads s.heap v d as) vs ds) (hal : PySem.W.AllAlike ds) (hn : ∀ d ∈ ds, isNn d = true) (hk : sortKindB ds = true) (hu : ∀ d, d ∈ ds → A.units + d.depth < cLine) :
    PySem.W.SortsAt prog w A s (PySem.W.dataKind s.heap ds) vs := by
  have hn' : ∀ d ∈ ds, d ≠ .none := fun d hd z => by have := hn d hd; rw [z] at this; cases this
  unfold sortKindB at hk
  rw [Bool.or_eq_true, Bool.or_eq_true] at hk
  rcases hk with (hk | hk) | hk
  · have hl := of_decide_eq_true hk
    refine ⟨fun v hv => ?_, general', ?_, fun h2 => ?_⟩
    · obtain ⟨d, hd, as, r⟩ := e.left v hv
      exact ⟨_, PySem.W.dataKind_some hal hd r⟩
    · intro E x y a b Q ha hb hq
      obtain ⟨d, as, hd, ra, rfl⟩ := PySem.W.dataKind_inv ha
      obtain ⟨d', as', hd', rb, rfl⟩ := PySem.W.dataKind_inv hb
      have := hu d hd
      exact PySem.W.oneLt_alike (f := false) (fun z => Bool.noConfusion z) ra rb (hal d hd d' hd') (hn' d hd) (by have := Nat.min_le_left d.depth d'.depth; omega) hq
    · have := e.length
      omega
  · refine PySem.W.SortsAt.data e hal (.inl fun d hd => ?_) hu
    have := (List.all_eq_true.mp hk) d hd
    unfold isTp1 at this
    split at this
    · exact ⟨_, _, rfl⟩
    · cases this
  · refine PySem.W.SortsAt.data e hal (.inr fun d hd => ⟨hn' d hd, ?_⟩) hu
    have := (List.all_eq_true.mp hk) d hd
    rintro xs rfl; cases this
/-- sorted(x): what x gives is collected, then sorted -/
def rSortedG (X : Cx) : List V → Hp → VK → Prop := fun vs H Q => ∃ (v : V) (xs : List V) (ds : List D), vs = [v] ∧ CollAt X H v xs ∧ DpAll X.K H xs ds ∧ sortFit ds = true ∧
  ∀ (p : Addr), H p = none → Q (.ref p) (upd H p (.lst (((xs.zip ds).mergeSort (PySem.W.dataLe false Prod.snd)).map Prod.fst)))
theorem eachIs_of {α β : Type} {R : α → β → Prop} : ∀ {as : List α} {bs : List β}, as.length = bs.length → (∀ (i : Nat) (a : α) (b : β), as[i]? = some a → bs[i]? = some b → R a b) → PySem.W.EachIs R as bs
  | [], [], _, _ => .nil
  | a :: as, b :: bs, hl, h => .cons (h 0 a b rfl rfl) (eachIs_of (by simpa using hl) fun i x y h1 h2 => h (i + 1) x y (by simpa using h1) (by simpa using h2))
  | [], _ :: _, hl, _ => by simp at hl
  | _ :: _, [], hl, _ => by simp at hl
theorem eachIs_get {α β : Type} {R : α → β → Prop} : ∀ {as : List α} {bs : List β}, PySem.W.EachIs R as bs → ∀ (i : Nat) (a : α) (b : β), as[i]? = some a → bs[i]? = some b → R a b
  | _, _, .nil, i, a, b, h, _ => by simp at h
  | _, _, .cons h t, 0, a, b, h1, h2 => by simp at h1 h2; subst h1 h2; exact h
  | _, _, .cons h t, i + 1, a, b, h1, h2 => eachIs_get t i a b (by simpa using h1) (by simpa using h2)
theorem sortFit_ok {ds : List D} (h : sortFit ds = true) : (∀ d ∈ ds, SeqAt.shaped d = true) ∧ (∀ d ∈ ds, isNn d = true) ∧ PySem.W.AllAlike ds ∧ sortKindB ds = true ∧ ds.length ≤ sizeLine := by
  unfold sortFit at h
  rw [Bool.and_eq_true, Bool.and_eq_true, Bool.and_eq_true] at h
  obtain ⟨⟨⟨h1, h2⟩, h3⟩, h4⟩ := h
  have h1 := List.all_eq_true.mp h1
  refine ⟨fun d hd => ?_, fun d hd => ?_, fun d hd e he => ?_, h3, of_decide_eq_true h4⟩
  · have := h1 d hd; rw [Bool.and_eq_true] at this; exact this.1
  · have := h1 d hd; rw [Bool.and_eq_true] at this; exact this.2
  · exact (List.all_eq_true.mp ((List.all_eq_true.mp h2) d hd)) e he
theorem canLayAll_of : ∀ {ds : List D}, (∀ d ∈ ds, SeqAt.shaped d = true) → PyData.canLayAll0 ds = true
  | [], _ => rfl
  | d :: ds, h => by
    show (d.canLay0 && PyData.canLayAll0 ds) = true
    rw [SeqAt.canLay_of_shaped (h d List.mem_cons_self), canLayAll_of fun x hx => h x (List.mem_cons_of_mem _ hx)]
    rfl
theorem dpAll_len {K : Kf} {H : Hp} : ∀ {xs : List V} {ds : List D}, DpAll K H xs ds → xs.length = ds.length
  | _, _, .nil => rfl
  | _, _, .cons _ t => by rw [List.length_cons, List.length_cons, dpAll_len t]
theorem readsAll_eachD {h : Heap} : ∀ {vs : List Value} {ds : List D} {as : List Addr}, ReadsAll h vs ds as → PySem.W.EachIs (fun v d => ∃ as, Reads h v d as) vs ds
  | _, _, _, .nil => .nil
  | _, _, _, .cons h1 h2 => .cons ⟨_, h1⟩ (readsAll_eachD h2)
section
variable {X : Cx}
theorem cr_sortedG (hc : X.calm = true) (hu : X.A.units + 70 < cLine) : CallR X (.builtin "sorted") (rSortedG X) := by
  intro pins s σ H vs us Q I r h
  obtain ⟨v, xs, ds, rfl, coll, hdp, hf, q⟩ := h
  obtain ⟨u, rfl, ru⟩ := vals1 r
  obtain ⟨f1, f2, f3, f4, f5⟩ := sortFit_ok hf
  have hh : X.A.handled = none := I.ok.hd hc
  have hlx : xs.length = ds.length := dpAll_len hdp
  refine Calls.call_function_entry PyProof.Rows.kind_sorted PyProof.Rows.plain_sorted PyProof.Rows.entry_sorted (PyProof.Rows.args_sorted1 _) ?_
  unfold Builtin.«sorted»
  refine wpAny_bind (m := checkCount "sorted" 1 1 _) (wpAny_pure ?_)
  refine wpAny_bind (coll (A := X.A.in1) I ru hh fun h' tk its hk rv => ?_)
  have hle := rv.length
  refine wpAny_bind (wpAny_newList ?_ (by omega))
  have hlt : ∀ b o, s.heap.get? b = some o → b < h'.objs.size := fun b o e => Heap.lt_size (hk b o e)
  have hob : (h'.push { cls := .type "list", data := .seq its.toArray }).get? h'.objs.size = some (seqObj "list" its.toArray 0) := Heap.get?_push_size _ rfl
  have kp : ∀ b o, s.heap.get? b = some o → (h'.push { cls := .type "list", data := .seq its.toArray }).get? b = some o := fun b o e => Heap.get?_push_of_some _ (hk b o e)
  obtain ⟨as, hr⟩ := Dp.readsAll I ds xs its hdp rv
  have keepA : ∀ b o, s.heap.get? b = some o → (PySem.W.sortingHeap (h'.push { cls := .type "list", data := .seq its.toArray }) h'.objs.size its).get? b = some o := fun b o e => PySem.W.sortingHeap_old (Nat.ne_of_lt (hlt b o e)) (kp b o e)
  have hr2 := readsAll_eachD (ReadsAll.keeps keepA hr)
  have hlen : its.length = ds.length := by omega
  have hS := sortsAt_data (prog := X.prog) (w := X.w) (A := X.A.in1.in1) (s := { s with heap := PySem.W.sortingHeap (h'.push { cls := .type "list", data := .seq its.toArray }) h'.objs.size its, toks := tk }) hr2 f3 f2 f4 (fun d hd => by
    have := depth64 (f1 d hd)
    show X.A.in1.in1.units + d.depth < cLine
    rw [Around.in1_units, Around.in1_units]
    omega)
  have hbs : (xs.zip ds).map Prod.snd = ds := List.map_snd_zip (by omega)
  have heach : PySem.W.EachIs (fun (u : Value) (b : V × D) => RelV b.1 u) its (xs.zip ds) := eachIs_of (by rw [List.length_zip, hlen, hlx, Nat.min_self]) fun i u b h1 h2 => by
    obtain ⟨v, d⟩ := b
    have := (List.getElem?_zip_eq_some.mp h2).1
    obtain ⟨u', h3, h4⟩ := rv.get this
    rw [h1] at h3
    cases h3
    exact h4
  have er : PySem.W.EachIs (fun (u : Value) (b : V × D) => ∃ as, Reads (PySem.W.sortingHeap (h'.push { cls := .type "list", data := .seq its.toArray }) h'.objs.size its) u b.2 as) its (xs.zip ds) := eachIs_of (by rw [List.length_zip, hlen, hlx, Nat.min_self]) fun i u b h1 h2 => by
    obtain ⟨v, d⟩ := b
    exact eachIs_get hr2 i u d h1 (List.getElem?_zip_eq_some.mp h2).2
  have hout := PySem.W.sortVals_data (enc := Prod.snd) false heach er (by rw [hbs]; exact f3)
  rw [hbs] at hout
  refine wpAny_bind (wpAny_holding (wpAny_call_entry PyProof.Rows.slot_list_sort ⟨_, hob, rfl⟩ PyProof.Rows.entry_list_sort (PySem.W.list_sort_vals (s := { s with heap := h'.push { cls := .type "list", data := .seq its.toArray }, toks := tk }) hob hS (by omega) ⟨.none, rfl, wpAny_pure ⟨_, rfl, ?_⟩⟩) (PyProof.Rows.args_list_sort _)))
  obtain ⟨ep, he'⟩ := PyProof.Rows.sortedHeap_at (vs := its) (out := (PySem.W.sortVals (PySem.W.dataKind (PySem.W.sortingHeap (h'.push { cls := .type "list", data := .seq its.toArray }) h'.objs.size its) ds) false its its).toArray) hob
  have hv : Vals (((xs.zip ds).mergeSort (PySem.W.dataLe false Prod.snd)).map Prod.fst) (PySem.W.sortVals (PySem.W.dataKind (PySem.W.sortingHeap (h'.push { cls := .type "list", data := .seq its.toArray }) h'.objs.size its) ds) false its its) := by
    generalize PySem.W.sortVals (PySem.W.dataKind (PySem.W.sortingHeap (h'.push { cls := .type "list", data := .seq its.toArray }) h'.objs.size its) ds) false its its = us at hout
    generalize (xs.zip ds).mergeSort (PySem.W.dataLe false Prod.snd) = bs at hout
    clear he' hS
    induction hout with
    | nil => exact .nil
    | cons h t ih => exact .cons h ih
  have hlz : (((xs.zip ds).mergeSort (PySem.W.dataLe false Prod.snd)).map Prod.fst).length ≤ sizeLine := by
    rw [List.length_map, List.length_mergeSort, List.length_zip, hlx, Nat.min_self]
    exact f5
  have hn : H h'.objs.size = none := (I.hok.kept hk).fresh (Nat.le_refl _)
  have hp : s.heap.get? h'.objs.size = none := by
    cases e : s.heap.get? h'.objs.size with
    | none => rfl
    | some o => exact absurd (hlt _ _ e) (Nat.lt_irrefl _)
  exact ⟨.ref _, upd H h'.objs.size (.lst (((xs.zip ds).mergeSort (PySem.W.dataLe false Prod.snd)).map Prod.fst)), I.laidN (t' := tk) (fun b o e => (PyProof.Rows.sortedHeap_old (Nat.ne_of_lt (hlt b o e)) (by rw [PyProof.Rows.size_push']; exact Nat.lt_succ_of_lt (hlt b o e))).trans (kp b o e)) hp hn ⟨hlz, _, ep, hv, he'⟩, rfl, q _ hn⟩
end
def collD : D → Option (List D)
  | .list xs => some xs
  | .tuple xs => some xs
  | .dict kvs => some (kvs.map (·.1))
  | _ => none
theorem pairs_keys {P : Program} {w : World} : ∀ {l : List DictEntry} {vs : List (Key × Value)} {ws : List (Key × V)}, PySem.Pairs (mixKind P w) l vs → KV ws vs → Vals (ws.map fun e => kV e.1) (l.map (·.key))
  | _, _, ws, .nil, r => by cases r; exact .nil
  | _, _, ws, .cons h1 h2 h3, r => by
    cases r with
    | @cons p _ ps _ e t =>
      rw [List.map_cons, List.map_cons]
      refine .cons ?_ (pairs_keys h3 t)
      rw [e.1]
      exact relV_key h1
theorem DcR.coll {X : Cx} {F H : Hp} {p : Addr} {kvs : List (D × D)} (hw : X.w = Wd.w) (s : Same F H) (h : DcR X.K F H p kvs) : ∃ vs, CollAt X H (.ref p) vs ∧ Rps X.K F (kvs.map (·.1)) vs := by
  rcases h with ⟨ws, h1, h2⟩ | ⟨es, h1, h2⟩
  · refine ⟨ws.map fun e => kV e.1, CollAt.raw fun I => ?_, ?_⟩
    · obtain ⟨z, lo, vs, rel, o, es, ep, g1, g2, g3, g4, g5, g6⟩ := dk_rd I.hok h1
      refine ⟨lo, es, ep, ⟨o, g1, g2, g3⟩, ?_, pairs_keys g5 rel⟩
      rw [← Array.length_toList, PySem.Pairs.length g5, ← rel.length]
      exact z
    · clear h1
      revert kvs
      induction ws with
      | nil =>
        intro kvs h2
        cases kvs with
        | nil => rfl
        | cons e kvs => obtain ⟨q, v, r, e, _⟩ := h2; cases e
      | cons w ws ih =>
        intro kvs h2
        cases kvs with
        | nil => cases h2
        | cons e kvs =>
          obtain ⟨k', d⟩ := e
          obtain ⟨q, v, r, e, g1, g2, g3⟩ := h2
          cases e
          refine ⟨_, _, rfl, ?_, ih g3⟩
          cases k' with
          | int i => cases g1; rfl
          | str s => cases g1; rfl
          | _ => cases g1
  · refine ⟨es.map fun e => .ref e.2.1, CollAt.raw fun I => ?_, ?_⟩
    · have hk := DictO.keys I h1
      obtain ⟨⟨z, lo, nd, kt, us, rv, o, ep, arr, g1, g2, g3, g4⟩, _⟩ := (show ObjOk X.prog X.w H _ p (DictO p es) from h1.ok I.hok)
      have hl := rv.length
      rw [List.length_map] at hl
      refine ⟨lo, arr, ep, ⟨o, g1, g2, g3⟩, ?_, ?_⟩
      · rw [← Array.length_toList, g4, List.length_map, List.length_zip, ← hl, Nat.min_self]
        exact z
      · rw [g4, List.map_map]
        have : ∀ {es : List (D × Addr × V)} {us : List Value}, es.length = us.length → Vals (es.map fun e => V.ref e.2.1) ((es.zip us).map ((fun x : DictEntry => x.key) ∘ fun x => (⟨hashD Wd.w x.1.1, .ref x.1.2.1, x.2⟩ : DictEntry))) := by
          intro es
          induction es with
          | nil => intro us _; exact .nil
          | cons e es ih =>
            intro us hl
            cases us with
            | nil => cases hl
            | cons u us => exact .cons rfl (ih (by simpa using hl))
        exact this hl
    · clear h1
      revert kvs
      induction es with
      | nil =>
        intro kvs h2
        cases kvs with
        | nil => rfl
        | cons e kvs => obtain ⟨b, v, r, e, _⟩ := h2; cases e
      | cons w ws ih =>
        intro kvs h2
        cases kvs with
        | nil => cases h2
        | cons e kvs =>
          obtain ⟨k', d⟩ := e
          obtain ⟨q, v, r, e, g1, g2, g3⟩ := h2
          cases e
          exact ⟨_, _, rfl, g1, ih g3⟩
/-- what list, tuple, sorted collect -/
theorem collD_ok {X : Cx} {F H : Hp} {v : V} {d : D} {xs : List D} (hw : X.w = Wd.w) (s : Same F H) (h : Vw X.K F H v d) (e : collD d = some xs) : ∃ vs, CollAt X H v vs ∧ Rps X.K F xs vs := by
  unfold collD at e
  split at e
  · cases e
    obtain ⟨p, vs, rfl, h1, h2⟩ := h.list s
    exact ⟨vs, CollAt.list (SqL.of h1), h2⟩
  · cases e
    obtain ⟨p, vs, rfl, h1, _, h2⟩ := h.tuple s
    exact ⟨vs, CollAt.tuple h1, h2⟩
  · cases e
    obtain ⟨p, rfl, h1⟩ := h.dict s
    exact h1.coll hw s
  · cases e
def sortO (x : D) : Option Own := match collD x with
  | some xs => if sortFit xs then some (.lst (sortD xs)) else none
  | none => none
theorem cbn_sorted {X : Cx} (hw : X.w = Wd.w) : CbN X.K sortO (rSortedG X) := by
  intro F G H σ ρ x d v Q ok hx hf q
  unfold sortO at hf
  split at hf
  · rename_i xs he
    split at hf
    · rename_i hz
      cases hf
      obtain ⟨vs, hc, h2⟩ := collD_ok hw ok.sub hx he
      refine ⟨v, vs, xs, rfl, hc, Rps.dp _ _ (canLayAll_of (sortFit_ok hz).1) (Rps.mono ok.sub _ _ h2), hz, fun r hr => ?_⟩
      obtain ⟨ok2, n2⟩ := ok.fresh (o := .lst (((vs.zip xs).mergeSort (PySem.W.dataLe false Prod.snd)).map Prod.fst)) hr
      refine q r F _ (Same.refl F) ok2 n2 ⟨_, upd_same, ?_⟩
      have hlx : vs.length = xs.length := h2.length
      have hbs : (vs.zip xs).map Prod.snd = xs := List.map_snd_zip (by omega)
      have e : sortD xs = ((vs.zip xs).mergeSort (PySem.W.dataLe false Prod.snd)).map Prod.snd := by
        rw [List.map_mergeSort (s := PySem.W.dataLe false id), hbs]
        · rfl
        · intro a _ b _; rfl
      rw [e]
      have hm : ∀ b ∈ (vs.zip xs).mergeSort (PySem.W.dataLe false Prod.snd), Rp X.K F b.2 b.1 := fun b hb => by
        have hb := (List.mergeSort_perm _ _).mem_iff.mp hb
        obtain ⟨i, hi⟩ := List.mem_iff_getElem?.mp hb
        obtain ⟨v', d'⟩ := b
        obtain ⟨h3, h4⟩ := List.getElem?_zip_eq_some.mp hi
        obtain ⟨w, h5, h6⟩ := h2.get h4
        rw [h3] at h5
        cases h5
        exact h6
      generalize (vs.zip xs).mergeSort (PySem.W.dataLe false Prod.snd) = bs at hm
      induction bs with
      | nil => rfl
      | cons b bs ih => exact ⟨_, _, rfl, hm b List.mem_cons_self, ih fun c hc => hm c (List.mem_cons_of_mem _ hc)⟩
    · cases hf
  · cases hf
theorem n_sorted {X : Cx} {e : Expr} {p pos : Pos} {m : M Rf} (hc : X.calm = true) (hu : X.A.units + 70 < cLine) (hg : Gl X "sorted") (hm : X.mg "sorted" = none) (ha : PE X e (rdB X.K m)) (he : starEach (e :: []) X.env = (false, eval e X.env) :: starEach [] X.env := by rfl) (hpl : (backTo pos (starEach [] X.env)).any (·.1) = false := by rfl) (hw : X.w = Wd.w := by rfl) :
    PE X (.Call (.Name "sorted" p) [e] [] pos) (rdN X.K (b1M sortO m)) := n_b1 (cr_sortedG hc hu) (cbn_sorted hw) hg hm (by decide +kernel) ha (by decide) (by decide) he hpl
end Fx
/-! Fx: dicts: new ones, get, displays -/
namespace Fx
open PySem PySem.Spec PyProof.Rows L2
variable [Wd]
theorem Room.un70 {k : Nat} {A : Around} (r : Room k A) : A.units + 70 < cLine := by have := r.un; omega
def newDM : M Own := ret (.dd [])
theorem n_newD {X : Cx} {pos : Pos} : PE X (.Dict [] [] pos) (rdN X.K newDM) := by
  refine pe_imp pe_dnewK fun σ H Q h => ?_
  obtain ⟨F, G, ρ, d, ρ', ok, hm, q⟩ := h
  cases hm
  intro p hp
  obtain ⟨ok2, n⟩ := ok.fresh (o := .dK []) hp
  exact q p F _ (Same.refl F) ok2 n (.inl ⟨[], upd_same, rfl⟩)
theorem wp_newD {ρ : Rho} {Q : Own → Rho → Prop} (h : Q (.dd []) ρ) : wp newDM ρ Q := ⟨_, ρ, rfl, h⟩
/-! ### d.get -/
/-- it is a dict, at once -/
def isdM (r : Rf) : M Unit := fun ρ => match look ρ r with
  | some (.dict _) => some ((), ρ)
  | _ => none
theorem isdM_some {r : Rf} {ρ ρ' : Rho} {u : Unit} (h : isdM r ρ = some (u, ρ')) : ρ' = ρ ∧ ∃ kvs, look ρ r = some (.dict kvs) := by
  unfold isdM at h
  split at h
  · rename_i kvs e
    cases h
    exact ⟨rfl, kvs, e⟩
  · cases h
def getD1 : D → D → Option D
  | .dict kvs, k => if keyFit kvs k then some ((lookD kvs k).getD .none) else none
  | _, _ => none
def getM1 (a b : M Rf) : M D := bnd a fun r => bnd (isdM r) fun _ => bnd b fun s => fun ρ => match look ρ r, look ρ s with
  | some x, some y => (getD1 x y).map fun z => (z, ρ)
  | _, _ => none
def getM2 (a b : M Rf) (c : M D) : M D := bnd a fun r => bnd (isdM r) fun _ => bnd b fun s => bnd c fun d => fun ρ => match look ρ r, look ρ s with
  | some (.dict kvs), some k => if keyFit kvs k then some ((lookD kvs k).getD d, ρ) else none
  | _, _ => none
/-- a is a dict, by its type -/
structure DTy (X : Cx) (H : Hp) (a : Addr) : Prop where
  ty : ∀ {pins : List (Addr × Obj)} {σ : L2.St} {s : Shared}, Inv X pins σ H s → s.TypeIs (.ref a) "dict"
  nd : ∀ {pins : List (Addr × Obj)} {σ : L2.St} {s : Shared}, Inv X pins σ H s → ∀ b, Value.ref a = .ref b → ∃ ob, s.heap.get? b = some ob ∧ ob.dict = none
def tGet1 (X : Cx) (td ty : TE) : TE := fun σ H Q => td σ H fun x H1 => ∃ a, x = .ref a ∧ DTy X H1 a ∧ ty σ H1 fun y H2 => ∃ o, DG X H2 a y o ∧ Q (o.getD .non) H2
def tGet2 (X : Cx) (td ty tx : TE) : TE := fun σ H Q => td σ H fun x H1 => ∃ a, x = .ref a ∧ DTy X H1 a ∧ ty σ H1 fun y H2 => tx σ H2 fun z H3 => ∃ o, DG X H3 a y o ∧ Q (o.getD z) H3
section
variable {X : Cx} {o e f : Expr} {apos cpos : Pos} {td ty tx : TE}
theorem pe_getG1 (hu : X.A.units + 64 < cLine) (ho : PE X o td) (he : PE X e ty) (m : M1 X o "get" apos e cpos) : PE X (.Call (.Attribute o "get" apos) [e] [] cpos) (tGet1 X td ty) := by
  refine ⟨fun pins s σ H Q I h => ?_⟩
  refine wpAny_Call_method m.base m.few m.line PySem.F.plainAttrs_dict PySem.F.slot_dict_get PySem.F.type_dict_get (thn (ho.run pins s σ H _ I h) fun u s1 ⟨x, H1, I1, rx, a, ex, d, q1⟩ => ?_)
  subst ex
  obtain rfl : u = Value.ref a := rx
  refine ⟨d.ty I1, d.nd I1, ?_⟩
  rw [m.trees]
  refine Calls.callWith_builtin rfl (Calls.evalArgs_plain (Calls.spliced_cons (thn (he.run pins s1 σ H1 _ I1 q1) fun iv s2 ⟨y, H2, I2, ry, ov, g, q2⟩ => Calls.spliced_nil ?_)))
  exact g.get1 (by omega) I2 ry fun w' s3 I3 rw' => ⟨_, H2, I3, rw', q2⟩
theorem pe_getG2 (hu : X.A.units + 64 < cLine) (ho : PE X o td) (he : PE X e ty) (hf : PE X f tx) (m : M2 X o "get" apos e f cpos) : PE X (.Call (.Attribute o "get" apos) [e, f] [] cpos) (tGet2 X td ty tx) := by
  refine ⟨fun pins s σ H Q I h => ?_⟩
  refine wpAny_Call_method m.base m.few m.line PySem.F.plainAttrs_dict PySem.F.slot_dict_get PySem.F.type_dict_get (thn (ho.run pins s σ H _ I h) fun u s1 ⟨x, H1, I1, rx, a, ex, d, q1⟩ => ?_)
  subst ex
  obtain rfl : u = Value.ref a := rx
  refine ⟨d.ty I1, d.nd I1, ?_⟩
  rw [m.trees]
  refine Calls.callWith_builtin rfl (Calls.evalArgs_plain (Calls.spliced_cons (thn (he.run pins s1 σ H1 _ I1 q1) fun iv s2 ⟨y, H2, I2, ry, q2⟩ =>
    Calls.spliced_cons (thn (hf.run pins s2 σ H2 _ I2 q2) fun fv s3 ⟨z, H3, I3, rz, ov, g, q3⟩ => Calls.spliced_nil ?_))))
  exact g.get2 (by omega) I3 ry rz fun w' s4 I4 rw' => ⟨_, H3, I4, rw', q3⟩
end
section
variable {X : Cx} {F H : Hp} {p : Addr} {kvs : List (D × D)}
theorem DcR.ty (hw : X.w = Wd.w) (s : Same F H) (h : DcR X.K F H p kvs) : DTy X H p := by
  cases kvs with
  | nil =>
    rcases h with ⟨ws, h1, h2⟩ | ⟨es, h1, h2⟩
    · cases h2
      exact ⟨(DG.flat (q := .inl 0) (ProvK.of h1)).ty, (DG.flat (q := .inl 0) (ProvK.of h1)).nd⟩
    · cases h2
      exact ⟨(DG.flat (q := .inl 0) (Empty.k (empty_E h1))).ty, (DG.flat (q := .inl 0) (Empty.k (empty_E h1))).nd⟩
  | cons e kvs =>
    rcases h with ⟨ws, h1, h2⟩ | ⟨es, h1, h2⟩
    · exact ⟨(DG.flat (q := .inl 0) (ProvK.of h1)).ty, (DG.flat (q := .inl 0) (ProvK.of h1)).nd⟩
    · refine ⟨fun I => ?_, fun I b q => ?_⟩
      · obtain ⟨_, _, _, us, rv, dd⟩ := provE hw s h1 h2 (DictO.keys I h1) I
        exact dd.typeIs
      · cases q
        obtain ⟨_, _, _, us, rv, ob, _, _, g1, g2, _⟩ := provE hw s h1 h2 (DictO.keys I h1) I
        exact ⟨ob, g1, g2.2.1⟩
end
theorem getD_rp {K : Kf} {F : Hp} {o : Option D} {p : Option V} {d : D} {v : V} (h : RpO K F o p) (r : Rp K F d v) : Rp K F (o.getD d) (p.getD v) := by
  cases o with
  | none => rw [h.none]; exact r
  | some x => obtain ⟨y, rfl, z⟩ := h.some; exact z
section
variable {X : Cx} {o e f : Expr} {apos pos : Pos} {ma mb : M Rf} {mc : M D}
theorem v_get1 (hu : X.A.units + 64 < cLine) (ha : PE X o (rdB X.K ma)) (hb : PE X e (rdB X.K mb)) (m : M1 X o "get" apos e pos := by exact ⟨rfl, rfl, rfl, rfl⟩) (hw : X.w = Wd.w := by rfl) : PE X (.Call (.Attribute o "get" apos) [e] [] pos) (rdV X.K (getM1 ma mb)) := by
  refine pe_imp (pe_getG1 hu ha hb m) fun σ H Q h => ?_
  obtain ⟨F, G, ρ, d, ρ', ok, hm, q⟩ := h
  obtain ⟨r, ρ1, h1, h2⟩ := bnd_some hm
  obtain ⟨_, ρ2, h3, h4⟩ := bnd_some h2
  obtain ⟨rfl, kvs, hk⟩ := isdM_some h3
  obtain ⟨s, ρ3, h5, h6⟩ := bnd_some h4
  refine ⟨F, G, ρ, r, ρ2, ok, h1, fun v F1 H1 s1 ok1 r1 => ?_⟩
  obtain ⟨p, rfl, hd⟩ := (look_ok ok1 r1 hk).dict ok1.sub
  refine ⟨p, rfl, hd.ty hw ok1.sub, F1, G, ρ2, s, ρ3, ok1, h5, fun w F2 H2 s2 ok2 r2 => ?_⟩
  split at h6
  · rename_i x y hx hy
    obtain ⟨z, hz, hz2⟩ := Option.map_eq_some_iff.mp h6
    cases hz2
    unfold getD1 at hz
    split at hz
    · rename_i kvs2 k
      split at hz
      · rename_i hf
        cases hz
        obtain ⟨p', e', hd2⟩ := (look_ok ok2 (r1.mono s2) hx).dict ok2.sub
        cases e'
        obtain ⟨ov, g, ro⟩ := hd2.get hw ok2.sub hf (keyFit_rp hf (look_ok ok2 r2 hy))
        exact ⟨ov, g, q _ F2 H2 (s1.trans s2) ok2 (getD_rp (d := .none) (v := .non) ro rfl)⟩
      · cases hz
    · cases hz
  · cases h6
theorem v_get2 (hu : X.A.units + 64 < cLine) (ha : PE X o (rdB X.K ma)) (hb : PE X e (rdB X.K mb)) (hc : PE X f (rdV X.K mc)) (m : M2 X o "get" apos e f pos := by exact ⟨rfl, rfl, rfl, rfl⟩) (hw : X.w = Wd.w := by rfl) : PE X (.Call (.Attribute o "get" apos) [e, f] [] pos) (rdV X.K (getM2 ma mb mc)) := by
  refine pe_imp (pe_getG2 hu ha hb hc m) fun σ H Q h => ?_
  obtain ⟨F, G, ρ, d, ρ', ok, hm, q⟩ := h
  obtain ⟨r, ρ1, h1, h2⟩ := bnd_some hm
  obtain ⟨_, ρ2, h3, h4⟩ := bnd_some h2
  obtain ⟨rfl, kvs, hk⟩ := isdM_some h3
  obtain ⟨s, ρ3, h5, h6⟩ := bnd_some h4
  obtain ⟨d2, ρ4, h7, h8⟩ := bnd_some h6
  refine ⟨F, G, ρ, r, ρ2, ok, h1, fun v F1 H1 s1 ok1 r1 => ?_⟩
  obtain ⟨p, rfl, hd⟩ := (look_ok ok1 r1 hk).dict ok1.sub
  refine ⟨p, rfl, hd.ty hw ok1.sub, F1, G, ρ2, s, ρ3, ok1, h5, fun w F2 H2 s2 ok2 r2 => ⟨F2, G, ρ3, d2, ρ4, ok2, h7, fun z F3 H3 s3 ok3 r3 => ?_⟩⟩
  split at h8
  · rename_i kvs2 k hx hy
    split at h8
    · rename_i hf
      cases h8
      obtain ⟨p', e', hd2⟩ := (look_ok ok3 (r1.mono (s2.trans s3)) hx).dict ok3.sub
      cases e'
      obtain ⟨ov, g, ro⟩ := hd2.get hw ok3.sub hf (keyFit_rp hf (look_ok ok3 (r2.mono s3) hy))
      exact ⟨ov, g, q _ F3 H3 ((s1.trans s2).trans s3) ok3 (getD_rp ro r3)⟩
    · cases h8
  · cases h8
end
/-! ### displays -/
def dpairs (ds : List (D × D)) : List (D × D) := ds.foldl (fun acc kv => putD acc kv.1 kv.2) []
theorem dpairs_is {K : Kf} {F : Hp} : ∀ {ds : List (D × D)} {ps : List (V × V)}, (ds.all fun e => (keyD e.1).isSome) = true → PRp K F ds ps → ∃ ws : List (Key × V), ps = ws.map (fun kv => (kV kv.1, kv.2)) ∧ ws.length = ds.length ∧ ∀ (a : List (D × D)) (b : List (Key × V)), Rpk K F a b → Rpk K F (ds.foldl (fun acc kv => putD acc kv.1 kv.2) a) (mergeK b ws)
  | [], ps, h, r => ⟨[], r, rfl, fun a b t => t⟩
  | (k, d) :: ds, ps, h, ⟨x, y, t, e, h1, h2, h3⟩ => by
    rw [List.all_cons, Bool.and_eq_true] at h
    obtain ⟨q, hq⟩ := Option.isSome_iff_exists.mp h.1
    obtain ⟨ws, g1, g2, g3⟩ := dpairs_is h.2 h3
    refine ⟨(q, y) :: ws, ?_, ?_, fun a b tt => g3 _ _ (putD_K hq h2 tt)⟩
    · rw [e, g1, key_v hq h1]; rfl
    · rw [List.length_cons, List.length_cons, g2]
def dispDM (l : List (D × M D)) : M Own := bnd (pairsM l) fun ds => fun ρ => if (ds.all fun e => (keyD e.1).isSome) && decide (ds.length ≤ 15) then some (.dd (dpairs ds), ρ) else none
theorem n_dispD {X : Cx} {pos : Pos} {keys : List (Option Expr)} {values : List Expr} {l : List (D × M D)} (h : PPs X pos keys values (l.map fun x => (rdV X.K (cM x.1), rdV X.K x.2))) (hall : keys.all (·.isSome) = true := by rfl) (hl : keys.length = values.length := by rfl) (h0 : keys ≠ [] := by intro e; cases e) (h15 : keys.length ≤ 15 := by decide) :
    PE X (.Dict keys values pos) (rdN X.K (dispDM l)) := by
  refine pe_imp (pe_disp h hall hl h0 h15) fun σ H Q h => ?_
  obtain ⟨F, G, ρ, o, ρ', ok, hm, q⟩ := h
  obtain ⟨ds, ρ1, h1, h2⟩ := bnd_some hm
  intro p hp
  have gp : G p = none := by
    cases e : G p with
    | none => rfl
    | some u => have := ok.gsub _ _ e; rw [hp] at this; cases this
  refine pairs_run (ok.hide (o := .dK []) hp) h1 fun ps F1 H1 s1 ok1 r1 => ?_
  split at h2
  · rename_i hz
    cases h2
    rw [Bool.and_eq_true] at hz
    obtain ⟨ws, g1, g2, g3⟩ := dpairs_is hz.1 r1
    have := of_decide_eq_true hz.2
    refine ⟨ok1.gsub _ _ upd_same, ws, g1, by omega, ?_⟩
    have T := g3 [] [] rfl
    obtain ⟨ok2, n2⟩ := (ok1.ghost (o' := .dK (mergeK [] ws))).unhide gp
    exact q p F1 _ s1 ok2 n2 (.inl ⟨_, upd_same, T⟩)
  · cases h2
theorem wp_dispD {ρ : Rho} {l : List (D × M D)} {Q : Own → Rho → Prop} (h : wp (pairsM l) ρ fun ds ρ1 => ((ds.all fun e => (keyD e.1).isSome) && decide (ds.length ≤ 15)) = true ∧ Q (.dd (dpairs ds)) ρ1) : wp (dispDM l) ρ Q := by
  obtain ⟨ds, ρ1, h1, e1, q⟩ := h
  refine ⟨_, ρ1, (bnd_eq h1).trans ?_, q⟩
  exact if_pos e1
/-! ### what they give -/
section
variable {ρ : Rho}
theorem wp_get1 {a b : M Rf} {Q : D → Rho → Prop} (h : wp a ρ fun r ρ1 => ∃ kvs0, look ρ1 r = some (.dict kvs0) ∧ wp b ρ1 fun s ρ2 => ∃ kvs k, look ρ2 r = some (.dict kvs) ∧ look ρ2 s = some k ∧ keyFit kvs k = true ∧ Q ((lookD kvs k).getD .none) ρ2) : wp (getM1 a b) ρ Q := by
  obtain ⟨r, ρ1, h1, kvs0, e0, s, ρ2, h2, kvs, k, e1, e2, e3, q⟩ := h
  refine ⟨_, ρ2, (bnd_eq h1).trans ((bnd_eq (show isdM r ρ1 = some ((), ρ1) by unfold isdM; rw [e0])).trans ((bnd_eq h2).trans ?_)), q⟩
  show (match look ρ2 r, look ρ2 s with
    | some x, some y => (getD1 x y).map fun z => (z, ρ2)
    | _, _ => none) = _
  rw [e1, e2]
  show (if keyFit kvs k then some ((lookD kvs k).getD .none) else none).map _ = _
  rw [if_pos e3]
  rfl
theorem wp_get2 {a b : M Rf} {c : M D} {Q : D → Rho → Prop} (h : wp a ρ fun r ρ1 => ∃ kvs0, look ρ1 r = some (.dict kvs0) ∧ wp b ρ1 fun s ρ2 => wp c ρ2 fun d ρ3 => ∃ kvs k, look ρ3 r = some (.dict kvs) ∧ look ρ3 s = some k ∧ keyFit kvs k = true ∧ Q ((lookD kvs k).getD d) ρ3) : wp (getM2 a b c) ρ Q := by
  obtain ⟨r, ρ1, h1, kvs0, e0, s, ρ2, h2, d, ρ3, h3, kvs, k, e1, e2, e3, q⟩ := h
  refine ⟨_, ρ3, (bnd_eq h1).trans ((bnd_eq (show isdM r ρ1 = some ((), ρ1) by unfold isdM; rw [e0])).trans ((bnd_eq h2).trans ((bnd_eq h3).trans ?_))), q⟩
  show (match look ρ3 r, look ρ3 s with
    | some (.dict kvs), some k => if keyFit kvs k then some ((lookD kvs k).getD d, ρ3) else none
    | _, _ => none) = _
  rw [e1, e2]
  exact if_pos e3
end
/-! ### the laws of dicts -/
theorem lookD_put_same {kvs : List (D × D)} {k v : D} (hk : PyData.eqv k k = true) : lookD (putD kvs k v) k = some v := by
  unfold putD lookD
  split
  · rename_i h
    induction kvs with
    | nil => cases h
    | cons e kvs ih =>
      rw [List.map_cons, List.find?_cons]
      unfold hasD at h ih
      rw [List.any_cons] at h
      cases he : PyData.eqv e.1 k with
      | true => simp only [if_true, he]; rfl
      | false =>
        simp only [he, Bool.false_eq_true, if_false]
        rw [he, Bool.false_or] at h
        exact ih h
  · rename_i h
    rw [List.find?_append, List.find?_eq_none.mpr (by
      intro x hx e
      exact h (List.any_eq_true.mpr ⟨x, hx, e⟩))]
    simp [hk]
/-! ### zip of lists and tuples -/
def pairs2 (xs ys : List D) : List D := (xs.zip ys).map fun p => .tuple [p.1, p.2]
def seqOf : D → Option (List D)
  | .list xs => some xs
  | .tuple xs => some xs
  | _ => none
def zip2D : List D → Option (List D)
  | [x, y] => (match seqOf x, seqOf y with
    | some xs, some ys => some (pairs2 xs ys)
    | _, _ => none)
  | _ => none
def zipM (m : M (List D)) : M (List D) := bnd m fun ds => lft (zip2D ds)
theorem seqOf_rp {K : Kf} {F : Hp} {x : D} {xs : List D} {v : V} (h : seqOf x = some xs) (r : Rp K F x v) : ∃ (k : Sk) (a : Addr) (vs : List V), v = .ref a ∧ k.Sq K F a vs ∧ Rps K F xs vs := by
  cases x with
  | list ys => cases h; obtain ⟨a, vs, rfl, h1, h2⟩ := r; exact ⟨.l, a, vs, rfl, SqL.of h1, h2⟩
  | tuple ys => cases h; obtain ⟨a, vs, rfl, h1, h2⟩ := r; exact ⟨.t, a, vs, rfl, h1, h2⟩
  | _ => cases h
theorem Sk.keep {K : Kf} {F F' : Hp} (s : Same F F') {a : Addr} {vs : List V} : ∀ {k : Sk}, k.Sq K F a vs → k.Sq K F' a vs
  | .l, h => s.seq h
  | .t, h => Same.seqT s h
theorem pairs2_get {xs ys : List D} {i : Nat} {d : D} (h : (pairs2 xs ys)[i]? = some d) : ∃ x y, xs[i]? = some x ∧ ys[i]? = some y ∧ d = .tuple [x, y] := by
  unfold pairs2 at h
  rw [List.getElem?_map] at h
  obtain ⟨⟨x, y⟩, hp, rfl⟩ := Option.map_eq_some_iff.mp h
  obtain ⟨h1, h2⟩ := List.getElem?_zip_eq_some.mp hp
  exact ⟨x, y, h1, h2, rfl⟩
theorem rp_pair {K : Kf} {F : Hp} {T : Addr} {x y : D} {v w : V} (hF : F T = some (.tup [v, w])) (r1 : Rp K F x v) (r2 : Rp K F y w) : Rp K F (.tuple [x, y]) (.ref T) := ⟨T, [v, w], rfl, .inl (.inl hF), v, [w], rfl, r1, w, [], rfl, r2, rfl⟩
theorem feed_zip {K : Kf} {F : Hp} {k1 k2 : Sk} {a b : Addr} {xs ys : List D} {vs ws : List V} (ha : k1.Sq K F a vs) (ra : Rps K F xs vs) (hb : k2.Sq K F b ws) (rb : Rps K F ys ws) : Feed K (ItzG K k1 k2 a b) F (pairs2 xs ys) := fun i F0 H s t => by
  have qa : k1.Sq K H a vs := Sk.keep (s.trans t) ha
  have qb : k2.Sq K H b ws := Sk.keep (s.trans t) hb
  refine ⟨fun d hd => ?_, fun e => ⟨vs, ws, qa, qb, ?_⟩⟩
  · obtain ⟨x, y, hx, hy, rfl⟩ := pairs2_get hd
    obtain ⟨v, hv, rv⟩ := ra.get hx
    obtain ⟨w, hw, rw⟩ := rb.get hy
    refine ⟨⟨vs, ws, v, w, qa, qb, hv, hw⟩, fun z H' yl => ?_⟩
    obtain ⟨T, v', w', rfl, hT, rfl, g1, g2⟩ := yl
    have e1 := (g1 vs qa).symm.trans hv
    have e2 := (g2 ws qb).symm.trans hw
    cases e1; cases e2
    have fT : F0 T = none := Same.free t hT
    have sF : Same F0 (upd F0 T (.tup [v, w])) := Same.new fT
    refine ⟨upd F0 T (.tup [v, w]), sF, fun c u hc => ?_, Same.new hT, fun c u hc => ?_, rp_pair upd_same (Rp.mono (s.trans sF) _ _ rv) (Rp.mono (s.trans sF) _ _ rw)⟩
    · by_cases e : c = T
      · subst e; rw [upd_same] at hc ⊢; exact hc
      · rw [upd_ne e] at hc ⊢; exact t _ _ hc
    · by_cases e : c = T
      · subst e; exact .inr hT
      · rw [upd_ne e] at hc; exact .inl hc
  · unfold pairs2 at e
    rw [List.length_map, List.length_zip] at e
    rw [ra.length, rb.length]
    exact e
theorem i_zip {X : Cx} {a b : Expr} {m : M (List D)} {p pos tpos : Pos} {elts : List Expr} {kk : Nat} (hg : Gl X "zip") (hm : X.mg "zip" = none) (ha : PA X [a, b] (rdA X.K m))
    (hs : starEach [a, b] X.env = (false, eval a X.env) :: starEach [b] X.env := by rfl) (hpl : (backTo pos (starEach [b] X.env)).any (·.1) = false := by rfl) :
    PI X (.Tuple elts kk tpos) (.Call (.Name "zip" p) [a, b] [] pos) (rdI X.K (zipM m)) := by
  refine pi_imp (pi_zipG hg hm ha hs hpl) fun σ H R h => ?_
  obtain ⟨F, G, ρ, xs, ρ', ok, hm, q⟩ := h
  obtain ⟨ds, ρ1, h1, h2⟩ := bnd_some hm
  obtain ⟨h3, rfl⟩ := lft_some h2
  refine ⟨F, G, ρ, ds, _, ok, h1, fun vs F1 H1 s1 ok1 r1 => ?_⟩
  unfold zip2D at h3
  split at h3
  · split at h3
    · rename_i xs ys hx hy
      cases h3
      obtain ⟨v, _, rfl, rv, w, _, rfl, rw, rfl⟩ := r1
      obtain ⟨k1, a1, vs1, rfl, g1, g2⟩ := seqOf_rp hx rv
      obtain ⟨k2, a2, vs2, rfl, g3, g4⟩ := seqOf_rp hy rw
      exact ⟨k1, k2, a1, a2, vs1, vs2, rfl, Sk.keep ok1.sub g1, Sk.keep ok1.sub g3, q _ F1 H1 s1 ok1 (feed_zip g1 g2 g3 g4)⟩
    · cases h3
  · cases h3
theorem wp_zip {ρ : Rho} {m : M (List D)} {Q : List D → Rho → Prop} (h : wp m ρ fun ds ρ1 => ∃ x y xs ys, ds = [x, y] ∧ seqOf x = some xs ∧ seqOf y = some ys ∧ Q (pairs2 xs ys) ρ1) : wp (zipM m) ρ Q := by
  obtain ⟨ds, ρ1, h1, x, y, xs, ys, rfl, e1, e2, q⟩ := h
  refine ⟨_, ρ1, (bnd_eq h1).trans ?_, q⟩
  have e : zip2D [x, y] = some (pairs2 xs ys) := by
    show (match seqOf x, seqOf y with
      | some xs, some ys => some (pairs2 xs ys)
      | _, _ => none) = _
    rw [e1, e2]
  unfold lft
  rw [e]
theorem subT_wp {i : Nat} {n : M D} {d : D} {ρ : Rho} {R : Rho → Prop} (h : wp (ownM i) ρ fun _ ρ1 => wp n ρ1 fun k ρ2 => wp (putL i d k) ρ2 fun _ ρ3 => R ρ3) : ∃ ρ', subT i n d ρ = some ρ' ∧ R ρ' := by
  obtain ⟨u, ρ1, h1, k, ρ2, h2, f, ρ3, h3, q⟩ := h
  refine ⟨ρ3, ?_, q⟩
  unfold subT
  rw [(bnd_eq h1).trans ((bnd_eq h2).trans h3)]
  rfl
/-! ### enumerate -/
def enumL (xs : List D) : List D := pairs2 ((List.range xs.length).map fun (i : Nat) => PyData.int (i : Nat)) xs
theorem enumL_get {xs : List D} {i : Nat} {d : D} (h : (enumL xs)[i]? = some d) : ∃ x, xs[i]? = some x ∧ d = .tuple [.int (i : Nat), x] := by
  obtain ⟨y, x, h1, h2, rfl⟩ := pairs2_get h
  refine ⟨x, h2, ?_⟩
  have hi : i < xs.length := (List.getElem?_eq_some_iff.mp h2).1
  rw [List.getElem?_map, List.getElem?_range hi] at h1
  cases h1
  rfl
theorem enumL_len (xs : List D) : (enumL xs).length = xs.length := by
  unfold enumL pairs2
  rw [List.length_map, List.length_zip, List.length_map, List.length_range, Nat.min_self]
theorem feed_enum {K : Kf} {F : Hp} {k : Sk} {a : Addr} {xs : List D} {vs : List V} (ha : k.Sq K F a vs) (ra : Rps K F xs vs) : Feed K (IteG K k a) F (enumL xs) := fun i F0 H s t => by
  have qa : k.Sq K H a vs := Sk.keep (s.trans t) ha
  refine ⟨fun d hd => ?_, fun e => ⟨vs, qa, by rw [enumL_len] at e; rw [ra.length]; exact e⟩⟩
  obtain ⟨x, hx, rfl⟩ := enumL_get hd
  obtain ⟨v, hv, rv⟩ := ra.get hx
  refine ⟨⟨vs, v, qa, hv⟩, fun z H' yl => ?_⟩
  obtain ⟨T, v', rfl, hT, rfl, g1⟩ := yl
  have e1 := (g1 vs qa).symm.trans hv
  cases e1
  have fT : F0 T = none := Same.free t hT
  have sF : Same F0 (upd F0 T (.tup [.int (i : Nat), v])) := Same.new fT
  refine ⟨upd F0 T (.tup [.int (i : Nat), v]), sF, fun c u hc => ?_, Same.new hT, fun c u hc => ?_, rp_pair upd_same rfl (Rp.mono (s.trans sF) _ _ rv)⟩
  · by_cases e : c = T
    · subst e; rw [upd_same] at hc ⊢; exact hc
    · rw [upd_ne e] at hc ⊢; exact t _ _ hc
  · by_cases e : c = T
    · subst e; exact .inr hT
    · rw [upd_ne e] at hc; exact .inl hc
def enum1D : List D → Option (List D)
  | [x] => (seqOf x).map enumL
  | _ => none
def enumerateM (m : M (List D)) : M (List D) := bnd m fun ds => lft (enum1D ds)
theorem i_enumerate {X : Cx} {a : Expr} {m : M (List D)} {p pos tpos : Pos} {elts : List Expr} {kk : Nat} (hg : Gl X "enumerate") (hm : X.mg "enumerate" = none) (ha : PA X [a] (rdA X.K m)) (hs : starEach [a] X.env = [(false, eval a X.env)] := by rfl) :
    PI X (.Tuple elts kk tpos) (.Call (.Name "enumerate" p) [a] [] pos) (rdI X.K (enumerateM m)) := by
  refine pi_imp (pi_enumG hg hm ha hs) fun σ H R h => ?_
  obtain ⟨F, G, ρ, xs, ρ', ok, hm, q⟩ := h
  obtain ⟨ds, ρ1, h1, h2⟩ := bnd_some hm
  obtain ⟨h3, rfl⟩ := lft_some h2
  refine ⟨F, G, ρ, ds, _, ok, h1, fun vs F1 H1 s1 ok1 r1 => ?_⟩
  unfold enum1D at h3
  split at h3
  · rename_i x
    obtain ⟨ys, hy, rfl⟩ := Option.map_eq_some_iff.mp h3
    obtain ⟨v, _, rfl, rv, rfl⟩ := r1
    obtain ⟨k, a1, vs1, rfl, g1, g2⟩ := seqOf_rp hy rv
    exact ⟨k, a1, vs1, rfl, Sk.keep ok1.sub g1, q _ F1 H1 s1 ok1 (feed_enum g1 g2)⟩
  · cases h3
theorem wp_enumerate {ρ : Rho} {m : M (List D)} {Q : List D → Rho → Prop} (h : wp m ρ fun ds ρ1 => ∃ x xs, ds = [x] ∧ seqOf x = some xs ∧ Q (enumL xs) ρ1) : wp (enumerateM m) ρ Q := by
  obtain ⟨ds, ρ1, h1, x, xs, rfl, e1, q⟩ := h
  refine ⟨_, ρ1, (bnd_eq h1).trans ?_, q⟩
  have e : enum1D [x] = some (enumL xs) := by
    show (seqOf x).map enumL = _
    rw [e1]
    rfl
  unfold lft
  rw [e]
end Fx
/-! Fx: fractions as rational numbers -/
namespace Fx
open PySem PySem.Spec PyProof.Rows L2
variable [Wd]
def frQ (q : Rat) : Int × Int := (q.num, (q.den : Int))
def qD (q : Rat) : D := frD (frQ q)
theorem den_pos (q : Rat) : (0 : Int) < (q.den : Int) := by
  have := Nat.pos_of_ne_zero q.den_nz
  omega
theorem frac_divInt {n d : Int} (h : d ≠ 0) : frac n d = frQ (Rat.divInt n d) := by
  have e : (Rat.divInt n d).num * d = n * ((Rat.divInt n d).den : Int) :=
    (Rat.divInt_eq_divInt_iff (Int.ne_of_gt (den_pos _)) h).mp (Rat.num_divInt_den (Rat.divInt n d))
  have g : Int.gcd (Rat.divInt n d).num ((Rat.divInt n d).den : Int) = 1 := by
    have := (Rat.divInt n d).reduced
    rw [Int.gcd_eq_natAbs_gcd_natAbs, Int.natAbs_natCast]
    exact this
  obtain ⟨e1, e2⟩ := fr_uniq h (frac_low h).fr ⟨den_pos _, g, e⟩
  exact Prod.ext e1 e2
theorem num_den (q : Rat) : q = Rat.divInt q.num (q.den : Int) := (Rat.num_divInt_den q).symm
theorem addF_q (a b : Rat) : addF (frQ a) (frQ b) = frQ (a + b) := by
  show frac (a.num * (b.den : Int) + b.num * (a.den : Int)) ((a.den : Int) * (b.den : Int)) = _
  rw [frac_divInt (Int.ne_of_gt (Int.mul_pos (den_pos a) (den_pos b))), ← Rat.divInt_add_divInt _ _ (Int.ne_of_gt (den_pos a)) (Int.ne_of_gt (den_pos b)), ← num_den, ← num_den]
theorem subF_q (a b : Rat) : subF (frQ a) (frQ b) = frQ (a - b) := by
  show frac (a.num * (b.den : Int) - b.num * (a.den : Int)) ((a.den : Int) * (b.den : Int)) = _
  rw [frac_divInt (Int.ne_of_gt (Int.mul_pos (den_pos a) (den_pos b))), ← Rat.divInt_sub_divInt _ _ (Int.ne_of_gt (den_pos a)) (Int.ne_of_gt (den_pos b)), ← num_den, ← num_den]
theorem mulF_q (a b : Rat) : mulF (frQ a) (frQ b) = frQ (a * b) := by
  show frac (a.num * b.num) ((a.den : Int) * (b.den : Int)) = _
  rw [frac_divInt (Int.ne_of_gt (Int.mul_pos (den_pos a) (den_pos b))), ← Rat.divInt_mul_divInt, ← num_den, ← num_den]
theorem divF_q (a b : Rat) (h : b ≠ 0) : divF (frQ a) (frQ b) = frQ (a / b) := by
  have hn : b.num ≠ 0 := fun e => h (Rat.num_eq_zero.mp e)
  show frac (a.num * (b.den : Int)) ((a.den : Int) * b.num) = _
  rw [frac_divInt (Int.mul_ne_zero (Int.ne_of_gt (den_pos a)) hn), ← Rat.divInt_mul_divInt, ← num_den, Rat.div_def, ← Rat.inv_divInt b.num, ← num_den]
theorem frQ_inj {a b : Rat} (h : frQ a = frQ b) : a = b := by
  have h1 := congrArg Prod.fst h
  have h2 := congrArg Prod.snd h
  exact Rat.ext h1 (Int.ofNat_inj.mp h2)
theorem frQ_zero : frQ 0 = (0, 1) := rfl
theorem frQ_one : frQ 1 = (1, 1) := rfl
/-- q is an integer, at most B, over M -/
def Sq (M B : Nat) (q : Rat) : Prop := ∃ n : Int, q * (M : Rat) = (n : Rat) ∧ n.natAbs ≤ B
section
variable {M M' B B' : Nat} {q r : Rat}
theorem natCast_ne {M : Nat} (h : 0 < M) : (M : Rat) ≠ 0 := fun e => by
  have h1 := Rat.natCast_pos.mpr h
  rw [e] at h1
  exact Rat.lt_irrefl h1
theorem Sq.frc {k : Nat} (h : Sq M B q) (hM : 0 < M) (hk : M < 2 ^ k) (hb : B < 2 ^ k) : Frc k (frQ q) := by
  obtain ⟨n, e, hn⟩ := h
  have m0 : ((M : Nat) : Int) ≠ 0 := by omega
  have eq : q = Rat.divInt n (M : Int) := by
    rw [Rat.divInt_eq_div]
    have c0 : (((M : Nat) : Int) : Rat) = (M : Rat) := rfl
    rw [c0, ← e, Rat.mul_div_cancel (natCast_ne hM)]
  rw [eq, ← frac_divInt m0]
  exact frac_frc m0 (show n.natAbs < 2 ^ k by omega) (show ((M : Nat) : Int).natAbs < 2 ^ k by rw [Int.natAbs_natCast]; exact hk)
theorem Sq.add (h : Sq M B q) (h' : Sq M B' r) : Sq M (B + B') (q + r) := by
  obtain ⟨n, e, hn⟩ := h
  obtain ⟨m, e', hm⟩ := h'
  refine ⟨n + m, ?_, by omega⟩
  rw [Rat.add_mul, e, e', Rat.intCast_add]
theorem Sq.mul (h : Sq M B q) (h' : Sq M' B' r) : Sq (M * M') (B * B') (q * r) := by
  obtain ⟨n, e, hn⟩ := h
  obtain ⟨m, e', hm⟩ := h'
  refine ⟨n * m, ?_, by rw [Int.natAbs_mul]; exact Nat.mul_le_mul hn hm⟩
  rw [Rat.intCast_mul, ← e, ← e', Rat.natCast_mul]
  grind
theorem Sq.neg (h : Sq M B q) : Sq M B (-q) := by
  obtain ⟨n, e, hn⟩ := h
  refine ⟨-n, ?_, by omega⟩
  rw [Rat.neg_mul, e, Rat.intCast_neg]
theorem Sq.sub (h : Sq M B q) (h' : Sq M B' r) : Sq M (B + B') (q - r) := by
  rw [Rat.sub_eq_add_neg]
  exact h.add h'.neg
theorem Sq.up (h : Sq M B q) (c : Nat) : Sq (M * c) (B * c) q := by
  obtain ⟨n, e, hn⟩ := h
  refine ⟨n * (c : Int), ?_, by rw [Int.natAbs_mul, Int.natAbs_natCast]; exact Nat.mul_le_mul hn (Nat.le_refl _)⟩
  rw [Rat.natCast_mul, ← Rat.mul_assoc, e, Rat.intCast_mul]
  rfl
theorem Sq.le (h : Sq M B q) (hb : B ≤ B') : Sq M B' q := by
  obtain ⟨n, e, hn⟩ := h
  exact ⟨n, e, by omega⟩
theorem Sq.zero (M : Nat) : Sq M 0 0 := ⟨0, by rw [Rat.zero_mul]; rfl, Nat.le_refl _⟩
theorem Sq.int (i : Int) : Sq 1 i.natAbs (i : Rat) := ⟨i, by show (i : Rat) * (1 : Rat) = _; rw [Rat.mul_one], Nat.le_refl _⟩
theorem Sq.one : Sq 1 1 1 := Sq.int 1
theorem Sq.divInt {n : Int} {d : Nat} (hd : 0 < d) : Sq d n.natAbs (Rat.divInt n d) := ⟨n, by
  rw [Rat.divInt_eq_div]
  exact Rat.div_mul_cancel (natCast_ne hd), Nat.le_refl _⟩
end
theorem qD_shp (q : Rat) : Shp 1 (qD q) := frD_shp _
theorem qD_eqv (a b : Rat) : PyData.eqv (qD a) (qD b) = decide (a = b) := by
  rw [Bool.eq_iff_iff, decide_eq_true_iff]
  unfold qD frD
  simp only [PyData.eqv, PyData.eqvAll, Bool.and_true, Bool.and_eq_true, beq_iff_eq]
  constructor
  · rintro ⟨h1, h2⟩
    exact frQ_inj (Prod.ext (by simpa using h1) (by simpa using h2))
  · rintro rfl
    simp
theorem ixN_of {n k : Nat} (h : k < n) : ixN n (k : Int) = some k := by
  unfold ixN
  rw [if_pos (by omega), if_pos (by omega)]
  simp
end Fx
/-! Fx: own lists within own lists: freezing, locking, places -/
namespace Fx
open PySem PySem.Spec PyProof.Rows L2
variable [Wd]
mutual
/-- the tree as data; own dicts and objects have none -/
def toD : Tr → Option D
  | .v d => some d
  | .f (.lst xs) => some (.list xs)
  | .l ts => (toDs ts).map .list
  | _ => none
def toDs : List Tr → Option (List D)
  | [] => some []
  | t :: ts => match toD t, toDs ts with
    | some d, some ds => some (d :: ds)
    | _, _ => none
end
/-- the addresses as, as they stand, join the data -/
def fz (F H : Hp) (as : List Addr) : Hp := fun a => if a ∈ as then H a else F a
/-- the addresses as, as they stand, are a caller's -/
def lk (G H : Hp) (as : List Addr) : Hp := fun a => if a ∈ as then H a else G a
section
variable {K : Kf} {F F' G H H' : Hp} {σ : L2.St} {ρ ρ' : Rho}
theorem fz_in {as : List Addr} {a : Addr} (h : a ∈ as) : fz F H as a = H a := if_pos h
theorem fz_out {as : List Addr} {a : Addr} (h : a ∉ as) : fz F H as a = F a := if_neg h
theorem lk_in {as : List Addr} {a : Addr} (h : a ∈ as) : lk G H as a = H a := if_pos h
theorem lk_out {as : List Addr} {a : Addr} (h : a ∉ as) : lk G H as a = G a := if_neg h
theorem fz_same {as : List Addr} (h : ∀ a ∈ as, F a = none) : Same F (fz F H as) := fun a o e => by
  rw [fz_out (fun z => by rw [h a z] at e; cases e)]; exact e
theorem fz_mono {as bs : List Addr} (h : ∀ a ∈ bs, F a = none) (s : ∀ a ∈ as, a ∈ bs) : Same (fz F H as) (fz F H bs) := fun a o e => by
  by_cases ha : a ∈ as
  · rw [fz_in ha] at e; rw [fz_in (s a ha)]; exact e
  · rw [fz_out ha] at e
    rw [fz_out (fun z => by rw [h a z] at e; cases e)]; exact e
mutual
theorem TrAt.rp : ∀ (t : Tr) (v : V) (as : List Addr) (d : D), TrAt K F H t v as → (∀ a ∈ as, F a = none) → toD t = some d → Rp K (fz F H as) d v
  | .v d, v, as, e, ⟨h1, h2⟩, _, hd => by
    cases hd
    rw [h1]
    exact Rp.mono (fz_same fun a ha => by cases ha) _ _ h2
  | .f (.lst xs), v, as, e, ⟨p, h1, h2, vs, h3, h4⟩, hF, hd => by
    cases hd
    exact ⟨p, vs, h1, by rw [fz_in (by rw [h2]; exact List.mem_cons_self)]; exact h3, Rps.mono (fz_same hF) _ _ h4⟩
  | .f (.dk _), v, as, e, _, _, hd => by cases hd
  | .f (.dt _), v, as, e, _, _, hd => by cases hd
  | .f (.dd _), v, as, e, _, _, hd => by cases hd
  | .l ts, v, as, e, ⟨p, vs, bs, h1, h2, h3, h4⟩, hF, hd => by
    obtain ⟨ds, hds, rfl⟩ := Option.map_eq_some_iff.mp hd
    have hb : ∀ a ∈ bs, a ∈ as := fun a ha => by rw [h2]; exact List.mem_cons_of_mem _ ha
    exact ⟨p, vs, h1, by rw [fz_in (by rw [h2]; exact List.mem_cons_self)]; exact h3, Rps.mono (fz_mono hF hb) _ _ (TrsAt.rp ts vs bs ds h4 (fun a ha => hF a (hb a ha)) hds)⟩
  | .k _, v, as, e, _, _, hd => by cases hd
  | .ob _ _, v, as, e, _, _, hd => by cases hd
theorem TrsAt.rp : ∀ (ts : List Tr) (vs : List V) (as : List Addr) (ds : List D), TrsAt K F H ts vs as → (∀ a ∈ as, F a = none) → toDs ts = some ds → Rps K (fz F H as) ds vs
  | [], vs, as, ds, ⟨h1, h2⟩, _, hd => by cases hd; exact h1
  | t :: ts, vs, as, ds, ⟨v, ws, a1, a2, h1, h2, h3, h4⟩, hF, hd => by
    unfold toDs at hd
    split at hd
    · rename_i d ds' e1 e2
      cases hd
      have s1 : ∀ a ∈ a1, a ∈ as := fun a ha => by rw [h2]; exact List.mem_append_left _ ha
      have s2 : ∀ a ∈ a2, a ∈ as := fun a ha => by rw [h2]; exact List.mem_append_right _ ha
      exact ⟨v, ws, h1, Rp.mono (fz_mono hF s1) _ _ (TrAt.rp t v a1 d h3 (fun a ha => hF a (s1 a ha)) e1), Rps.mono (fz_mono hF s2) _ _ (TrsAt.rp ts ws a2 ds' h4 (fun a ha => hF a (s2 a ha)) e2)⟩
    · cases hd
end
/-- what nobody owns becomes data, all at once -/
theorem Ok.freezeAll (ok : Ok K F G H σ ρ) : ∀ (as : List Addr), (∀ a ∈ as, New K F G H σ ρ a) → (∀ a ∈ as, ∃ o, H a = some o) → Same F (fz F H as) ∧ Ok K (fz F H as) G H σ ρ ∧ ∀ q, q ∉ as → New K F G H σ ρ q → New K (fz F H as) G H σ ρ q
  | [], _, _ => by
    have e : fz F H [] = F := funext fun a => fz_out (fun z => by cases z)
    rw [e]
    exact ⟨Same.refl F, ok, fun q _ n => n⟩
  | p :: as, hn, ho => by
    obtain ⟨s1, ok1, nw1⟩ := Ok.freezeAll ok as (fun a ha => hn a (List.mem_cons_of_mem _ ha)) (fun a ha => ho a (List.mem_cons_of_mem _ ha))
    by_cases hp : p ∈ as
    · have e : fz F H (p :: as) = fz F H as := funext fun a => by
        by_cases ha : a ∈ as
        · rw [fz_in ha, fz_in (List.mem_cons_of_mem _ ha)]
        · rw [fz_out ha, fz_out (fun z => by rcases List.mem_cons.mp z with q | q; exact ha (q ▸ hp); exact ha q)]
      rw [e]
      exact ⟨s1, ok1, fun q hq n => nw1 q (fun z => hq (List.mem_cons_of_mem _ z)) n⟩
    · obtain ⟨o, hpo⟩ := ho p List.mem_cons_self
      have n1 := nw1 p hp (hn p List.mem_cons_self)
      obtain ⟨s2, ok2⟩ := ok1.freeze hpo n1
      have e : fz F H (p :: as) = upd (fz F H as) p o := funext fun a => by
        by_cases ha : a = p
        · rw [ha, upd_same, fz_in List.mem_cons_self, hpo]
        · rw [upd_ne ha]
          by_cases hm : a ∈ as
          · rw [fz_in hm, fz_in (List.mem_cons_of_mem _ hm)]
          · rw [fz_out hm, fz_out (fun z => by rcases List.mem_cons.mp z with q | q; exact ha q; exact hm q)]
      rw [e]
      refine ⟨s1.trans s2, ok2, fun q hq n => ?_⟩
      have nq := nw1 q (fun z => hq (List.mem_cons_of_mem _ z)) n
      exact nq.ge s2 (Same.refl H) (by rw [upd_ne (fun z => hq (by rw [z]; exact List.mem_cons_self))]; exact nq.f)
/-- a slot's tree, taken as data -/
theorem Ok.freezeTree {i : Nat} {x : Sl} {t : Tr} {d : D} (ok : Ok K F G H σ ρ) (h : ρ[i]? = some x) (e : x.tr = some t) (hd : toD t = some d) : ∃ v F', σ[i]? = some (some v) ∧ Same F F' ∧ Ok K F' G H σ (ρ.set i (.v d)) ∧ Rp K F' d v := by
  obtain ⟨v, as, h1, h2, h3, h4⟩ := ok.hold i x t h e
  have hn := ok.newOfT (K := K) h e h1 h2
  obtain ⟨s1, ok1, _⟩ := (ok.drop i).freezeAll as hn (fun a ha => h2.some _ _ _ a ha)
  have r := h2.rp _ _ _ _ (fun a ha => (h4 a ha).1) hd
  refine ⟨v, _, h1, s1, ?_, r⟩
  have ok2 := ok1.put (i := i) (x := v) (r := .v d) (fun d' e' => by cases e'; exact r) (fun b hb => by cases hb) (fun ns hb => by cases hb)
  rw [set_set, set_self h1] at ok2
  exact ok2
/-! ### a slot locked -/
theorem Ok.lock {i : Nat} {x : Sl} {t : Tr} {v : V} {as : List Addr} (ok : Ok K F G H σ ρ) (h : ρ[i]? = some x) (e : x.tr = some t) (hs : σ[i]? = some (some v)) (ha : TrAt K F H t v as) : Ok K F (lk G H as) H σ (ρ.set i .u) := by
  have okd := ok.drop i
  have nw := ok.newOfT (K := K) h e hs ha
  refine ⟨okd.sub, fun a o q => ?_, fun a o q => ?_, okd.len, okd.val, fun j y u hj hu => ?_, okd.scr, okd.apar⟩
  · by_cases hm : a ∈ as
    · rw [lk_in hm] at q; exact q
    · rw [lk_out hm] at q; exact okd.gsub _ _ q
  · by_cases hm : a ∈ as
    · exact (nw a hm).f
    · rw [lk_out hm] at q; exact okd.disj _ _ q
  · obtain ⟨w, cs, c1, c2, c3, c4⟩ := okd.hold j y u hj hu
    refine ⟨w, cs, c1, c2, c3, fun a hc => ⟨(c4 a hc).1, ?_⟩⟩
    have hm : a ∉ as := fun z => by
      obtain ⟨w', cs', d1, d2, d3⟩ := (nw a z).s j y u hj hu
      rw [c1] at d1; cases d1
      rw [TrAt.det _ _ _ _ d2 c2] at d3
      exact d3 hc
    rw [lk_out hm]; exact (c4 a hc).2
theorem Ok.weakG {G' : Hp} (ok : Ok K F G' H σ ρ) (s : Same G G') : Ok K F G H σ ρ := ⟨ok.sub, s.trans ok.gsub, fun a o q => ok.disj a o (s a o q), ok.len, ok.val, fun i x t h e => let ⟨v, as, h1, h2, h3, h4⟩ := ok.hold i x t h e; ⟨v, as, h1, h2, h3, fun a ha => ⟨(h4 a ha).1, by
  cases q : G a with
  | none => rfl
  | some o => have := s a o q; rw [(h4 a ha).2] at this; cases this⟩⟩, ok.scr, ok.apar⟩
/-- the addresses as of a locked slot are nobody's, and stand as they stood -/
theorem Ok.unlock {as : List Addr} (ok : Ok K F' (lk G H as) H' σ ρ') (hH : ∀ a ∈ as, ∃ o, H a = some o) (hG : ∀ a ∈ as, G a = none) : Ok K F' G H' σ ρ' ∧ (∀ a ∈ as, H' a = H a) ∧ ∀ a ∈ as, New K F' G H' σ ρ' a := by
  have sG : Same G (lk G H as) := fun a o q => by
    rw [lk_out (fun z => by rw [hG a z] at q; cases q)]; exact q
  have st : ∀ a ∈ as, H' a = H a := fun a ha => by
    obtain ⟨o, ho⟩ := hH a ha
    exact (ok.gsub a o (by rw [lk_in ha]; exact ho)).trans ho.symm
  refine ⟨ok.weakG sG, st, fun a ha => ?_⟩
  obtain ⟨o, ho⟩ := hH a ha
  have hl : lk G H as a = some o := by rw [lk_in ha]; exact ho
  refine ⟨ok.disj a o hl, hG a ha, fun j y u hj hu => ?_⟩
  obtain ⟨w, cs, c1, c2, c3, c4⟩ := ok.hold j y u hj hu
  refine ⟨w, cs, c1, c2, fun hc => ?_⟩
  rw [(c4 a hc).2] at hl
  cases hl
/-! ### places in a tree -/
def subTr : Tr → List Nat → Option Tr
  | t, [] => some t
  | .l ts, k :: ks => match ts[k]? with
    | some u => subTr u ks
    | none => none
  | _, _ :: _ => none
def setTr : Tr → List Nat → Tr → Tr
  | _, [], t => t
  | .l ts, k :: ks, t => match ts[k]? with
    | some u => .l (ts.set k (setTr u ks t))
    | none => .l ts
  | u, _ :: _, _ => u
inductive AtP (H : Hp) : V → List Nat → V → Prop
  | nil (v : V) : AtP H v [] v
  | cons {p : Addr} {vs : List V} {k : Nat} {w u : V} {ks : List Nat} (h : H p = some (.lst vs)) (hk : vs[k]? = some w) (r : AtP H w ks u) : AtP H (.ref p) (k :: ks) u
theorem AtP.snoc {p : Addr} {vs : List V} {k : Nat} {w v : V} {ks : List Nat} (a : AtP H v ks (.ref p)) (h : H p = some (.lst vs)) (hk : vs[k]? = some w) : AtP H v (ks ++ [k]) w := by
  generalize hx : V.ref p = x at a
  induction a with
  | nil v => subst hx; exact .cons h hk (.nil w)
  | cons h1 h2 r ih => exact .cons h1 h2 (ih hx)
theorem AtP.det {v u u' : V} {ks : List Nat} (a : AtP H v ks u) (b : AtP H v ks u') : u = u' := by
  induction a with
  | nil v => cases b; rfl
  | cons h1 h2 r ih =>
    cases b with
    | cons g1 g2 q =>
      rw [h1] at g1; cases g1
      rw [h2] at g2; cases g2
      exact ih q
theorem trs_len : ∀ (ts : List Tr) (vs : List V) (as : List Addr), TrsAt K F H ts vs as → vs.length = ts.length
  | [], vs, as, ⟨h1, _⟩ => by rw [h1]; rfl
  | t :: ts, vs, as, ⟨v, ws, a1, a2, h1, _, _, h4⟩ => by rw [h1, List.length_cons, List.length_cons, trs_len ts ws a2 h4]
theorem trs_at : ∀ (ts : List Tr) (vs : List V) (as : List Addr) (k : Nat) (t : Tr), TrsAt K F H ts vs as → ts[k]? = some t → ∃ w a1 b1 b2, vs[k]? = some w ∧ as = b1 ++ a1 ++ b2 ∧ TrAt K F H t w a1 ∧
    ∀ (F2 H2 : Hp) (t2 : Tr) (a2 : List Addr), Same F F2 → (∀ a ∈ b1 ++ b2, H2 a = H a) → TrAt K F2 H2 t2 w a2 → TrsAt K F2 H2 (ts.set k t2) vs (b1 ++ a2 ++ b2)
  | [], vs, as, k, t, _, e => by simp at e
  | t0 :: ts, vs, as, 0, t, ⟨v, ws, a1, a2, h1, h2, h3, h4⟩, e => by
    have e : t0 = t := by simpa using e
    subst e
    refine ⟨v, a1, [], a2, by rw [h1]; rfl, by rw [h2]; rfl, h3, fun F2 H2 t2 c s hk ht => ?_⟩
    exact ⟨v, ws, c, a2, h1, rfl, ht, h4.mono s _ _ _ fun a ha => hk a ha⟩
  | t0 :: ts, vs, as, k + 1, t, ⟨v, ws, a1, a2, h1, h2, h3, h4⟩, e => by
    obtain ⟨w, c1, b1, b2, g1, g2, g3, g4⟩ := trs_at ts ws a2 k t h4 (by simpa using e)
    refine ⟨w, c1, a1 ++ b1, b2, by rw [h1]; simpa using g1, by rw [h2, g2]; simp [List.append_assoc], g3, fun F2 H2 t2 c s hk ht => ?_⟩
    refine ⟨v, ws, a1, b1 ++ c ++ b2, h1, by simp [List.append_assoc], h3.mono s _ _ _ fun a ha => hk a (by simp [ha]), g4 F2 H2 t2 c s (fun a ha => hk a ?_) ht⟩
    rcases List.mem_append.mp ha with q | q
    · exact List.mem_append_left _ (List.mem_append_right _ q)
    · exact List.mem_append_right _ q
theorem nodup_mid {α : Type} {x y z : List α} (h : (x ++ y ++ z).Nodup) : y.Nodup ∧ (∀ a ∈ y, a ∉ x ∧ a ∉ z) ∧ (x ++ z).Nodup := by
  rw [List.append_assoc, List.nodup_append] at h
  obtain ⟨h1, h2, h3⟩ := h
  rw [List.nodup_append] at h2
  obtain ⟨h4, h5, h6⟩ := h2
  refine ⟨h4, fun a ha => ⟨fun hx => h3 a hx a (List.mem_append_left _ ha) rfl, fun hz => h6 a ha a hz rfl⟩, List.nodup_append.mpr ⟨h1, h5, fun a ha b hb => h3 a ha b (List.mem_append_right _ hb)⟩⟩
/-- the place ns of a tree, and another tree put there -/
theorem tr_place : ∀ (ns : List Nat) (t : Tr) (v : V) (as : List Addr) (t' : Tr), TrAt K F H t v as → as.Nodup → subTr t ns = some t' → ∃ u cs, AtP H v ns u ∧ TrAt K F H t' u cs ∧ (∀ a ∈ cs, a ∈ as) ∧ cs.Nodup ∧
    ∀ (F2 H2 : Hp) (t2 : Tr) (c2 : List Addr), Same F F2 → (∀ a ∈ as, a ∉ cs → H2 a = H a) → TrAt K F2 H2 t2 u c2 → ∃ a2, TrAt K F2 H2 (setTr t ns t2) v a2 ∧ (∀ a ∈ a2, (a ∈ as ∧ a ∉ cs) ∨ a ∈ c2) ∧ (c2.Nodup → (∀ a ∈ c2, a ∈ cs ∨ a ∉ as) → a2.Nodup)
  | [], t, v, as, t', h, nd, e => by
    have e : t = t' := by cases t <;> (simpa [subTr] using e)
    subst e
    refine ⟨v, as, .nil v, h, fun a ha => ha, nd, fun F2 H2 t2 c2 s hk ht => ⟨c2, ?_, fun a ha => .inr ha, fun nc _ => nc⟩⟩
    have : setTr t [] t2 = t2 := by cases t <;> rfl
    rw [this]
    exact ht
  | k :: ks, .l ts, v, as, t', ⟨p, vs, bs, h1, h2, h3, h4⟩, nd, e => by
    have e : (match ts[k]? with
      | some u => subTr u ks
      | none => none) = some t' := e
    split at e
    · rename_i t1 hk
      obtain ⟨w, c1, b1, b2, g1, g2, g3, g4⟩ := trs_at ts vs bs k t1 h4 hk
      rw [h2, List.nodup_cons] at nd
      obtain ⟨np, nb⟩ := nd
      rw [g2] at nb np
      obtain ⟨n1, n2, n3⟩ := nodup_mid nb
      obtain ⟨u, cs, q1, q2, q3, q4, q5⟩ := tr_place ks t1 w c1 t' g3 n1 e
      have inb : ∀ a ∈ c1, a ∈ as := fun a ha => by rw [h2, g2]; exact List.mem_cons_of_mem _ (List.mem_append_left _ (List.mem_append_right _ ha))
      have inx : ∀ a ∈ b1 ++ b2, a ∈ as := fun a ha => by
        rw [h2, g2]
        refine List.mem_cons_of_mem _ ?_
        rcases List.mem_append.mp ha with z | z
        · exact List.mem_append_left _ (List.mem_append_left _ z)
        · exact List.mem_append_right _ z
      have nx : ∀ a ∈ b1 ++ b2, a ∉ c1 := fun a ha hc => by
        rcases List.mem_append.mp ha with z | z
        · exact (n2 a hc).1 z
        · exact (n2 a hc).2 z
      have pin : p ∈ as := by rw [h2]; exact List.mem_cons_self
      have pc : p ∉ c1 := fun z => np (List.mem_append_left _ (List.mem_append_right _ z))
      refine ⟨u, cs, by rw [h1]; exact .cons h3 g1 q1, q2, fun a ha => inb a (q3 a ha), q4, fun F2 H2 t2 c2 s hH ht => ?_⟩
      obtain ⟨a2, r1, r2, r3⟩ := q5 F2 H2 t2 c2 s (fun a ha hc => hH a (inb a ha) hc) ht
      have ew : setTr (.l ts) (k :: ks) t2 = .l (ts.set k (setTr t1 ks t2)) := by
        show (match ts[k]? with
          | some u => Tr.l (ts.set k (setTr u ks t2))
          | none => .l ts) = _
        rw [hk]
      refine ⟨p :: (b1 ++ a2 ++ b2), ?_, fun a ha => ?_, fun nc hc => ?_⟩
      · rw [ew]
        exact ⟨p, vs, _, h1, rfl, (hH p pin (fun z => pc (q3 p z))).trans h3, g4 F2 H2 _ a2 s (fun a ha => hH a (inx a ha) (fun z => nx a ha (q3 a z))) r1⟩
      · rcases List.mem_cons.mp ha with z | z
        · exact .inl ⟨by rw [z]; exact pin, fun y => pc (q3 p (by rw [← z]; exact y))⟩
        · rcases List.mem_append.mp z with z | z
          · rcases List.mem_append.mp z with z | z
            · exact .inl ⟨inx a (List.mem_append_left _ z), fun y => nx a (List.mem_append_left _ z) (q3 a y)⟩
            · rcases r2 a z with y | y
              · exact .inl ⟨inb a y.1, y.2⟩
              · exact .inr y
          · exact .inl ⟨inx a (List.mem_append_right _ z), fun y => nx a (List.mem_append_right _ z) (q3 a y)⟩
      · have na2 := r3 nc (fun a ha => (hc a ha).elim .inl fun z => .inr fun y => z (inb a y))
        -- nothing of a2 stands elsewhere
        have out : ∀ a ∈ a2, a ≠ p ∧ a ∉ b1 ++ b2 := fun a ha => by
          rcases r2 a ha with y | y
          · exact ⟨fun z => pc (by rw [← z]; exact y.1), fun z => nx a z y.1⟩
          · rcases hc a y with z | z
            · exact ⟨fun x => pc (by rw [← x]; exact q3 a z), fun x => nx a x (q3 a z)⟩
            · exact ⟨fun x => z (by rw [x]; exact pin), fun x => z (inx a x)⟩
        have n3' := List.nodup_append.mp n3
        rw [List.nodup_cons]
        refine ⟨fun z => ?_, ?_⟩
        · rcases List.mem_append.mp z with z | z
          · rcases List.mem_append.mp z with z | z
            · exact np (List.mem_append_left _ (List.mem_append_left _ z))
            · exact (out p z).1 rfl
          · exact np (List.mem_append_right _ z)
        · rw [List.append_assoc]
          refine List.nodup_append.mpr ⟨n3'.1, List.nodup_append.mpr ⟨na2, n3'.2.1, fun a ha b hb z => (out a ha).2 (by rw [z]; exact List.mem_append_right _ hb)⟩, fun a ha b hb z => ?_⟩
          rcases List.mem_append.mp hb with y | y
          · exact (out b y).2 (by rw [← z]; exact List.mem_append_left _ ha)
          · exact n3'.2.2 a ha b y z
    · cases e
  | k :: ks, .v _, v, as, t', h, nd, e => by cases e
  | k :: ks, .f _, v, as, t', h, nd, e => by cases e
  | k :: ks, .k _, v, as, t', h, nd, e => by cases e
  | k :: ks, .ob _ _, v, as, t', h, nd, e => by cases e
/-- the places, by their indices -/
def idxs : Tr → List D → Option (List Nat)
  | _, [] => some []
  | .l ts, .int k :: ks => match ixN ts.length k with
    | some j => (match ts[j]? with
      | some t => (idxs t ks).map (j :: ·)
      | none => none)
    | none => none
  | _, _ :: _ => none
theorem idxs_snoc : ∀ (t : Tr) (ks : List D) (k : D) (ns : List Nat), idxs t (ks ++ [k]) = some ns → ∃ ms ts kk j, idxs t ks = some ms ∧ subTr t ms = some (.l ts) ∧ k = .int kk ∧ ixN ts.length kk = some j ∧ (∃ u, ts[j]? = some u) ∧ ns = ms ++ [j]
  | t, [], k, ns, h => by
    cases t with
    | l ts =>
      cases k with
      | int kk =>
        have h : (match ixN ts.length kk with
          | some j => (match ts[j]? with
            | some t => (idxs t []).map (j :: ·)
            | none => none)
          | none => none) = some ns := h
        split at h
        · rename_i j hj
          split at h
          · rename_i u hu
            obtain ⟨m, hm, rfl⟩ := Option.map_eq_some_iff.mp h
            have hm : some [] = some m := by cases u <;> exact hm
            cases hm
            exact ⟨[], ts, kk, j, rfl, rfl, rfl, hj, ⟨u, hu⟩, rfl⟩
          · cases h
        · cases h
      | _ => (exfalso; simp [idxs] at h)
    | _ => (exfalso; simp [idxs] at h)
  | t, a :: ks, k, ns, h => by
    cases t with
    | l ts =>
      cases a with
      | int aa =>
        have h : (match ixN ts.length aa with
          | some j => (match ts[j]? with
            | some t => (idxs t (ks ++ [k])).map (j :: ·)
            | none => none)
          | none => none) = some ns := h
        split at h
        · rename_i j hj
          split at h
          · rename_i u hu
            obtain ⟨m, hm, rfl⟩ := Option.map_eq_some_iff.mp h
            obtain ⟨ms, ts', kk, j', h1, h2, h3, h4, h5, rfl⟩ := idxs_snoc u ks k m hm
            refine ⟨j :: ms, ts', kk, j', ?_, ?_, h3, h4, h5, rfl⟩
            · show (match ixN ts.length aa with
                | some j => (match ts[j]? with
                  | some t => (idxs t ks).map (j :: ·)
                  | none => none)
                | none => none) = _
              rw [hj]
              show (match ts[j]? with
                  | some t => (idxs t ks).map (j :: ·)
                  | none => none) = _
              rw [hu]
              show (idxs u ks).map _ = _
              rw [h1]
              rfl
            · show (match ts[j]? with
                | some u => subTr u ms
                | none => none) = _
              rw [hu]
              exact h2
          · cases h
        · cases h
      | _ => (exfalso; simp [idxs] at h)
    | _ => (exfalso; simp [idxs] at h)
end
end Fx
/-! Fx: what is done at a place in an own tree -/
namespace Fx
open PySem PySem.Spec PyProof.Rows L2
variable [Wd]
/-- the place: a name, and the indices behind it, the last one first -/
def tPth (K : Kf) (i : Nat) : List (M D) → TE
  | [] => tVar i
  | m :: ms => tOp (rIxL K) (tPth K i ms) (rdV K m)
def pthM : List (M D) → M (List D)
  | [] => ret []
  | m :: ms => bnd (pthM ms) fun ks => bnd m fun k => ret (ks ++ [k])
section
variable {X : Cx} {o e ix : Expr} {pos apos px p2 : Pos} {ms : List (M D)} {i : Nat}
theorem p_name (i : Nat) {x : Str} (hN : X.N[i]? = some x := by rfl) (hv : Vis X.env.scope x := by first | exact Or.inl rfl | exact Or.inr (Or.inl rfl) | exact Or.inr (Or.inr rfl)) (hd : (x == ("__debug__" : Str)) = false := by decide)
    (hcd : (x == ("__classdict__" : Str)) = false := by decide) : PE X (.Name x px) (tPth X.K i []) := pe_var hN hv hd hcd
theorem p_ix {m : M D} (ho : PE X o (tPth X.K i ms)) (hx : PE X ix (rdV X.K m)) (hs : PlainIx ix := by exact fun _ _ => rfl) : PE X (.Subscript o ix pos) (tPth X.K i (m :: ms)) := pe_ix ix_list ho hx hs
end
section
variable {K : Kf} {F0 G H0 : Hp} {σ : L2.St} {i : Nat} {t : Tr} {v : V} {as : List Addr}
/-- the way to the place, while the slot is locked -/
theorem pth_run (hs : σ[i]? = some (some v)) (ha : TrAt K F0 H0 t v as) (nd : as.Nodup) : ∀ (ms : List (M D)) (F H : Hp) (ρ ρ' : Rho) (ks : List D) (ns : List Nat) (Q : VK), Same F0 F → Ok K F (lk G H0 as) H σ ρ → pthM ms ρ = some (ks, ρ') → idxs t ks = some ns →
    (∀ u F' H', Same F F' → Ok K F' (lk G H0 as) H' σ ρ' → AtP H0 v ns u → Q u H') → tPth K i ms σ H Q
  | [], F, H, ρ, ρ', ks, ns, Q, s0, ok, hm, hi, q => by
    cases hm
    have e : ns = [] := by cases t <;> (simp [idxs] at hi; exact hi)
    subst e
    exact ⟨v, hs, q v F H (Same.refl F) ok (.nil v)⟩
  | m :: ms, F, H, ρ, ρ', ks, ns, Q, s0, ok, hm, hi, q => by
    obtain ⟨ks0, ρ1, h1, h2⟩ := bnd_some (show bnd (pthM ms) (fun ks => bnd m fun k => ret (ks ++ [k])) ρ = some (ks, ρ') from hm)
    obtain ⟨k, ρ2, h3, h4⟩ := bnd_some h2
    cases h4
    obtain ⟨ns0, ts, kk, j, g1, g2, rfl, g4, ⟨u1, g5⟩, rfl⟩ := idxs_snoc _ _ _ _ hi
    refine pth_run hs ha nd ms F H ρ ρ1 ks0 ns0 _ s0 ok h1 g1 fun u F1 H1 s1 ok1 at1 => ⟨F1, lk G H0 as, ρ1, _, ρ', ok1, h3, fun y F2 H2 s2 ok2 r2 => ?_⟩
    cases (show y = V.int kk from r2)
    obtain ⟨u', cs, q1, ⟨p, vs, bs, e1, e2, e3, e4⟩, q3, q4, q5⟩ := tr_place ns0 t v as _ ha nd g2
    cases AtP.det q1 at1
    subst e1
    have hp : p ∈ as := q3 p (by rw [e2]; exact List.mem_cons_self)
    have hH2 : H2 p = some (.lst vs) := ok2.gsub p _ (by rw [lk_in hp]; exact e3)
    have hl := trs_len _ _ _ e4
    have hjl : j < vs.length := by rw [hl]; exact (List.getElem?_eq_some_iff.mp g5).1
    refine ⟨p, vs, kk, vs[j], rfl, rfl, SqL.of hH2, ?_, q _ F2 H2 (s1.trans s2) ok2 (at1.snoc e3 (List.getElem?_eq_getElem hjl))⟩
    unfold atI
    rw [hl, g4]
    exact List.getElem?_eq_getElem hjl
end
/-- slot i stays closed while m runs -/
def lockM {α : Type} (i : Nat) (m : M α) : M (Tr × α) := fun ρ => match ρ[i]? with
  | some x => (match x.tr with
    | some t => (match m (ρ.set i .u) with
      | some (r, ρ') => if ρ'.length = ρ.length then (match ρ'[i]? with
        | some .u => some ((t, r), ρ')
        | _ => none) else none
      | none => none)
    | none => none)
  | none => none
theorem lockM_some {α : Type} {i : Nat} {m : M α} {ρ ρ' : Rho} {t : Tr} {r : α} (h : lockM i m ρ = some ((t, r), ρ')) : ∃ x, ρ[i]? = some x ∧ x.tr = some t ∧ m (ρ.set i .u) = some (r, ρ') ∧ ρ'.length = ρ.length ∧ ρ'[i]? = some .u := by
  unfold lockM at h
  split at h
  · rename_i x hx
    split at h
    · rename_i t' ht
      split at h
      · rename_i r' ρ1 hm
        split at h
        · rename_i hl
          split at h
          · rename_i hu
            cases h
            exact ⟨x, hx, ht, hm, hl, hu⟩
          · cases h
        · cases h
      · cases h
    · cases h
  · cases h
/-- the own object at the place, and the tree with another there -/
def leafAt (t : Tr) (ks : List D) : Option (List Nat × Own) := match idxs t ks with
  | some ns => (match subTr t ns with
    | some (.f b) => some (ns, b)
    | _ => none)
  | none => none
theorem leafAt_some {t : Tr} {ks : List D} {ns : List Nat} {b : Own} (h : leafAt t ks = some (ns, b)) : idxs t ks = some ns ∧ subTr t ns = some (.f b) := by
  unfold leafAt at h
  split at h
  · rename_i ns' e1
    split at h
    · rename_i b' e2
      cases h
      exact ⟨e1, e2⟩
    · cases h
  · cases h
section
variable {K : Kf} {F0 F G H0 H : Hp} {σ : L2.St} {ρ : Rho} {i : Nat} {t : Tr} {v u : V} {as : List Addr} {ns : List Nat} {b b' : Own} {q : Addr} {ho : HO}
/-- behind the locked run: the object at the place changes, the slot is open again -/
theorem Ok.leafTurn (s : Same F0 F) (ha : TrAt K F0 H0 t v as) (nd : as.Nodup) (hG : ∀ a ∈ as, G a = none) (hs : σ[i]? = some (some v)) (ok : Ok K F (lk G H0 as) H σ ρ) (hu : ρ[i]? = some .u) (hp : subTr t ns = some (.f b)) (at1 : AtP H0 v ns u) :
    ∃ q, u = .ref q ∧ OwnAt K F H q b ∧ ∀ (b' : Own) (ho : HO), OwnAt K F (upd H q ho) q b' → Ok K F G (upd H q ho) σ (ρ.set i (.t (setTr t ns (.f b')))) := by
  have hH : ∀ a ∈ as, ∃ o, H0 a = some o := fun a h => ha.some _ _ _ a h
  obtain ⟨ok1, st, nw⟩ := ok.unlock hH hG
  obtain ⟨u', cs, q1, ⟨q, e1, e2, e3⟩, q3, q4, q5⟩ := tr_place ns t v as _ ha nd hp
  cases AtP.det q1 at1
  refine ⟨q, e1, e3.mono s (st q (q3 q (by rw [e2]; exact List.mem_cons_self))), fun b' ho hb => ?_⟩
  subst e2
  have hqa : q ∈ as := q3 q List.mem_cons_self
  obtain ⟨a2, r1, r2, r3⟩ := q5 F (upd H q ho) (.f b') [q] s (fun a h hc => by
    rw [upd_ne (fun z => hc (by rw [z]; exact List.mem_cons_self))]
    exact st a h) ⟨q, e1, rfl, hb⟩
  obtain ⟨ok2, _⟩ := ok1.heapAt (o := ho) (nw q hqa)
  have hsub : ∀ a ∈ a2, a ∈ as := fun a h => by
    rcases r2 a h with z | z
    · exact z.1
    · rw [List.mem_singleton.mp z]; exact hqa
  have ok3 := ok2.putT (i := i) (x := v) (r := .t (setTr t ns (.f b'))) (fun d e => nomatch e) (fun t' e => by
    cases e
    refine ⟨a2, r1, r3 (by simp) (fun a h => .inl h), fun a h => ?_⟩
    have n := nw a (hsub a h)
    refine ⟨n.f, n.g, fun j y w hj hy => ?_⟩
    obtain ⟨w1, cs1, c1, c2, c3⟩ := n.s j y w hj hy
    obtain ⟨w2, cs2, d1, d2, d3⟩ := (nw q hqa).s j y w hj hy
    rw [c1] at d1; cases d1
    rw [TrAt.det _ _ _ _ d2 c2] at d3
    exact ⟨w1, cs1, c1, c2.mono (Same.refl F) _ _ _ (fun c hc => upd_ne fun z => d3 (by rw [← z]; exact hc)), c3⟩) (fun ns e => nomatch e)
  rw [set_self hs] at ok3
  exact ok3
end
end Fx
/-! Fx: own lists of own lists: how they are made, grown and read -/
namespace Fx
open PySem PySem.Spec PyProof.Rows L2
variable [Wd]
/-! ### hiding what is new -/
section
variable {K : Kf} {F F' G H H' : Hp} {σ : L2.St} {ρ ρ' : Rho}
theorem Ok.hideNew {as : List Addr} (okd : Ok K F G H σ ρ) (nw : ∀ a ∈ as, New K F G H σ ρ a) : Ok K F (lk G H as) H σ ρ := by
  refine ⟨okd.sub, fun a o q => ?_, fun a o q => ?_, okd.len, okd.val, fun j y u hj hu => ?_, okd.scr, okd.apar⟩
  · by_cases hm : a ∈ as
    · rw [lk_in hm] at q; exact q
    · rw [lk_out hm] at q; exact okd.gsub _ _ q
  · by_cases hm : a ∈ as
    · exact (nw a hm).f
    · rw [lk_out hm] at q; exact okd.disj _ _ q
  · obtain ⟨w, cs, c1, c2, c3, c4⟩ := okd.hold j y u hj hu
    refine ⟨w, cs, c1, c2, c3, fun a hc => ⟨(c4 a hc).1, ?_⟩⟩
    have hm : a ∉ as := fun z => by
      obtain ⟨w', cs', d1, d2, d3⟩ := (nw a z).s j y u hj hu
      rw [c1] at d1; cases d1
      rw [TrAt.det _ _ _ _ d2 c2] at d3
      exact d3 hc
    rw [lk_out hm]; exact (c4 a hc).2
theorem trs_snoc : ∀ (ts : List Tr) (vs : List V) (as : List Addr) (t : Tr) (v : V) (bs : List Addr), TrsAt K F H ts vs as → TrAt K F H t v bs → TrsAt K F H (ts ++ [t]) (vs ++ [v]) (as ++ bs)
  | [], vs, as, t, v, bs, ⟨h1, h2⟩, h => by
    subst h1 h2
    exact ⟨v, [], bs, [], rfl, by simp, h, rfl, rfl⟩
  | t0 :: ts, vs, as, t, v, bs, ⟨w, ws, a1, a2, h1, h2, h3, h4⟩, h => by
    subst h1 h2
    exact ⟨w, ws ++ [v], a1, a2 ++ bs, rfl, by simp, h3, trs_snoc ts ws a2 t v bs h4 h⟩
end
/-! ### a comprehension that makes own lists -/
/-- what makes a new tree -/
def rdU (K : Kf) (m : M Tr) : TE := fun σ H Q => ∃ F G ρ t ρ', Ok K F G H σ ρ ∧ m ρ = some (t, ρ') ∧ ∀ v F' H', Same F F' → Ok K F' G H' σ ρ' → NewT K F' G H' σ ρ' t v → Q v H'
def lcTL (vs : List Nat) (t : D → Rho → Option Rho) (c : M Bool) (e : M Own) : List D → M (List Tr)
  | [] => ret []
  | x :: xs => fun ρ => match t x ρ with
    | some ρ1 => bnd c (fun k => if k then bnd e fun d => bnd (wipeM vs) fun _ => bnd (lcTL vs t c e xs) fun ds => ret (.f d :: ds) else bnd (wipeM vs) fun _ => lcTL vs t c e xs) ρ1
    | none => none
def lcTM (m : M (List D)) (vs : List Nat) (t : D → Rho → Option Rho) (c : M Bool) (e : M Own) : M Tr := bnd m fun xs => bnd (wipeM vs) fun _ => bnd (lcTL vs t c e xs) fun ds => if fitS ds.length then ret (.l ds) else fun _ => none
section
variable {X : Cx} {elt tg iter e : Expr} {pos : Pos}
theorem lcT_reads {K : Kf} {n : Nat} {vs : List Nat} {m : M (List D)} {t : D → Rho → Option Rho} {mc : M Bool} {me : M Own} {σ : L2.St} {H : Hp} {Q : VK} (hn : σ.length = n) (h : rdU K (lcTM m vs t mc me) σ H Q) : tLc (rdI K m) (rdG K (prC n vs) t) (rdT K mc) (rdN K me) vs σ H Q := by
  obtain ⟨F, G, ρ, b, ρ', ok, hm, q⟩ := h
  obtain ⟨xs, ρ1, h1, h2⟩ := bnd_some hm
  obtain ⟨u, ρ2, h3, h4⟩ := bnd_some h2
  cases h3
  obtain ⟨ds, ρ3, h5, h6⟩ := bnd_some h4
  by_cases hz : fitS ds.length = true
  · rw [if_pos hz] at h6
    cases h6
    have hz := of_decide_eq_true hz
    refine ⟨F, G, ρ, xs, ρ1, ok, h1, fun J F1 H1 s1 ok1 feed Dl hD => ?_⟩
    have gD : G Dl = none := Same.free ok1.gsub hD
    have e0 : ∀ h0 : Hp, lk G h0 [] = G := fun h0 => funext fun a => lk_out (fun z => by cases z)
    refine ⟨fun i k H2 => ∃ F2 ρ2 acc avs rest as H0, k + i = xs.length ∧ Same F1 F2 ∧ Ok K F2 (upd (lk G H0 as) Dl (.lst avs)) H2 (wipe σ vs) (wipeR ρ2 vs) ∧ TrsAt K F2 H0 acc avs as ∧ as.Nodup ∧ Dl ∉ as ∧ (∀ a ∈ as, G a = none) ∧ lcTL vs t mc me (xs.drop i) (wipeR ρ2 vs) = some (rest, ρ') ∧ acc ++ rest = ds,
      ⟨xs.length, F1, ρ1, [], [], ds, [], H1, by omega, Same.refl _, by rw [e0]; exact (ok1.hide hD).wiped, ⟨rfl, rfl⟩, List.nodup_nil, (fun z => by cases z), (fun a z => by cases z), by rw [List.drop_zero]; exact h5, rfl⟩, ?_⟩
    rintro i k H2 ⟨F2, ρ2, acc, avs, rest, as, H0, hk, s2, ok2, racc, nd, nD, nG, h7, hds⟩
    obtain ⟨go, stop⟩ := feed i F2 H2 s2 ok2.sub
    by_cases hlt : i < xs.length
    · obtain ⟨hgo, hy⟩ := go xs[i] (List.getElem?_eq_getElem hlt)
      refine .inr ⟨hgo, fun H' => ∃ F2 ρ2 acc avs rest as H0, Same F1 F2 ∧ Ok K F2 (upd (lk G H0 as) Dl (.lst avs)) H' (wipe σ vs) (wipeR ρ2 vs) ∧ TrsAt K F2 H0 acc avs as ∧ as.Nodup ∧ Dl ∉ as ∧ (∀ a ∈ as, G a = none) ∧ lcTL vs t mc me (xs.drop (i + 1)) (wipeR ρ2 vs) = some (rest, ρ') ∧ acc ++ rest = ds,
        fun H' ⟨F2, ρ2, acc, avs, rest, as, H0, z⟩ => ⟨k - 1, by omega, F2, ρ2, acc, avs, rest, as, H0, by omega, z⟩, fun x H3 y => ?_⟩
      obtain ⟨F3, s3, t3, u3, n3, r3⟩ := hy x H3 y
      have ok3 := ok2.ge s3 t3 u3 n3
      rw [drop_cons hlt] at h7
      have h7 : (match t xs[i] (wipeR ρ2 vs) with
        | some ρ1 => bnd mc (fun k => if k then bnd me fun d => bnd (wipeM vs) fun _ => bnd (lcTL vs t mc me (xs.drop (i + 1))) fun ds => ret (.f d :: ds) else bnd (wipeM vs) fun _ => lcTL vs t mc me (xs.drop (i + 1))) ρ1
        | none => none) = some (rest, ρ') := h7
      split at h7
      · rename_i ρ4 ht
        obtain ⟨kb, ρ5, h8, h9⟩ := bnd_some h7
        refine ⟨F3, _, _, xs[i], ρ4, ok3, r3, ht, fun σ4 F4 H4 s4 ok4 p4 => ⟨wipe_pr hn p4, F4, _, ρ4, kb, ρ5, ok4, h8, fun F5 H5 s5 ok5 => ?_⟩⟩
        have hw : wipe σ4 vs = wipe σ vs := wipe_pr hn p4
        cases kb with
        | false =>
          have h9 : bnd (wipeM vs) (fun _ => lcTL vs t mc me (xs.drop (i + 1))) ρ5 = some (rest, ρ') := h9
          obtain ⟨_, ρ6, h10, h11⟩ := bnd_some h9
          cases h10
          refine iteF ⟨F5, ρ5, acc, avs, rest, as, H0, (s2.trans (s3.trans s4)).trans s5, ?_, racc.mono ((s3.trans s4).trans s5) _ _ _ (fun a _ => rfl), nd, nD, nG, h11, hds⟩
          have := ok5.wiped (vs := vs)
          rw [hw] at this
          exact this
        | true =>
          obtain ⟨d, ρ6, h10, h11⟩ := bnd_some h9
          obtain ⟨_, ρ7, h12, h13⟩ := bnd_some h11
          cases h12
          obtain ⟨ds', ρ8, h14, h15⟩ := bnd_some h13
          cases h15
          refine iteT ⟨F5, _, ρ5, d, ρ6, ok5, h10, fun p F6 H6 s6 ok6 n6 o6 => ?_⟩
          have hl : acc.length + (ds'.length + 1) = ds.length := by rw [← hds, List.length_append, List.length_cons]
          have pD : p ≠ Dl := fun z => by have := n6.g; rw [z, upd_same] at this; cases this
          have pa : p ∉ as := fun z => by
            have := n6.g
            rw [upd_ne pD, lk_in z] at this
            obtain ⟨o, ho⟩ := racc.some _ _ _ p z
            rw [this] at ho; cases ho
          have gp : G p = none := by have := n6.g; rw [upd_ne pD, lk_out pa] at this; exact this
          have st : ∀ a ∈ as, H6 a = H0 a := fun a ha => by
            obtain ⟨o, ho⟩ := racc.some _ _ _ a ha
            exact (ok6.gsub a o (by rw [upd_ne (fun z => nD (by rw [← z]; exact ha)), lk_in ha]; exact ho)).trans ho.symm
          have ok7 := ok6.hideNew (as := [p]) (fun a ha => by rw [List.mem_singleton.mp ha]; exact n6)
          have eg : lk (upd (lk G H0 as) Dl (.lst avs)) H6 [p] = upd (lk G H6 (as ++ [p])) Dl (.lst avs) := funext fun a => by
            by_cases e1 : a = Dl
            · subst e1
              rw [lk_out (fun z => pD (List.mem_singleton.mp z).symm), upd_same, upd_same]
            · rw [upd_ne e1]
              by_cases e2 : a = p
              · subst e2
                rw [lk_in List.mem_cons_self, lk_in (List.mem_append_right _ List.mem_cons_self)]
              · rw [lk_out (fun z => e2 (List.mem_singleton.mp z)), upd_ne e1]
                by_cases e3 : a ∈ as
                · rw [lk_in e3, lk_in (List.mem_append_left _ e3), st a e3]
                · rw [lk_out e3, lk_out (fun z => (List.mem_append.mp z).elim e3 fun y => e2 (List.mem_singleton.mp y))]
          rw [eg] at ok7
          have racc' := racc.mono (((s3.trans s4).trans s5).trans s6) _ _ _ st
          refine ⟨avs, ok6.gsub _ _ upd_same, by rw [trs_len _ _ _ racc]; omega, F6, ρ6, acc ++ [.f d], avs ++ [.ref p], ds', as ++ [p], H6, ((s2.trans (s3.trans s4)).trans s5).trans s6, ?_, trs_snoc acc avs as (.f d) (.ref p) [p] racc' ⟨p, rfl, rfl, o6⟩, ?_, ?_, ?_, h14, by rw [List.append_assoc]; exact hds⟩
          · have := ok7.wiped (vs := vs)
            rw [hw] at this
            exact this.ghost
          · exact List.nodup_append.mpr ⟨nd, List.pairwise_singleton _ _, fun a ha b hb z => pa (by rw [List.mem_singleton.mp hb] at z; rw [← z]; exact ha)⟩
          · exact fun z => (List.mem_append.mp z).elim nD fun y => pD (List.mem_singleton.mp y).symm
          · exact fun a ha => (List.mem_append.mp ha).elim (nG a) fun y => by rw [List.mem_singleton.mp y]; exact gp
      · cases h7
    · have e : i = xs.length := by omega
      subst e
      rw [List.drop_of_length_le (Nat.le_refl _)] at h7
      cases h7
      rw [List.append_nil] at hds
      subst hds
      obtain ⟨ok4, n4⟩ := ok2.unwiped.unhide (by rw [lk_out nD]; exact gD)
      have hsome := racc.some _ _ _
      obtain ⟨ok5, st, nw⟩ := ok4.unlock hsome nG
      have racc' := racc.mono (Same.refl F2) _ _ _ st
      refine .inl ⟨stop rfl, q _ F2 H2 (s1.trans s2) ok5 ⟨Dl :: as, ⟨Dl, avs, as, rfl, rfl, ok2.gsub _ _ upd_same, racc'⟩, List.nodup_cons.mpr ⟨nD, nd⟩, fun a ha => ?_⟩⟩
      rcases List.mem_cons.mp ha with z | z
      · rw [z]; exact ⟨n4.f, gD, n4.s⟩
      · exact nw a z
  · rw [if_neg hz] at h6
    cases h6
def setTM (i : Nat) (m : M Tr) : MS := bnd m fun t => fun ρ => some (.nx, ρ.set i (.t t))
/-- y = [.. for ..], y a local, of own lists -/
theorem s_setLcT (i : Nat) {y : Str} {py : Pos} {ifs : List Expr} {scope : Scope} {n : Nat} {pr vs : List Nat} {m : M (List D)} {t : D → Rho → Option Rho} {mc : M Bool} {me : M Own} {spos : Pos} (hp : i ∉ pr) (own : List (Str × Nat)) (hvs : own.map (·.2) = vs) (hNl : X.N.length = n) (hc : X.calm = true) (hN : X.N.Nodup) (hy : X.N[i]? = some y) (hyl : X.env.scope.names.lookup y = some .local)
    (hsw : swapsWith (.ListComp elt [⟨tg, iter, ifs, 0⟩] scope pos) (some (.Name y py)) spos.line X.env = pure true) (hi : PI X tg iter (rdI X.K m)) (ok : BlkOk X.N X.env.scope scope own)
    (hg : ∀ (s : Shared) (H : Hp) (C : Addr) (cl : List (Str × Addr)) (fp : List Addr), PG (X.blk s H scope (compEnvC scope cl C X.env) fp) tg (rdG X.K (prC n vs) t)) (ht : ∀ (s : Shared) (H : Hp) (C : Addr) (cl : List (Str × Addr)) (fp : List Addr), PTs (X.blk s H scope (compEnvC scope cl C X.env) fp) ifs (rdT X.K mc))
    (he : ∀ (s : Shared) (H : Hp) (C : Addr) (cl : List (Str × Addr)) (fp : List Addr), PE (X.blk s H scope (compEnvC scope cl C X.env) fp) elt (rdN X.K me)) (hs : ∀ x, foldedSetIterable iter X.env x = pure x := by intro _; rfl) :
    PS X (.Assign [.Name y py] (.ListComp elt [⟨tg, iter, ifs, 0⟩] scope pos) spos) (rdS X.K pr (setTM i (lcTM m vs t mc me))) := by
  subst hvs hNl
  refine ps_impL (ps_setLc hc hN hy hyl hsw hi ok hg ht he hs) fun E σ H hl h => ?_
  obtain ⟨F, G, ρ, fl, ρ', ok, hm, w⟩ := h
  obtain ⟨b, ρ1, h1, h2⟩ := bnd_some hm
  cases h2
  exact lcT_reads hl ⟨F, G, ρ, b, ρ1, ok, h1, fun v F1 H1 s1 ok1 n1 => w _ F1 H1 s1 (ok1.putT (fun d e => nomatch e) (fun t' e => by cases e; exact n1) (fun ns e => nomatch e)) (Pr.set hp)⟩
end
/-! ### a tree read by its name -/
/-- all of it becomes data -/
def getTM (i : Nat) : M D := fun ρ => match ρ[i]? with
  | some (.t t) => (match toD t with
    | some d => some (d, ρ.set i (.v d))
    | none => none)
  | _ => getM i ρ
def lenTM (i : Nat) : M D := fun ρ => match ρ[i]? with
  | some (.t (.l ts)) => some (.int ts.length, ρ)
  | some (.v (.list ds)) => some (.int ds.length, ρ)
  | _ => none
end Fx
/-! Fx: places in a list of own lists -/
namespace Fx
open PySem PySem.Spec PyProof.Rows L2
variable [Wd]
section
variable {X : Cx} {e o : Expr} {es : List Expr} {pos apos px p2 : Pos} {i : Nat} {x : Str}
theorem v_nameT (i : Nat) {x : Str} {pos : Pos} (hN : X.N[i]? = some x := by rfl) (hv : Vis X.env.scope x := by first | exact Or.inl rfl | exact Or.inr (Or.inl rfl) | exact Or.inr (Or.inr rfl)) (hd : (x == ("__debug__" : Str)) = false := by decide)
    (hcd : (x == ("__classdict__" : Str)) = false := by decide) : PE X (.Name x pos) (rdV X.K (getTM i)) := by
  refine pe_imp (pe_lock (pe_var hN hv hd hcd)) fun σ H Q h => ?_
  obtain ⟨F, G, ρ, d, ρ', ok, hm, q⟩ := h
  unfold getTM at hm
  split at hm
  · rename_i t e
    split at hm
    · rename_i d' hd'
      cases hm
      obtain ⟨v, F', h1, h2, h3, h4⟩ := ok.freezeTree e rfl hd'
      exact ⟨v, h1, .inl (q _ F' H h2 h3 h4)⟩
    · cases hm
  · unfold getM at hm
    split at hm
    · rename_i d' e
      cases hm
      obtain ⟨v, h1, h2⟩ := ok.val i _ e
      exact ⟨v, h1, .inl (q v F H (Same.refl F) ok h2)⟩
    · rename_i xs e
      cases hm
      obtain ⟨p, F', h1, h2, h3, h4⟩ := ok.freezeAt e
      exact ⟨_, h1, .inl (q _ F' H h2 h3 h4)⟩
    · rename_i kvs e
      cases hm
      obtain ⟨p, u, h1, h2, h3, h4⟩ := ok.lockAt e
      refine ⟨_, h1, .inr ⟨p, u, rfl, h2, h3, fun od => ?_⟩⟩
      obtain ⟨F', e1, ok1, r1⟩ := h4 od
      exact q _ F' _ e1 ok1 r1
    · cases hm
theorem v_lenT (i : Nat) {x f : Str} {pos p px : Pos} (hc : X.calm = true) (hg : Gl X f) (hm : X.mg f = none) (hb : bootBuiltins f = some (.builtin "len")) (hN : X.N[i]? = some x := by rfl) (hv : Vis X.env.scope x := by first | exact Or.inl rfl | exact Or.inr (Or.inl rfl) | exact Or.inr (Or.inr rfl)) (hd : (x == ("__debug__" : Str)) = false := by decide)
    (hcd : (x == ("__classdict__" : Str)) = false := by decide) (hn : f ≠ "__name__" := by decide) (hdb : (f == ("__debug__" : Str)) = false := by decide)
    (he : starEach (.Name x px :: []) X.env = (false, eval (.Name x px) X.env) :: starEach [] X.env := by rfl) (hpl : (backTo pos (starEach [] X.env)).any (·.1) = false := by rfl) : PE X (.Call (.Name f p) [.Name x px] [] pos) (rdV X.K (lenTM i)) := by
  refine pe_imp (pe_callB (call_lenG (X := X)) hg hm hb (pa_cons (pe_var (i := i) hN hv hd hcd) pa_nil he) hn hdb he hpl) fun σ H Q h => ?_
  obtain ⟨F, G, ρ, d, ρ', ok, hm, q⟩ := h
  unfold lenTM at hm
  split at hm
  · rename_i ts e
    cases hm
    obtain ⟨v, as, h1, ⟨p, vs, bs, rfl, rfl, h4, h5⟩, h3, _⟩ := ok.hold i _ _ e rfl
    refine ⟨.ref p, h1, .inl ⟨_, vs.length, rfl, .inl ⟨vs, SqL.of h4, rfl⟩, ?_⟩⟩
    have := trs_len _ _ _ h5
    rw [this]
    exact q _ F H (Same.refl F) ok rfl
  · rename_i ds e
    cases hm
    obtain ⟨v, h1, h2⟩ := ok.val i _ e
    obtain ⟨p, vs, rfl, h3, h4⟩ := h2
    refine ⟨.ref p, h1, .inl ⟨_, vs.length, rfl, .inl ⟨vs, SqL.of (ok.sub _ _ h3), rfl⟩, ?_⟩⟩
    rw [h4.length]
    exact q _ F H (Same.refl F) ok rfl
  · cases hm
/-- slot i holds a tree -/
def ownTM (i : Nat) : M Unit := fun ρ => match ρ[i]? with
  | some (.t _) => some ((), ρ)
  | _ => none
theorem ownT_some {i : Nat} {ρ ρ' : Rho} {u : Unit} (h : ownTM i ρ = some (u, ρ')) : ρ' = ρ ∧ ∃ t, ρ[i]? = some (.t t) := by
  unfold ownTM at h
  split at h
  · rename_i b hb
    cases h
    exact ⟨rfl, b, hb⟩
  · cases h
/-- what stands behind the receiver's way -/
theorem place_run {K : Kf} {m : M D} {F G H : Hp} {σ : L2.St} {ρ ρ1 : Rho} {k : D} {t0 t : Tr} {ns : List Nat} {b : Own} {Q : VK} (ok : Ok K F G H σ ρ) (h0 : ρ[i]? = some (.t t0)) (hm : m ρ = some (k, ρ1)) (h1 : ∃ y, ρ1[i]? = some y ∧ y.tr = some t) (hl : leafAt t [k] = some (ns, b))
    (q : ∀ (u v : V) (as : List Addr) (F1 H1 : Hp), Same F F1 → Ok K F1 G H1 σ ρ1 → σ[i]? = some (some v) → TrAt K F1 H1 t v as → as.Nodup → AtP H1 v ns u → (∃ p, u = .ref p ∧ OwnAt K F1 H1 p b) → Q u H1) : tPth K i [m] σ H Q := by
  obtain ⟨v0, as0, g1, g2, _, _⟩ := ok.hold i _ _ h0 rfl
  refine ⟨v0, g1, F, G, ρ, k, ρ1, ok, hm, fun y F1 H1 s1 ok1 r1 => ?_⟩
  obtain ⟨y1, h1, hy1⟩ := h1
  obtain ⟨v, as, e1, e2, e3, e4⟩ := ok1.hold i _ _ h1 hy1
  rw [g1] at e1; cases e1
  obtain ⟨hi, hs⟩ := leafAt_some hl
  obtain ⟨ms, ts, kk, j, f1, f2, rfl, f4, ⟨u1, f5⟩, rfl⟩ := idxs_snoc t [] k ns hi
  have : ms = [] := by cases t <;> (simp [idxs] at f1; exact f1)
  subst this
  have : t = .l ts := by cases t <;> (simp [subTr] at f2; try exact f2) <;> (rw [f2])
  subst this
  cases (show y = V.int kk from r1)
  obtain ⟨u, cs, q1, ⟨p, z1, z2, z3⟩, q3, q4, q5⟩ := tr_place _ _ _ _ _ e2 e3 hs
  obtain ⟨pp, vs, bs, c1, c2, c3, c4⟩ := e2
  subst c1
  have hlen := trs_len _ _ _ c4
  have hjl : j < vs.length := by rw [hlen]; exact (List.getElem?_eq_some_iff.mp f5).1
  have at1 : AtP H1 (.ref pp) [j] vs[j] := .cons c3 (List.getElem?_eq_getElem hjl) (.nil _)
  have eu := AtP.det at1 q1
  refine ⟨pp, vs, kk, vs[j], rfl, rfl, SqL.of c3, ?_, ?_⟩
  · unfold atI
    rw [hlen, f4]
    exact List.getElem?_eq_getElem hjl
  · exact q _ _ as F1 H1 s1 ok1 g1 ⟨pp, vs, bs, rfl, c2, c3, c4⟩ e3 at1 ⟨p, by rw [eu]; exact z1, z3⟩
/-- x[m].append(e) -/
def pushP (t : Tr) (k : D) (i : Nat) (d : D) : M D := fun ρ => match leafAt t [k] with
  | some (ns, .lst xs) => if decide (xs.length < sizeLine) then some (.none, ρ.set i (.t (setTr t ns (.f (.lst (xs ++ [d])))))) else none
  | _ => none
def appPM (i : Nat) (m me : M D) : M D := bnd (ownTM i) fun _ => bnd m fun k => bnd (lockM i me) fun td => pushP td.1 k i td.2
theorem v_appP (i : Nat) {x : Str} {ix e : Expr} {px p2 apos pos : Pos} {m me : M D} (hm : PE X ix (rdV X.K m)) (he : PE X e (rdV X.K me)) (hN : X.N[i]? = some x := by rfl) (hv : Vis X.env.scope x := by first | exact Or.inl rfl | exact Or.inr (Or.inl rfl) | exact Or.inr (Or.inr rfl)) (hd : (x == ("__debug__" : Str)) = false := by decide)
    (hcd : (x == ("__classdict__" : Str)) = false := by decide) (hpi : PlainIx ix := by exact fun _ _ => rfl)
    (hbase : attributeBase (.Subscript (.Name x px) ix p2) "append" X.env (eval (.Subscript (.Name x px) ix p2) X.env) = eval (.Subscript (.Name x px) ix p2) X.env := by rfl)
    (hfew : ((backTo pos (starEach (e :: []) X.env)).all (fun x => !x.1) && (backToKw pos (keywordEach [] X.env)).all (fun x => x.1.isSome)
      && decide ((e :: []).length + ([] : List Keyword).length + (if ([] : List Keyword).isEmpty then 0 else 1) < 30)) = true := by rfl)
    (hline : (apos.endLine == pos.line) = true := by rfl) (hs : starEach (e :: []) X.env = (false, eval e X.env) :: starEach [] X.env := by rfl) (hplain : (backTo pos (starEach [] X.env)).any (·.1) = false := by rfl) :
    PE X (.Call (.Attribute (.Subscript (.Name x px) ix p2) "append" apos) [e] [] pos) (rdV X.K (appPM i m me)) := by
  refine pe_imp (pe_bm PySem.F.plainAttrs_list PySem.F.slot_list_append PySem.F.type_list_append mt_append (p_ix (p_name i hN hv hd hcd) hm hpi) (pa_cons he pa_nil hs) hbase hfew hline hs hplain) fun σ H Q h => ?_
  obtain ⟨F, G, ρ, d, ρ', ok, hm, q⟩ := h
  obtain ⟨u, ρ1, h1, h2⟩ := bnd_some hm
  obtain ⟨rfl, t0, hx⟩ := ownT_some h1
  obtain ⟨k, ρ2, h3, h4⟩ := bnd_some h2
  obtain ⟨⟨t, y⟩, ρ3, h5, h6⟩ := bnd_some h4
  obtain ⟨sx, e1, e2, e3, e4, e5⟩ := lockM_some h5
  have h6 : pushP t k i y ρ3 = some (d, ρ') := h6
  unfold pushP at h6
  split at h6
  · rename_i ns xs hl
    split at h6
    · rename_i hlt
      cases h6
      refine place_run ok hx h3 ⟨sx, e1, e2⟩ hl fun u v as F1 H1 s1 ok1 hs1 ha nd at1 hp => ?_
      obtain ⟨p, rfl, vs, g1, g2⟩ := hp
      have hG := fun a h => (ok1.fp (K' := X.K) e1 e2 hs1 ha).2 a h
      refine ⟨.inl ⟨rfl, vs, SqL.of g1⟩, F1, _, _, y, ρ3, ok1.lock e1 e2 hs1 ha, e3, fun v2 F2 H2 s2 ok2 r2 => ?_⟩
      obtain ⟨p', z1, ⟨ws, z2, z3⟩, z4⟩ := ok2.leafTurn s2 ha nd (fun a h => (hG a h).2) hs1 e5 (leafAt_some hl).2 at1
      cases z1
      refine ⟨p, ws, v2, rfl, rfl, z2, by rw [z3.length]; exact of_decide_eq_true hlt, ?_⟩
      exact q .non F2 _ (s1.trans s2) (z4 _ _ ⟨_, upd_same, z3.append ⟨v2, [], rfl, r2, rfl⟩⟩) rfl
    · cases h6
  · cases h6
end
section
variable {X : Cx} {elt tg iter e : Expr} {pos : Pos} {pr : List Nat}
theorem n_lcT {ifs : List Expr} {scope : Scope} {n : Nat} {vs : List Nat} {m : M (List D)} {t : D → Rho → Option Rho} {mc : M Bool} {me : M Own} (own : List (Str × Nat)) (hvs : own.map (·.2) = vs) (hNl : X.N.length = n) (hc : X.calm = true) (hN : X.N.Nodup) (hi : PI X tg iter (rdI X.K m)) (ok : BlkOk X.N X.env.scope scope own)
    (hg : ∀ (s : Shared) (H : Hp) (C : Addr) (cl : List (Str × Addr)) (fp : List Addr), PG (X.blk s H scope (compEnvC scope cl C X.env) fp) tg (rdG X.K (prC n vs) t)) (ht : ∀ (s : Shared) (H : Hp) (C : Addr) (cl : List (Str × Addr)) (fp : List Addr), PTs (X.blk s H scope (compEnvC scope cl C X.env) fp) ifs (rdT X.K mc))
    (he : ∀ (s : Shared) (H : Hp) (C : Addr) (cl : List (Str × Addr)) (fp : List Addr), PE (X.blk s H scope (compEnvC scope cl C X.env) fp) elt (rdN X.K me)) (hs : ∀ x, foldedSetIterable iter X.env x = pure x := by intro _; rfl) :
    PE X (.ListComp elt [⟨tg, iter, ifs, 0⟩] scope pos) (rdU X.K (lcTM m vs t mc me)) := by
  subst hvs hNl
  exact pe_impL (pe_lc hc hN hi ok hg ht he hs) fun σ H Q hl h => lcT_reads hl h
theorem s_setT (i : Nat) {x : Str} {m : M Tr} {pos' : Pos} (hp : i ∉ pr) (hN : X.N.Nodup) (hi : X.N[i]? = some x) (hx : Loc X.env.scope x) (he : PE X e (rdU X.K m)) (hs : swapsWith e (some (.Name x pos')) pos.line X.env = pure false := by rfl) (hf : X.fn x = true ∨ X.env.scope.names.lookup x = some .local := by first | exact .inl rfl | exact .inr rfl | assumption) :
    PS X (.Assign [.Name x pos'] e pos) (rdS X.K pr (setTM i m)) := ps_imp (ps_set hN hi hx he hs hf) fun E σ H h => by
  obtain ⟨F, G, ρ, fl, ρ', ok, hm, w⟩ := h
  obtain ⟨b, ρ1, h1, h2⟩ := bnd_some hm
  cases h2
  exact ⟨F, G, ρ, b, ρ1, ok, h1, fun v F1 H1 s1 ok1 n1 => w _ F1 H1 s1 (ok1.putT (fun d e => nomatch e) (fun t' e => by cases e; exact n1) (fun ns e => nomatch e)) (Pr.set hp)⟩
end
end Fx
/-! Fx: preconditions for lists of own lists -/
namespace Fx
open PySem PySem.Spec PyProof.Rows L2
variable [Wd]
/-- own rows -/
def rowsT (xss : List (List D)) : Tr := .l (xss.map fun xs => .f (.lst xs))
theorem rowsT_snoc (xss : List (List D)) (xs : List D) : (xss ++ [xs]).map (fun xs => Tr.f (.lst xs)) = xss.map (fun xs => Tr.f (.lst xs)) ++ [.f (.lst xs)] := by rw [List.map_append]; rfl
theorem toDs_rows : ∀ xss : List (List D), toDs (xss.map fun xs => Tr.f (.lst xs)) = some (xss.map PyData.list)
  | [] => rfl
  | xs :: xss => by
    rw [List.map_cons, List.map_cons]
    unfold toDs
    rw [toDs_rows xss]
    rfl
theorem toD_rows (xss : List (List D)) : toD (rowsT xss) = some (.list (xss.map PyData.list)) := by
  show (toDs (xss.map fun xs => Tr.f (.lst xs))).map PyData.list = _
  rw [toDs_rows]; rfl
variable {ρ : Rho}
theorem wp_getT {i : Nat} {xss : List (List D)} {Q : D → Rho → Prop} (e : ρ[i]? = some (.t (rowsT xss))) (h : Q (.list (xss.map PyData.list)) (ρ.set i (.v (.list (xss.map PyData.list))))) : wp (getTM i) ρ Q := ⟨_, _, by unfold getTM; rw [e]; dsimp only; rw [toD_rows], h⟩
theorem wp_getTv {i : Nat} {d : D} {Q : D → Rho → Prop} (e : ρ[i]? = some (.v d)) (h : Q d ρ) : wp (getTM i) ρ Q := ⟨_, _, by unfold getTM; rw [e]; dsimp only; unfold getM; rw [e], h⟩
theorem wp_lenT {i : Nat} {xss : List (List D)} {Q : D → Rho → Prop} (e : ρ[i]? = some (.t (rowsT xss))) (h : Q (.int xss.length) ρ) : wp (lenTM i) ρ Q := ⟨_, _, by unfold lenTM; rw [e]; unfold rowsT; dsimp only; rw [List.length_map], h⟩
theorem wp_lenTv {i : Nat} {ds : List D} {Q : D → Rho → Prop} (e : ρ[i]? = some (.v (.list ds))) (h : Q (.int ds.length) ρ) : wp (lenTM i) ρ Q := ⟨_, _, by unfold lenTM; rw [e], h⟩
theorem wp_setT {i : Nat} {m : M Tr} {Q : Fl → Rho → Prop} (h : wp m ρ fun b ρ1 => Q .nx (ρ1.set i (.t b))) : wp (setTM i m) ρ Q := by
  obtain ⟨d, ρ1, h1, q⟩ := h
  exact ⟨_, _, (bnd_eq h1).trans rfl, q⟩
theorem wp_lcUM {m : M (List D)} {vs : List Nat} {t : D → Rho → Option Rho} {c : M Bool} {e : M Own} {Q : Tr → Rho → Prop} (h : wp m ρ fun xs ρ1 => wp (lcTL vs t c e xs) (wipeR ρ1 vs) fun ds ρ2 => fitS ds.length = true ∧ Q (.l ds) ρ2) : wp (lcTM m vs t c e) ρ Q := by
  refine wp_bnd (wp_mono h fun xs ρ1 q => wp_bnd ⟨_, _, rfl, wp_bnd (wp_mono q fun ds ρ2 q => ?_)⟩)
  rw [if_pos q.1]
  exact wp_ret q.2
/-- rows, made one by one -/
theorem wp_lcU {xs : List D} {vs : List Nat} {t : D → Rho → Option Rho} {e : M Own} {Q : List Tr → Rho → Prop} (I : Nat → List (List D) → Rho → Prop) (h0 : I 0 [] ρ)
    (hs : ∀ (i : Nat) (x : D) (acc : List (List D)) (ρ : Rho), xs[i]? = some x → acc.length = i → I i acc ρ → ∃ ρ1, t x ρ = some ρ1 ∧ wp e ρ1 fun b ρ3 => ∃ ys, b = .lst ys ∧ I (i + 1) (acc ++ [ys]) (wipeR ρ3 vs))
    (hd : ∀ acc ρ, acc.length = xs.length → I xs.length acc ρ → Q (acc.map fun xs => Tr.f (.lst xs)) ρ) : wp (lcTL vs t (ret true) e xs) ρ Q := by
  suffices key : ∀ (ys : List D) (j : Nat) (acc : List (List D)) (ρ : Rho), xs.drop j = ys → j ≤ xs.length → acc.length = j → I j acc ρ → wp (lcTL vs t (ret true) e ys) ρ fun ds ρ' => Q (acc.map (fun xs => Tr.f (.lst xs)) ++ ds) ρ' by
    have := key xs 0 [] ρ rfl (Nat.zero_le _) rfl h0
    exact this
  intro ys
  induction ys with
  | nil =>
    intro j acc ρ hj hl ha hI
    have e : j = xs.length := by
      have := congrArg List.length hj
      rw [List.length_drop] at this
      simp at this
      omega
    subst e
    exact wp_ret (by rw [List.append_nil]; exact hd acc ρ ha hI)
  | cons y ys ih =>
    intro j acc ρ hj hl ha hI
    have hlt : j < xs.length := by
      have := congrArg List.length hj
      rw [List.length_drop, List.length_cons] at this
      omega
    have hy : xs[j]? = some y ∧ xs.drop (j + 1) = ys := by
      rw [List.drop_eq_getElem_cons hlt] at hj
      injection hj with a b
      exact ⟨by rw [List.getElem?_eq_getElem hlt, a], b⟩
    obtain ⟨ρ1, ht, hw⟩ := hs j y acc ρ hy.1 ha hI
    have hw2 := wp_mono (Q' := fun b ρ3 => wp (bnd (wipeM vs) fun _ => bnd (lcTL vs t (ret true) e ys) fun ds => ret (Tr.f b :: ds)) ρ3 fun ds ρ' => Q (acc.map (fun xs => Tr.f (.lst xs)) ++ ds) ρ') hw fun b ρ3 q => by
      obtain ⟨zs, rfl, q⟩ := q
      refine wp_bnd ⟨_, _, rfl, wp_bnd (wp_mono (ih (j + 1) (acc ++ [zs]) _ hy.2 (by omega) (by rw [List.length_append, ha]; rfl) q) fun ds ρ' q => wp_ret ?_)⟩
      rw [rowsT_snoc, List.append_assoc] at q
      exact q
    obtain ⟨ds, ρ', g1, g2⟩ := (show wp (bnd (ret true) fun k => if k then bnd e fun d => bnd (wipeM vs) fun _ => bnd (lcTL vs t (ret true) e ys) fun ds => ret (Tr.f d :: ds) else bnd (wipeM vs) fun _ => lcTL vs t (ret true) e ys) ρ1 _ from wp_bnd (wp_ret (by rw [if_pos rfl]; exact wp_bnd hw2)))
    refine ⟨ds, ρ', ?_, g2⟩
    show (match t y ρ with
      | some ρ1 => bnd (ret true) (fun k => if k then bnd e fun d => bnd (wipeM vs) fun _ => bnd (lcTL vs t (ret true) e ys) fun ds => ret (Tr.f d :: ds) else bnd (wipeM vs) fun _ => lcTL vs t (ret true) e ys) ρ1
      | none => none) = _
    rw [ht]
    exact g1
/-- x[m].append(e) -/
theorem wp_appP {i : Nat} {m me : M D} {Q : D → Rho → Prop} {t0 : Tr} (e : ρ[i]? = some (.t t0)) (h : wp m ρ fun k ρ1 => ∃ (xss : List (List D)) (j : Nat) (xs : List D), k = .int (j : Nat) ∧ xss[j]? = some xs ∧ ρ1[i]? = some (.t (rowsT xss)) ∧ wp me (ρ1.set i .u) fun d ρ2 => ρ2.length = ρ1.length ∧ ρ2[i]? = some .u ∧ xs.length < sizeLine ∧ Q .none (ρ2.set i (.t (rowsT (xss.set j (xs ++ [d])))))) : wp (appPM i m me) ρ Q := by
  refine wp_bnd ⟨(), ρ, by unfold ownTM; rw [e], wp_bnd (wp_mono h fun k ρ1 q => ?_)⟩
  obtain ⟨xss, j, xs, rfl, hj, hρ, d, ρ2, h1, h2, h3, h4, h5⟩ := q
  have hjl : j < xss.length := (List.getElem?_eq_some_iff.mp hj).1
  have hix : ixN (xss.map fun xs => Tr.f (.lst xs)).length (j : Int) = some j := by
    rw [List.length_map]
    unfold ixN
    first
      | (rw [if_pos (by omega)]; simp; done)
      | (simp; omega)
  have hg : (xss.map fun xs => Tr.f (.lst xs))[j]? = some (.f (.lst xs)) := by rw [List.getElem?_map, hj]; rfl
  have hi : idxs (rowsT xss) [.int (j : Nat)] = some [j] := by
    show (match ixN (xss.map fun xs => Tr.f (.lst xs)).length ((j : Nat) : Int) with
      | some j => (match (xss.map fun xs => Tr.f (.lst xs))[j]? with
        | some t => (idxs t []).map (j :: ·)
        | none => none)
      | none => none) = _
    rw [hix]; dsimp only; rw [hg]; rfl
  have hsub : subTr (rowsT xss) [j] = some (.f (.lst xs)) := by
    show (match (xss.map fun xs => Tr.f (.lst xs))[j]? with
      | some u => subTr u []
      | none => none) = _
    rw [hg]; rfl
  have hset : setTr (rowsT xss) [j] (.f (.lst (xs ++ [d]))) = rowsT (xss.set j (xs ++ [d])) := by
    show (match (xss.map fun xs => Tr.f (.lst xs))[j]? with
      | some u => Tr.l ((xss.map fun xs => Tr.f (.lst xs)).set j (setTr u [] (.f (.lst (xs ++ [d])))))
      | none => .l (xss.map fun xs => Tr.f (.lst xs))) = _
    rw [hg]
    show Tr.l ((xss.map fun xs => Tr.f (.lst xs)).set j (.f (.lst (xs ++ [d])))) = .l ((xss.set j (xs ++ [d])).map fun xs => Tr.f (.lst xs))
    rw [List.map_set]
  have hl : leafAt (rowsT xss) [.int (j : Nat)] = some ([j], .lst xs) := by
    unfold leafAt
    rw [hi]; dsimp only; rw [hsub]
  have hk : lockM i me ρ1 = some ((rowsT xss, d), ρ2) := by
    unfold lockM
    rw [hρ]
    dsimp only [Sl.tr]
    rw [h1]; dsimp only; rw [if_pos h2, h3]
  refine wp_bnd ⟨_, _, hk, ?_⟩
  refine ⟨_, _, ?_, h5⟩
  show pushP (rowsT xss) (.int (j : Nat)) i d ρ2 = _
  unfold pushP
  rw [hl]
  dsimp only
  rw [if_pos (decide_eq_true h4), hset]
end Fx
/-! Fx: count and index of lists and tuples -/
namespace Fx
open PySem PySem.Spec PyProof.Rows L2
variable [Wd]
section
variable {X : Cx}
def rCountD (K : PySem.W.Frag) (T : String) : V → List V → Hp → VK → Prop := fun x xs H Q => ∃ (a : Addr) (y : V) (d : PyData) (ds : List PyData), x = V.ref a ∧ xs = [y] ∧ (if T = "list" then Dp K H (V.ref a) (.list ds) else Dp K H (V.ref a) (.tuple ds)) ∧ Dp K H y d ∧
  PyData.canLayAll0 ds = true ∧ SeqAt.shaped d = true ∧ Q (.int ((ds.countP fun z => PyData.eqv z d : Nat) : Int)) H
theorem count_read {h : Heap} {ds : List PyData} {its : List Value} {d : PyData} (hmap : its.map (SeqAt.readOf h) = ds) : its.toArray.toList.countP (fun u => PyData.eqv (SeqAt.readOf h u) d) = ds.countP fun z => PyData.eqv z d := by
  rw [← hmap, List.countP_map]
  simp [Function.comp_def]
theorem mt_lcountD (hu : X.A.units + 65 < cLine) : MtR X "list.count" (rCountD X.K "list") := by
  intro pins s σ H x xs v us Q I rx rxs h
  obtain ⟨a, y, d, ds, rfl, rfl, hl, hy, hxs, sd, q⟩ := h
  rw [if_pos rfl] at hl
  cases rx
  cases rxs with
  | cons ry rt =>
    rename_i uy ut
    cases rt
    obtain ⟨bs, r1⟩ := Dp.reads I d y uy hy ry
    have hroom : X.A.units + 1 + min (PyData.depthAll ds) d.depth < cLine := room_in_shaped sd hu
    cases hl with
    | lst hs ha =>
      obtain ⟨its, rv, ⟨⟨cls, dd, data, sls⟩, n, ho, hc, hdn, hdt⟩, hlen⟩ := I.list hs
      simp only at hc hdt
      subst hc hdt
      obtain ⟨as, h4⟩ := Dp.readsAll I ds _ its ha rv
      have hmap : its.map (SeqAt.readOf s.heap) = ds := SeqAt.readsAll_map ds its as hxs h4
      refine call_meets PySem.F.slot_list_count ⟨_, ho, rfl⟩ PySem.F.entry_list_count (PySem.F.args_list_count_2 _ _)
        (SeqAt.list_countAt a its.toArray n dd sls uy (fun u => PyData.eqv (SeqAt.readOf s.heap u) d)) ⟨ho, SeqAt.items_eqAt (vs := its.toArray) (show ReadsAll s.heap its.toArray.toList ds as from h4) r1 hxs (SeqAt.canLay_of_shaped sd) hroom, ?_⟩
      rw [count_read hmap]
      exact ⟨.int _, H, I.tok _, ⟨_, rfl⟩, q⟩
end
def cntFit (xs : List D) (y : D) : Bool := PyData.canLayAll0 xs && SeqAt.shaped y
def countD : D → D → Option D
  | .list xs, y => if cntFit xs y then some (.int ((xs.countP fun z => PyData.eqv z y : Nat) : Int)) else none
  | .tuple xs, y => if cntFit xs y then some (.int ((xs.countP fun z => PyData.eqv z y : Nat) : Int)) else none
  | _, _ => none
/-- the first place of an equal one -/
def placeOf (y : D) : List D → Option Nat
  | [] => none
  | x :: xs => if PyData.eqv x y then some 0 else (placeOf y xs).map (· + 1)
theorem placeOf_ok {y : D} : ∀ {xs : List D} {j : Nat}, placeOf y xs = some j → ∃ z, xs[j]? = some z ∧ PyData.eqv z y = true ∧ ∀ (m : Nat) (z' : D), m < j → xs[m]? = some z' → PyData.eqv z' y = false
  | [], _, h => by cases h
  | x :: xs, j, h => by
    unfold placeOf at h
    split at h
    · rename_i e
      cases h
      exact ⟨x, rfl, e, fun m z' hm => by omega⟩
    · rename_i e
      obtain ⟨k, hk, rfl⟩ := Option.map_eq_some_iff.mp h
      obtain ⟨z, h1, h2, h3⟩ := placeOf_ok hk
      refine ⟨z, by simpa using h1, h2, fun m z' hm hz => ?_⟩
      cases m with
      | zero => simp at hz; subst hz; simpa using e
      | succ m => exact h3 m z' (by omega) (by simpa using hz)
def indexLD : D → D → Option D
  | .list xs, y => if SeqAt.shaped (.list xs) && SeqAt.shaped y then (placeOf y xs).map fun j => .int (j : Nat) else none
  | _, _ => none
section
variable {X : Cx} {a b e : Expr} {m ma mb : M Rf} {pos : Pos}
theorem pe_or {t t' : TE} (h : PE X e t) (h' : PE X e t') : PE X e (fun σ H Q => t σ H Q ∨ t' σ H Q) := ⟨fun pins s σ H Q I q => q.elim (fun z => h.run pins s σ H Q I z) fun z => h'.run pins s σ H Q I z⟩
def idxM (ma mb : M Rf) : M D := bnd ma fun r => fun ρ1 => match look ρ1 r with
  | some (.list _) => (bnd mb fun s => fun ρ2 => match look ρ2 r, look ρ2 s with
    | some x, some y => (indexLD x y).map fun z => (z, ρ2)
    | _, _ => none) ρ1
  | some (.str _) => (bnd mb fun s => fun ρ2 => match look ρ2 r, look ρ2 s with
    | some x, some y => (indexD x y).map fun z => (z, ρ2)
    | _, _ => none) ρ1
  | _ => none
theorem idxM_some {ma mb : M Rf} {ρ ρ' : Rho} {z : D} (h : idxM ma mb ρ = some (z, ρ')) : ∃ r ρ1 s x y x0, ma ρ = some (r, ρ1) ∧ look ρ1 r = some x0 ∧ mb ρ1 = some (s, ρ') ∧ look ρ' r = some x ∧ look ρ' s = some y ∧ ((∃ xs, x0 = .list xs ∧ indexLD x y = some z) ∨ ∃ t, x0 = .str t ∧ indexD x y = some z) := by
  obtain ⟨r, ρ1, h1, h⟩ := bnd_some h
  cases e0 : look ρ1 r with
  | none => simp only [e0] at h; cases h
  | some x0 =>
    simp only [e0] at h
    split at h
    · rename_i xs e
      cases e
      obtain ⟨s, ρ2, h2, h⟩ := bnd_some h
      split at h
      · rename_i x y e1 e2
        obtain ⟨w, hw, e3⟩ := Option.map_eq_some_iff.mp h
        cases e3
        exact ⟨r, ρ1, s, x, y, _, h1, e0, h2, e1, e2, .inl ⟨_, rfl, hw⟩⟩
      · cases h
    · rename_i xs e
      cases e
      obtain ⟨s, ρ2, h2, h⟩ := bnd_some h
      split at h
      · rename_i x y e1 e2
        obtain ⟨w, hw, e3⟩ := Option.map_eq_some_iff.mp h
        cases e3
        exact ⟨r, ρ1, s, x, y, _, h1, e0, h2, e1, e2, .inr ⟨_, rfl, hw⟩⟩
      · cases h
    · cases h
theorem v_indexG {apos : Pos} (hu : X.A.units + 70 < cLine) (ha : PE X a (rdB X.K ma)) (hb : PE X b (rdB X.K mb)) (hs : starEach [b] X.env = [(false, eval b X.env)] := by rfl) (hbase : attributeBase a "index" X.env (eval a X.env) = eval a X.env := by rfl)
    (hfew : ((backTo pos (starEach (b :: []) X.env)).all (fun x => !x.1) && (backToKw pos (keywordEach [] X.env)).all (fun x => x.1.isSome)
      && decide ((b :: []).length + ([] : List Keyword).length + (if ([] : List Keyword).isEmpty then 0 else 1) < 30)) = true := by rfl)
    (hline : (apos.endLine == pos.line) = true := by rfl) (hs2 : starEach (b :: []) X.env = (false, eval b X.env) :: starEach [] X.env := by rfl) (hplain : (backTo pos (starEach [] X.env)).any (·.1) = false := by rfl) :
    PE X (.Call (.Attribute a "index" apos) [b] [] pos) (rdV X.K (idxM ma mb)) := by
  refine pe_imp (pe_or (pe_bm PySem.F.plainAttrs_list PySem.F.slot_list_index PySem.F.type_list_index (mt_indexD (by omega)) ha (pa_cons hb pa_nil hs2) hbase hfew hline hs2 hplain) (pe_m1 F.slot_str_index F.type_str_index mt_sindex ha hb hs hbase hline)) fun σ H Q h => ?_
  obtain ⟨F, G, ρ, d, ρ', ok, hm, q⟩ := h
  obtain ⟨r, ρ1, s, x, y, x0, h1, e0, h2, e1, e2, e3⟩ := idxM_some hm
  rcases e3 with ⟨xs0, rfl, e3⟩ | ⟨t, rfl, e3⟩
  · left
    unfold indexLD at e3
    split at e3
    · rename_i xs y
      split at e3
      · rename_i hz
        rw [Bool.and_eq_true] at hz
        obtain ⟨j, hj, rfl⟩ := Option.map_eq_some_iff.mp e3
        obtain ⟨z, z1, z2, z3⟩ := placeOf_ok hj
        refine ⟨F, G, ρ, r, ρ1, ok, h1, fun v F1 H1 s1 ok1 r1 => ?_⟩
        obtain ⟨p, vs, rfl, g1, g2⟩ := (look_ok ok1 r1 e0).list ok1.sub
        refine ⟨.inl ⟨rfl, vs, SqL.of g1⟩, F1, G, ρ1, s, ρ', ok1, h2, fun w F2 H2 s2 ok2 r2 => ?_⟩
        have d1 := (look_ok ok2 (r1.mono s2) e1).dp ok2.sub (SeqAt.canLay_of_shaped hz.1)
        have d2 := (look_ok ok2 r2 e2).dp ok2.sub (SeqAt.canLay_of_shaped hz.2)
        exact ⟨p, w, _, _, j, z, rfl, rfl, d1, d2, hz.1, hz.2, z1, z2, z3, q _ _ _ (s1.trans s2) ok2 rfl⟩
      · cases e3
    · cases e3
  · right
    unfold indexD at e3
    split at e3
    · rename_i u z
      split at e3
      · rename_i i rest hz
        cases e3
        have er := look_str e1
        have es := look_str e2
        subst er es
        refine ⟨F, G, ρ, _, ρ1, ok, h1, fun v F1 H1 s1 ok1 r1 => ⟨⟨u, r1⟩, F1, G, ρ1, _, ρ', ok1, h2, fun w F2 H2 s2 ok2 r2 => ⟨u, z, i, rest, r1, ?_, hz, ?_⟩⟩⟩
        · rw [show w = V.str z from r2]
        · exact q _ _ _ (s1.trans s2) ok2 rfl
      · cases e3
    · cases e3
end
theorem wp_idx {ma mb : M Rf} {ρ : Rho} {Q : D → Rho → Prop} (h : wp ma ρ fun r ρ1 => ∃ x0, look ρ1 r = some (.list x0) ∧ wp mb ρ1 fun s ρ2 => ∃ xs y j, look ρ2 r = some (.list xs) ∧ look ρ2 s = some y ∧ SeqAt.shaped (.list xs) = true ∧ SeqAt.shaped y = true ∧ placeOf y xs = some j ∧ Q (.int (j : Nat)) ρ2) : wp (idxM ma mb) ρ Q := by
  refine wp_bnd (wp_mono h fun r ρ1 q => ?_)
  obtain ⟨x0, e0, s, ρ2, h2, xs, y, j, e1, e2, e3, e4, e5, q⟩ := q
  refine ⟨_, ρ2, ?_, q⟩
  show (match look ρ1 r with
    | some (.list _) => (bnd mb fun s => fun ρ2 => match look ρ2 r, look ρ2 s with
      | some x, some y => (indexLD x y).map fun z => (z, ρ2)
      | _, _ => none) ρ1
    | some (.str _) => (bnd mb fun s => fun ρ2 => match look ρ2 r, look ρ2 s with
      | some x, some y => (indexD x y).map fun z => (z, ρ2)
      | _, _ => none) ρ1
    | _ => none) = _
  rw [e0]
  dsimp only
  rw [bnd_eq h2, e1, e2]
  show (if SeqAt.shaped (.list xs) && SeqAt.shaped y then (placeOf y xs).map fun j => PyData.int (j : Nat) else none).map _ = _
  rw [if_pos (by rw [e3, e4]; rfl), e5]
  rfl
theorem wp_idxS {ma mb : M Rf} {ρ : Rho} {Q : D → Rho → Prop} (h : wp ma ρ fun r ρ1 => ∃ t0, look ρ1 r = some (.str t0) ∧ wp mb ρ1 fun s ρ2 => bop indexD (look ρ2 r) (look ρ2 s) fun z => Q z ρ2) : wp (idxM ma mb) ρ Q := by
  refine wp_bnd (wp_mono h fun r ρ1 q => ?_)
  obtain ⟨x0, e0, s, ρ2, h2, a, b, z, e1, e2, e3, q⟩ := q
  refine ⟨_, ρ2, ?_, q⟩
  show (match look ρ1 r with
    | some (.list _) => (bnd mb fun s => fun ρ2 => match look ρ2 r, look ρ2 s with
      | some x, some y => (indexLD x y).map fun z => (z, ρ2)
      | _, _ => none) ρ1
    | some (.str _) => (bnd mb fun s => fun ρ2 => match look ρ2 r, look ρ2 s with
      | some x, some y => (indexD x y).map fun z => (z, ρ2)
      | _, _ => none) ρ1
    | _ => none) = _
  rw [e0]
  dsimp only
  rw [bnd_eq h2, e1, e2]
  show (indexD a b).map _ = _
  rw [e3]
  rfl
/-- a comprehension within a comprehension, without names of what stands around it -/
theorem blkOk_in {N : List Str} {sc scope : Scope} {own : List (Str × Nat)} (h : blkC N scope scope own = true) (hf : (scope.names.all fun y => match y.2 with | .free => false | _ => true) = true) : BlkOk N sc scope own := by
  have b := blkOk_by h
  refine ⟨b.kind, b.uniq, b.ix, fun y hy e => ?_, b.own⟩
  have := List.all_eq_true.mp hf y hy
  rw [e] at this
  cases this
end Fx
/-! Fx: words of a text; a new own object as the last argument of a call. -/
namespace Fx
open PySem PySem.Spec PyProof.Rows L2
variable [Wd]
/-- the words of a text, an own list -/
def wordsO : D → Option Own
  | .str s => if s.length + 2 ≤ sizeLine then some (.lst ((Txt.words s).map PyData.str)) else none
  | _ => none
theorem n_words {X : Cx} {a : Expr} {ma : M Rf} {pos apos : Pos} (ha : PE X a (rdB X.K ma)) (hbase : attributeBase a "split" X.env (eval a X.env) = eval a X.env := by rfl) (hline : (apos.endLine == pos.line) = true := by rfl) :
    PE X (.Call (.Attribute a "split" apos) [] [] pos) (rdN X.K (b1M wordsO ma)) := by
  refine pe_imp (pe_words ha hbase hline) fun σ H Q h => ?_
  obtain ⟨F, G, ρ, d, ρ', ok, hm, q⟩ := h
  obtain ⟨r, x, h1, e1, e3⟩ := b1_some hm
  unfold wordsO at e3
  split at e3
  · rename_i u
    split at e3
    · rename_i hz
      cases e3
      have er := look_str e1
      subst er
      refine ⟨F, G, ρ, _, ρ', ok, h1, fun v F1 H1 s1 ok1 r1 => ⟨⟨u, r1⟩, u, r1, rfl, hz, fun p hp => ?_⟩⟩
      obtain ⟨ok3, n⟩ := ok1.fresh (o := .lst ((Txt.words u).map V.str)) hp
      exact q p F1 _ s1 ok3 n ⟨_, upd_same, Rps.strs.mpr rfl⟩
    · cases e3
  · cases e3
section
variable {K : Kf} {F F' G H H' : Hp} {σ σ' : L2.St} {ρ ρ' : Rho}
/-- a further slot: for an own object that has no name -/
theorem Ok.push (ok : Ok K F G H σ ρ) {p : Addr} {b : Own} (n : New K F G H σ ρ p) (h : OwnAt K F H p b) : Ok K F G H (σ ++ [some (.ref p)]) (ρ ++ [Sl.o b]) := by
  have old : ∀ {i : Nat} {x : Sl}, (ρ ++ [Sl.o b])[i]? = some x → (i < ρ.length ∧ ρ[i]? = some x ∧ (σ ++ [some (V.ref p)])[i]? = σ[i]?) ∨ (i = ρ.length ∧ x = .o b ∧ (σ ++ [some (V.ref p)])[i]? = some (some (V.ref p))) := by
    intro i x e
    rcases Nat.lt_or_ge i ρ.length with z | z
    · rw [List.getElem?_append_left z] at e
      exact .inl ⟨z, e, List.getElem?_append_left (by rw [ok.len]; exact z)⟩
    · have hi := (List.getElem?_eq_some_iff.mp e).1
      rw [List.length_append, List.length_singleton] at hi
      have ei : i = ρ.length := by omega
      subst ei
      rw [List.getElem?_append_right (Nat.le_refl _), Nat.sub_self] at e
      refine .inr ⟨rfl, (Option.some.inj e).symm, ?_⟩
      rw [← ok.len, List.getElem?_append_right (Nat.le_refl _), Nat.sub_self]
      rfl
  refine ⟨ok.sub, ok.gsub, ok.disj, by rw [List.length_append, List.length_append, ok.len]; rfl, fun i d e => ?_, fun i x t e ht => ?_, fun i ns e => ?_, fun i j x y t u hij e1 t1 e2 t2 => ?_⟩
  · rcases old e with ⟨_, e, es⟩ | ⟨_, e, _⟩
    · rw [es]; exact ok.val i d e
    · cases e
  · rcases old e with ⟨_, e, es⟩ | ⟨_, rfl, es⟩
    · rw [es]; exact ok.hold i x t e ht
    · cases ht
      refine ⟨_, [p], es, ⟨p, rfl, rfl, h⟩, by simp, fun a ha => ?_⟩
      rw [List.mem_singleton.mp ha]
      exact ⟨n.f, n.g⟩
  · rcases old e with ⟨_, e, es⟩ | ⟨_, e, _⟩
    · rw [es]; exact ok.scr i ns e
    · cases e
  · rcases old e1 with ⟨_, e1, s1⟩ | ⟨i1, rfl, s1⟩
    · rcases old e2 with ⟨_, e2, s2⟩ | ⟨_, rfl, s2⟩
      · rw [s1, s2]; exact ok.apar i j x y t u hij e1 t1 e2 t2
      · cases t2
        obtain ⟨v, as, g1, g2, g3⟩ := n.s i x t e1 t1
        rw [s1, s2]
        exact ⟨v, _, as, [p], g1, rfl, g2, ⟨p, rfl, rfl, h⟩, fun a ha hb => g3 (List.mem_singleton.mp hb ▸ ha)⟩
    · rcases old e2 with ⟨_, e2, s2⟩ | ⟨i2, rfl, s2⟩
      · cases t1
        obtain ⟨v, as, g1, g2, g3⟩ := n.s j y u e2 t2
        rw [s1, s2]
        exact ⟨_, v, [p], as, rfl, g1, ⟨p, rfl, rfl, h⟩, g2, fun a ha hb => g3 (List.mem_singleton.mp ha ▸ hb)⟩
      · omega
theorem Ok.pop {x : Option V} {y : Sl} (hl : σ.length = ρ.length) (ok : Ok K F G H (σ ++ [x]) (ρ ++ [y])) : Ok K F G H σ ρ := by
  have up : ∀ {i : Nat} {z : Sl}, ρ[i]? = some z → (ρ ++ [y])[i]? = some z ∧ (σ ++ [x])[i]? = σ[i]? := fun {i z} e => by
    have hi := (List.getElem?_eq_some_iff.mp e).1
    exact ⟨by rw [List.getElem?_append_left hi]; exact e, List.getElem?_append_left (by rw [hl]; exact hi)⟩
  refine ⟨ok.sub, ok.gsub, ok.disj, hl, fun i d e => ?_, fun i x t e ht => ?_, fun i ns e => ?_, fun i j x y t u hij e1 t1 e2 t2 => ?_⟩
  · obtain ⟨e, es⟩ := up e; rw [← es]; exact ok.val i d e
  · obtain ⟨e, es⟩ := up e; rw [← es]; exact ok.hold i _ t e ht
  · obtain ⟨e, es⟩ := up e; rw [← es]; exact ok.scr i ns e
  · obtain ⟨e1, s1⟩ := up e1
    obtain ⟨e2, s2⟩ := up e2
    rw [← s1, ← s2]
    exact ok.apar i j _ _ t u hij e1 t1 e2 t2
theorem New.pop {x : Option V} {y : Sl} {p : Addr} (hl : σ.length = ρ.length) (n : New K F G H (σ ++ [x]) (ρ ++ [y]) p) : New K F G H σ ρ p := by
  refine ⟨n.f, n.g, fun i z t e ht => ?_⟩
  have hi := (List.getElem?_eq_some_iff.mp e).1
  have := n.s i z t (by rw [List.getElem?_append_left hi]; exact e) ht
  rwa [List.getElem?_append_left (by rw [hl]; exact hi)] at this
theorem argsR_push {b : Own} : ∀ {rs : List Rf} {as : List Sl}, argsR ρ rs = some as → argsR (ρ ++ [Sl.o b]) (rs ++ [Rf.slot ρ.length]) = some (as ++ [Sl.o b])
  | [], as, h => by
    cases h
    show (match (ρ ++ [Sl.o b])[ρ.length]? with
      | some (Sl.o b) => (argsR (ρ ++ [Sl.o b]) []).map fun as => Sl.o b :: as
      | some (Sl.s ns) => (argsR (ρ ++ [Sl.o b]) []).map fun as => Sl.s ns :: as
      | some (Sl.t q) => (argsR (ρ ++ [Sl.o b]) []).map fun as => Sl.t q :: as
      | _ => none) = _
    rw [List.getElem?_append_right (Nat.le_refl _), Nat.sub_self]
    rfl
  | .val d :: rs, as, h => by
    have h : ((argsR ρ rs).map fun as => Sl.v d :: as) = some as := h
    obtain ⟨as', h1, rfl⟩ := Option.map_eq_some_iff.mp h
    show ((argsR (ρ ++ [Sl.o b]) (rs ++ [Rf.slot ρ.length])).map fun as => Sl.v d :: as) = _
    rw [argsR_push (rs := rs) (as := as') h1]
    rfl
  | .slot i :: rs, as, h => by
    have h : (match ρ[i]? with
      | some (.o b) => (argsR ρ rs).map fun as => Sl.o b :: as
      | some (.s ns) => (argsR ρ rs).map fun as => Sl.s ns :: as
      | some (.t q) => (argsR ρ rs).map fun as => Sl.t q :: as
      | _ => none) = some as := h
    have hi : i < ρ.length := by
      rcases Nat.lt_or_ge i ρ.length with z | z
      · exact z
      · rw [List.getElem?_eq_none z] at h; cases h
    show (match (ρ ++ [Sl.o b])[i]? with
      | some (Sl.o c) => (argsR (ρ ++ [Sl.o b]) (rs ++ [Rf.slot ρ.length])).map fun as => Sl.o c :: as
      | some (.s ns) => (argsR (ρ ++ [Sl.o b]) (rs ++ [Rf.slot ρ.length])).map fun as => Sl.s ns :: as
      | some (.t q) => (argsR (ρ ++ [Sl.o b]) (rs ++ [Rf.slot ρ.length])).map fun as => Sl.t q :: as
      | _ => none) = _
    rw [List.getElem?_append_left hi]
    cases he : ρ[i]? with
    | none => rw [he] at h; cases h
    | some z =>
      rw [he] at h
      cases z with
      | o c =>
        obtain ⟨as', h1, rfl⟩ := Option.map_eq_some_iff.mp (show ((argsR ρ rs).map fun as => Sl.o c :: as) = some as from h)
        show ((argsR (ρ ++ [Sl.o b]) (rs ++ [Rf.slot ρ.length])).map fun as => Sl.o c :: as) = _
        rw [argsR_push (rs := rs) (as := as') h1]; rfl
      | s c =>
        obtain ⟨as', h1, rfl⟩ := Option.map_eq_some_iff.mp (show ((argsR ρ rs).map fun as => Sl.s c :: as) = some as from h)
        show ((argsR (ρ ++ [Sl.o b]) (rs ++ [Rf.slot ρ.length])).map fun as => Sl.s c :: as) = _
        rw [argsR_push (rs := rs) (as := as') h1]; rfl
      | t c =>
        obtain ⟨as', h1, rfl⟩ := Option.map_eq_some_iff.mp (show ((argsR ρ rs).map fun as => Sl.t c :: as) = some as from h)
        show ((argsR (ρ ++ [Sl.o b]) (rs ++ [Rf.slot ρ.length])).map fun as => Sl.t c :: as) = _
        rw [argsR_push (rs := rs) (as := as') h1]; rfl
      | u => cases h
      | v d => cases h
theorem slotsR_app : ∀ (rs qs : List Rf), slotsR (rs ++ qs) = slotsR rs ++ slotsR qs
  | [], _ => rfl
  | .val _ :: rs, qs => slotsR_app rs qs
  | .slot i :: rs, qs => by
    show i :: slotsR (rs ++ qs) = i :: slotsR rs ++ slotsR qs
    rw [slotsR_app rs qs]; rfl
theorem argsR_lt : ∀ {rs : List Rf} {as : List Sl}, argsR ρ rs = some as → ∀ i ∈ slotsR rs, i < ρ.length
  | [], _, _, i, hi => by cases hi
  | .val d :: rs, as, h, i, hi => by
    have h : ((argsR ρ rs).map fun as => Sl.v d :: as) = some as := h
    obtain ⟨as', h1, rfl⟩ := Option.map_eq_some_iff.mp h
    exact argsR_lt h1 i hi
  | .slot j :: rs, as, h, i, hi => by
    have h : (match ρ[j]? with
      | some (.o b) => (argsR ρ rs).map fun as => Sl.o b :: as
      | some (.s ns) => (argsR ρ rs).map fun as => Sl.s ns :: as
      | some (.t q) => (argsR ρ rs).map fun as => Sl.t q :: as
      | _ => none) = some as := h
    have hj : j < ρ.length := by
      rcases Nat.lt_or_ge j ρ.length with z | z
      · exact z
      · rw [List.getElem?_eq_none z] at h; cases h
    have hr : ∃ as', argsR ρ rs = some as' := by
      split at h
      all_goals first
        | (obtain ⟨as', h1, rfl⟩ := Option.map_eq_some_iff.mp h; exact ⟨as', h1⟩)
        | cases h
    obtain ⟨as', h1⟩ := hr
    rcases List.mem_cons.mp hi with rfl | hi
    · exact hj
    · exact argsR_lt h1 i hi
theorem backR_push : ∀ {rs : List Rf} {as : List Sl} {ρ : Rho} {y z : Sl}, as.length = rs.length → (∀ i ∈ slotsR rs, i < ρ.length) → backR (rs ++ [Rf.slot ρ.length]) (as ++ [z]) (ρ ++ [y]) = backR rs as ρ ++ [z]
  | [], [], ρ, y, z, _, _ => by
    show (ρ ++ [y]).set ρ.length z = ρ ++ [z]
    rw [List.set_append_right _ _ (Nat.le_refl _), Nat.sub_self]; rfl
  | .val _ :: rs, _ :: as, ρ, y, z, hl, hs => backR_push (rs := rs) (as := as) (by simpa using hl) hs
  | .slot i :: rs, a :: as, ρ, y, z, hl, hs => by
    have hi := hs i List.mem_cons_self
    show backR (rs ++ [Rf.slot ρ.length]) (as ++ [z]) ((ρ ++ [y]).set i a) = backR rs as (ρ.set i a) ++ [z]
    rw [List.set_append_left _ _ hi]
    have := backR_push (rs := rs) (as := as) (ρ := ρ.set i a) (y := y) (z := z) (by simpa using hl) (fun j hj => by rw [List.length_set]; exact hs j (List.mem_cons_of_mem _ hj))
    rwa [List.length_set] at this
  | [], _ :: _, _, _, _, h, _ => by simp at h
  | _ :: _, [], _, _, _, h, _ => by simp at h
theorem backR_more {z : Sl} : ∀ {rs : List Rf} {as : List Sl} {ρ : Rho}, as.length = rs.length → backR rs (as ++ [z]) ρ = backR rs as ρ
  | [], [], ρ, _ => rfl
  | .val _ :: rs, _ :: as, ρ, h => backR_more (rs := rs) (as := as) (by simpa using h)
  | .slot _ :: rs, _ :: as, ρ, h => backR_more (rs := rs) (as := as) (by simpa using h)
  | [], _ :: _, _, h => by simp at h
  | _ :: _, [], _, h => by simp at h
theorem RfsOk.push {x : Option V} : ∀ {rs : List Rf} {vs : List V}, RfsOk K F σ rs vs → RfsOk K F (σ ++ [x]) rs vs
  | [], vs, h => h
  | r :: rs, vs, h => by
    obtain ⟨v, ws, e, h1, h2⟩ := h
    refine ⟨v, ws, e, ?_, RfsOk.push h2⟩
    cases r with
    | val d => exact h1
    | slot i =>
      have h1 : σ[i]? = some (some v) := h1
      have hi := (List.getElem?_eq_some_iff.mp h1).1
      show (σ ++ [x])[i]? = _
      rw [List.getElem?_append_left hi]; exact h1
theorem RfsOk.snoc {r : Rf} {v : V} : ∀ {rs : List Rf} {vs : List V}, RfsOk K F σ rs vs → RfOk K F σ v r → RfsOk K F σ (rs ++ [r]) (vs ++ [v])
  | [], vs, h, hv => by
    have h : vs = [] := h
    subst h
    exact ⟨v, [], rfl, hv, rfl⟩
  | s :: rs, vs, h, hv => by
    obtain ⟨w, ws, rfl, h1, h2⟩ := h
    exact ⟨w, ws ++ [v], rfl, h1, RfsOk.snoc h2 hv⟩
end
def lastN (m : M Own) : M (List Rf × Own) := bnd m fun b => ret ([], b)
def consN (m : M Rf) (n : M (List Rf × Own)) : M (List Rf × Own) := bnd m fun d => bnd n fun r => ret (d :: r.1, r.2)
/-- a call whose last argument is a new own object -/
def callF (f : Fn) (m : M (List Rf × Own)) : M Sl := bnd m fun r => fun ρ => match argsR ρ r.1 with
  | some args => if (slotsR r.1).Nodup then (match f (args ++ [Sl.o r.2]) with
    | some (x, args') => some (x, backR r.1 args' ρ)
    | none => none) else none
  | none => none
def rdF (K : Kf) (m : M (List Rf × Own)) : TA := fun σ H Q => ∃ F G ρ r ρ', Ok K F G H σ ρ ∧ m ρ = some (r, ρ') ∧ ∀ vs p F' H', Same F F' → Ok K F' G H' σ ρ' → New K F' G H' σ ρ' p → OwnAt K F' H' p r.2 → RfsOk K F' σ r.1 vs → Q (vs ++ [.ref p]) H'
section
variable {X : Cx} {e : Expr} {es : List Expr}
theorem f_last {m : M Own} (he : PE X e (rdN X.K m)) (hs : starEach [e] X.env = [(false, eval e X.env)] := by rfl) : PA X [e] (rdF X.K (lastN m)) := by
  refine pa_imp (pa_cons he pa_nil hs) fun σ H Q h => ?_
  obtain ⟨F, G, ρ, d, ρ', ok, hm, q⟩ := h
  obtain ⟨b, ρ1, h1, h2⟩ := bnd_some hm
  cases h2
  exact ⟨F, G, ρ, b, _, ok, h1, fun p F1 H1 s1 ok1 n1 o1 => q [] p F1 H1 s1 ok1 n1 o1 rfl⟩
theorem f_cons {m : M Rf} {n : M (List Rf × Own)} (he : PE X e (rdB X.K m)) (hr : PA X es (rdF X.K n)) (hs : starEach (e :: es) X.env = (false, eval e X.env) :: starEach es X.env := by rfl) : PA X (e :: es) (rdF X.K (consN m n)) := by
  refine pa_imp (pa_cons he hr hs) fun σ H Q h => ?_
  obtain ⟨F, G, ρ, d, ρ', ok, hm, q⟩ := h
  obtain ⟨x, ρ1, h1, h2⟩ := bnd_some hm
  obtain ⟨xs, ρ2, h3, h4⟩ := bnd_some h2
  cases h4
  refine ⟨F, G, ρ, x, ρ1, ok, h1, fun v F1 H1 s1 ok1 r1 => ⟨F1, G, ρ1, xs, _, ok1, h3, fun vs p F2 H2 s2 ok2 n2 o2 r2 => ?_⟩⟩
  exact q (v :: vs) p F2 H2 (s1.trans s2) ok2 n2 o2 ⟨v, vs, rfl, r1.mono s2, r2⟩
theorem callF_reads {K : Kf} {n : Nat} {f : Fn} {m : M (List Rf × Own)} {E : XK} {σ : L2.St} {H : Hp} {Q : VK} (hlen : ∀ args r, f args = some r → args.length = n)
    (h : ∃ F G ρ r ρ', Ok K F G H σ ρ ∧ callF f m ρ = some (r, ρ') ∧ ∀ v F' H', Same F F' → Ok K F' G H' σ ρ' → ResOk K F' G H' σ ρ' v r → Q v H') : tCall (Prm K n f) [] E (rdF K m) σ H Q := by
  obtain ⟨F, G, ρ, r, ρ', ok, hm, q⟩ := h
  obtain ⟨rs, ρ1, h1, h2⟩ := bnd_some hm
  refine ⟨F, G, ρ, rs, ρ1, ok, h1, fun vs p F1 H1 s1 ok1 n1 o1 r1 => ?_⟩
  have h2 : (match argsR ρ1 rs.1 with
    | some args => if (slotsR rs.1).Nodup then (match f (args ++ [Sl.o rs.2]) with
      | some (r, args') => some (r, backR rs.1 args' ρ1)
      | none => none) else none
    | none => none) = some (r, ρ') := h2
  split at h2
  · rename_i args ha
    split at h2
    · rename_i nd
      split at h2
      · rename_i r' args' hf
        cases h2
        have okp := ok1.push n1 o1
        have ap := argsR_push (b := rs.2) ha
        have hlt := argsR_lt ha
        have al := argsR_len ha
        have rp : RfsOk K F1 (σ ++ [some (V.ref p)]) (rs.1 ++ [Rf.slot ρ1.length]) (vs ++ [V.ref p]) := r1.push.snoc (by
          show (σ ++ [some (V.ref p)])[ρ1.length]? = _
          rw [← ok1.len, List.getElem?_append_right (Nat.le_refl _), Nat.sub_self]; rfl)
        have nd' : (slotsR (rs.1 ++ [Rf.slot ρ1.length])).Nodup := by
          rw [slotsR_app]
          refine List.nodup_append.mpr ⟨nd, by simp [slotsR], fun a ha b hb => ?_⟩
          have hb : b ∈ [ρ1.length] := hb
          rw [List.mem_singleton.mp hb]
          have := hlt a ha
          omega
        show Prm K n f ((vs ++ [.ref p]) ++ []) H1 Q E
        rw [List.append_nil]
        refine ⟨by rw [rp.length, ← hlen _ _ hf, argsR_len ap], F1, _, _, r, args', okp.enter rp ap nd', hf, fun v F2 H2 s2 ok2 hr => ?_⟩
        have hl2 := ok2.len
        rw [List.length_map, rp.length, List.length_append, List.length_singleton] at hl2
        have hne : args' ≠ [] := fun e => by rw [e] at hl2; simp at hl2
        obtain ⟨as2, z, rfl⟩ : ∃ as2 z, args' = as2 ++ [z] := ⟨args'.dropLast, args'.getLast hne, (List.dropLast_concat_getLast hne).symm⟩
        rw [List.length_append, List.length_singleton] at hl2
        have hl3 : as2.length = rs.1.length := by omega
        obtain ⟨ok3, hnew⟩ := okp.leave rp ap nd' s2 ok2
        have hbk := backR_push (rs := rs.1) (as := as2) (ρ := ρ1) (y := Sl.o rs.2) (z := z) hl3 hlt
        have hbl : σ.length = (backR rs.1 as2 ρ1).length := by rw [backR_len, ok1.len]
        have hT := fun {q : Tr} (hr : NewT K F2 (hidG K F1 G H1 (σ ++ [some (V.ref p)]) (ρ1 ++ [Sl.o rs.2]) (slotsR (rs.1 ++ [Rf.slot ρ1.length]))) H2 ((vs ++ [V.ref p]).map some) (as2 ++ [z]) q v) => okp.leaveT rp ap nd' s2 ok2 hr
        rw [hbk] at ok3 hnew
        rw [backR_more hl3] at q
        refine q v F2 H2 (s1.trans s2) (ok3.pop hbl) ?_
        cases r with
        | v d => exact hr
        | o b =>
          obtain ⟨p', e, n, o⟩ := hr
          exact ⟨p', e, (hnew p' n).pop hbl, o⟩
        | u => exact hr
        | s _ => exact hr
        | t q =>
          obtain ⟨as, g1, g2, g3⟩ := hT hr
          rw [hbk] at g3
          exact ⟨as, g1, g2, fun a ha => (g3 a ha).pop hbl⟩
      · cases h2
    · cases h2
  · cases h2
theorem v_callF {k n : Nat} {x : Str} {f : Fn} {p pos : Pos} {m : M (List Rf × Own)} (D : Df X.prog X.w X.K X.mg X.base k x n f) (hr : Room k X.A) (hg : Gl X x) (ha : PA X (e :: es) (rdF X.K m)) (hdb : (x == ("__debug__" : Str)) = false := by decide)
    (he : starEach (e :: es) X.env = (false, eval e X.env) :: starEach es X.env := by rfl) (hpl : (backTo pos (starEach es X.env)).any (·.1) = false := by rfl) : PE X (.Call (.Name x p) (e :: es) [] pos) (rdV X.K (valS (callF f m))) := by
  refine pe_imp (pe_callX (P := X.prog) D hr hg ha hdb he hpl) fun σ H Q h => callF_reads D.len ?_
  obtain ⟨F, G, ρ, d, ρ', ok, hm, q⟩ := h
  obtain ⟨r, h1, h2⟩ := valS_reads (F := F) (G := G) hm
  exact ⟨F, G, ρ, r, ρ', ok, h1, fun v F1 H1 s1 ok1 hr => res_val ok1 hr h2 fun F2 s2 ok2 r2 => q v F2 H1 (s1.trans s2) ok2 r2⟩
end
section
variable {ρ : Rho}
theorem wp_lastN {m : M Own} {Q : List Rf × Own → Rho → Prop} (h : wp m ρ fun b ρ1 => Q ([], b) ρ1) : wp (lastN m) ρ Q := wp_bnd (wp_mono h fun _ _ q => wp_ret q)
theorem wp_consN {m : M Rf} {n : M (List Rf × Own)} {Q : List Rf × Own → Rho → Prop} (h : wp m ρ fun d ρ1 => wp n ρ1 fun r ρ2 => Q (d :: r.1, r.2) ρ2) : wp (consN m n) ρ Q := wp_bnd (wp_mono h fun _ _ q => wp_bnd (wp_mono q fun _ _ q => wp_ret q))
def callFK (f : Fn) (Q : Sl → Rho → Prop) (r : List Rf × Own) (ρ : Rho) : Prop := ∃ args, argsR ρ r.1 = some args ∧ (slotsR r.1).Nodup ∧ fw f (args ++ [Sl.o r.2]) fun x as => Q x (backR r.1 as ρ)
theorem callFK_go {f : Fn} {Q : Sl → Rho → Prop} {rs : List Rf} {b : Own} {args : List Sl} (ha : argsR ρ rs = some args) (nd : (slotsR rs).Nodup) (h : fw f (args ++ [Sl.o b]) fun x as => Q x (backR rs as ρ)) : callFK f Q (rs, b) ρ := ⟨args, ha, nd, h⟩
theorem wp_callF {f : Fn} {m : M (List Rf × Own)} {Q : Sl → Rho → Prop} (h : wp m ρ (callFK f Q)) : wp (callF f m) ρ Q := by
  refine wp_bnd (wp_mono h fun r ρ1 q => ?_)
  obtain ⟨args, h1, h2, x, as, h3, h4⟩ := q
  refine ⟨x, backR r.1 as ρ1, ?_, h4⟩
  show (match argsR ρ1 r.1 with
    | some args => if (slotsR r.1).Nodup then (match f (args ++ [Sl.o r.2]) with
      | some (x, args') => some (x, backR r.1 args' ρ1)
      | none => none) else none
    | none => none) = _
  simp only [h1, if_pos h2, h3]
theorem uop_words {s : Str} {K : Own → Prop} (hz : s.length + 2 ≤ sizeLine) (h : K (.lst ((Txt.words s).map PyData.str))) : uop wordsO (some (.str s)) K := uop_is (show (if s.length + 2 ≤ sizeLine then some (Own.lst ((Txt.words s).map PyData.str)) else none) = _ from if_pos hz) h
end
/-- str(x) of an integer or a text -/
def strD : D → Option D
  | .int i => if i.natAbs.log2 < 1920 then some (.str (toString i)) else none
  | .str a => some (.str a)
  | _ => none
theorem call_strS {X : Cx} : CallR X (.type "str") (fun xs H Q => (∃ i, xs = [V.int i] ∧ i.natAbs.log2 < 1920 ∧ Q (.str (toString i)) H) ∨ ∃ a, xs = [V.str a] ∧ Q (.str a) H) := call_str_int.or SkE.call_str_str
theorem cbd_str {K : Kf} : CbD K strD (fun xs H Q => (∃ i, xs = [V.int i] ∧ i.natAbs.log2 < 1920 ∧ Q (.str (toString i)) H) ∨ ∃ a, xs = [V.str a] ∧ Q (.str a) H) := by
  intro F G H σ ρ x d v Q ok hx hf q
  unfold strD at hf
  split at hf
  · split at hf
    · rename_i hi
      cases hf
      have e := hx.int
      subst e
      exact .inl ⟨_, rfl, hi, q _ F H (Same.refl F) ok rfl⟩
    · cases hf
  · cases hf
    have e := hx.str
    subst e
    exact .inr ⟨_, rfl, q _ F H (Same.refl F) ok rfl⟩
  · cases hf
theorem uop_str_nat {n : Nat} (hn : n < 10) {K : D → Prop} (h : K (.str (mk [48 + n]))) : uop strD (some (.int (n : Nat))) K := by
  have e : (toString ((n : Nat) : Int) : Str) = mk [48 + n] ∧ ((n : Nat) : Int).natAbs.log2 < 1920 := by
    have a : ∀ k : Fin 10, ((toString ((k.val : Nat) : Int) : Str) == mk [48 + k.val] && decide (((k.val : Nat) : Int).natAbs.log2 < 1920)) = true := by decide +kernel
    have := a ⟨n, hn⟩
    rw [Bool.and_eq_true, decide_eq_true_eq] at this
    exact ⟨by simpa using this.1, this.2⟩
  refine uop_is (z := .str (mk [48 + n])) ?_ h
  show (if ((n : Nat) : Int).natAbs.log2 < 1920 then some (PyData.str (toString ((n : Nat) : Int))) else none) = _
  rw [if_pos e.2, e.1]
theorem uop_str_str {s : Str} {K : D → Prop} (h : K (.str s)) : uop strD (some (.str s)) K := uop_is rfl h
end Fx
/-! Fx: three new lists bound to three names at once. -/
namespace Fx
open PySem PySem.Spec PyProof.Rows L2
variable [Wd]
/-- a, b, c = [], [], [] -/
def par3N (i j l : Nat) : MS := fun ρ => some (.nx, ((ρ.set i (.o (.lst []))).set j (.o (.lst []))).set l (.o (.lst [])))
theorem s_par3N (i j l : Nat) {X : Cx} {pr : List Nat} {pos : Pos} {x y z : Str} {px py pz pt qa qb qc : Pos} {kt k2 : Nat} {pt2 : Pos} (hpi : i ∉ pr) (hpj : j ∉ pr) (hpl : l ∉ pr) (hc : X.calm = true) (hN : X.N.Nodup) (hi : X.N[i]? = some x) (hj : X.N[j]? = some y) (hl : X.N[l]? = some z) (hij : i ≠ j) (hil : i ≠ l) (hjl : j ≠ l)
    (hx : X.env.scope.names.lookup x = some .local) (hy : X.env.scope.names.lookup y = some .local) (hz : X.env.scope.names.lookup z = some .local)
    (hw : swappedStores [.Tuple [.Name x px, .Name y py, .Name z pz] kt pt] (.Tuple [.List [] qa, .List [] qb, .List [] qc] k2 pt2) X.env = pure (some [x, y, z]) := by rfl)
    (hs : swapsWithSole [.Tuple [.Name x px, .Name y py, .Name z pz] kt pt] (.Tuple [.List [] qa, .List [] qb, .List [] qc] k2 pt2) pos.line X.env = pure false := by rfl) :
    PS X (.Assign [.Tuple [.Name x px, .Name y py, .Name z pz] kt pt] (.Tuple [.List [] qa, .List [] qb, .List [] qc] k2 pt2) pos) (rdS X.K pr (par3N i j l)) :=
  ps_imp (ps_par3 hc hN hi hj hl hij hil hjl hx hy hz (pa_cons (pe_lst pa_nil) (pa_cons (pe_lst pa_nil) (pa_cons (pe_lst pa_nil) pa_nil rfl) rfl) rfl) hw hs) fun E σ H h => by
  obtain ⟨F, G, ρ, fl, ρ', ok, hm, w⟩ := h
  cases hm
  refine ⟨by decide, fun p1 h1 => ⟨by decide, fun p2 h2 => ⟨by decide, fun p3 h3 => ⟨.ref p1, .ref p2, .ref p3, rfl, ?_⟩⟩⟩⟩
  obtain ⟨ok1, n1⟩ := ok.fresh (o := .lst []) h1
  have k1 := ok1.putO (i := i) (b := .lst []) n1 ⟨[], upd_same, rfl⟩
  obtain ⟨ok2, n2⟩ := k1.fresh (o := .lst []) h2
  have k2 := ok2.putO (i := j) (b := .lst []) n2 ⟨[], upd_same, rfl⟩
  obtain ⟨ok3, n3⟩ := k2.fresh (o := .lst []) h3
  have k3 := ok3.putO (i := l) (b := .lst []) n3 ⟨[], upd_same, rfl⟩
  exact w _ F _ (Same.refl F) k3 ((Pr.set hpi).trans ((Pr.set hpj).trans (Pr.set hpl)))
theorem wp_par3N {ρ : Rho} {i j l : Nat} {Q : Fl → Rho → Prop} (h : Q .nx (((ρ.set i (.o (.lst []))).set j (.o (.lst []))).set l (.o (.lst [])))) : wp (par3N i j l) ρ Q := ⟨_, _, rfl, h⟩
end Fx
/-! Fx: a try whose body raises nothing; int of a text; chains of comparisons of data. -/
namespace Fx
open PySem PySem.Spec PyProof.Rows L2
variable [Wd]
theorem s_try {X : Cx} {pr : List Nat} {body : List Stmt} {h₀ : ExceptHandler} {hs : List ExceptHandler} {pos : Pos} {b : MS} (hn : ∀ e s, ¬ X.xe e s) (hb : PSs X body (rdS X.K pr b)) : PS X (.Try body (h₀ :: hs) [] [] pos) (rdS X.K pr b) :=
  ps_imp (ps_try_never hn hb pss_nil) fun E σ H h => h
/-- int(text) -/
def intTD : D → Option D
  | .str a => match PySem.intText? a with
    | some n => if a.length ≤ 640 then some (.int n) else none
    | none => none
  | _ => none
theorem cbd_intT {K : Kf} : CbD K intTD (fun xs H Q => ∃ a n, xs = [V.str a] ∧ PySem.intText? a = some n ∧ a.length ≤ 640 ∧ Q (.int n) H) := by
  intro F G H σ ρ x d v Q ok hx hf q
  unfold intTD at hf
  split at hf
  · split at hf
    · rename_i n hn
      split at hf
      · rename_i hz
        cases hf
        have e := hx.str
        subst e
        exact ⟨_, n, rfl, hn, hz, q _ F H (Same.refl F) ok rfl⟩
      · cases hf
    · cases hf
  · cases hf
theorem uop_intT {s : Str} {n : Int} {K : D → Prop} (hn : PySem.intText? s = some n) (hz : s.length ≤ 640) (h : K (.int n)) : uop intTD (some (.str s)) K := uop_is (by
  unfold intTD
  dsimp only
  rw [hn]
  dsimp only
  rw [if_pos hz]) h
theorem uop_str_int {i : Int} {K : D → Prop} (hz : i.natAbs.log2 < 1920) (h : K (.str (toString i))) : uop strD (some (.int i)) K := uop_is (by
  show (if i.natAbs.log2 < 1920 then some (PyData.str (toString i)) else none) = _
  rw [if_pos hz]) h
/-- a chain of two comparisons of data -/
def chainGM (f g : D → D → Bool) (a b c : M D) : M Bool := bnd a fun x => bnd b fun y => if ordFit x y then (if f x y then bnd c fun z => if ordFit y z then ret (g y z) else fun _ => none else ret false) else fun _ => none
theorem chainG_reads {K : Kf} {f g : D → D → Bool} {ma mb mc : M D} {σ : L2.St} {H : Hp} {R : VK} (h : rdT K (chainGM f g ma mb mc) σ H fun k H' => R (.bl k) H') :
    tChain (rOrd K f) (rOrd K g) (rdV K ma) (rdV K mb) (rdV K mc) σ H R := by
  obtain ⟨F, G, ρ, d, ρ', ok, hm, q⟩ := h
  obtain ⟨x, ρ1, h1, h2⟩ := bnd_some hm
  obtain ⟨y, ρ2, h3, h4⟩ := bnd_some h2
  refine ⟨F, G, ρ, x, ρ1, ok, h1, fun v F1 H1 s1 ok1 r1 => ⟨F1, G, ρ1, y, ρ2, ok1, h3, fun w F2 H2 s2 ok2 r2 => ?_⟩⟩
  split at h4
  · rename_i hz
    obtain ⟨a, b, c, e⟩ := ordFit_ok hz
    refine ⟨x, y, Vw.dp (.inl (Rp.mono s2 _ _ r1)) ok2.sub (SeqAt.canLay_of_shaped a), Vw.dp (.inl r2) ok2.sub e, a, b, c, f x y, rfl, ?_⟩
    cases hp : f x y with
    | true =>
      rw [hp, if_pos rfl] at h4
      refine iteT ?_
      obtain ⟨z, ρ3, h5, h6⟩ := bnd_some h4
      refine ⟨F2, G, ρ2, z, ρ3, ok2, h5, fun u F3 H3 s3 ok3 r3 => ?_⟩
      split at h6
      · rename_i hz2
        obtain ⟨a', b', c', e'⟩ := ordFit_ok hz2
        cases h6
        exact ⟨y, z, Vw.dp (.inl (Rp.mono s3 _ _ r2)) ok3.sub (SeqAt.canLay_of_shaped a'), Vw.dp (.inl r3) ok3.sub e', a', b', c', q F3 H3 ((s1.trans s2).trans s3) ok3⟩
      · cases h6
    | false =>
      rw [hp, if_neg Bool.false_ne_true] at h4
      cases h4
      exact iteF (q F2 H2 (s1.trans s2) ok2)
  · cases h4
section
variable {X : Cx} {a b c : Expr} {pos : Pos}
theorem t_chainG {f g : D → D → Bool} {op op' : CmpOp} {ma mb mc : M D} (ho : OpR X (compareOp op) (rOrd X.K f)) (ho' : OpR X (compareOp op') (rOrd X.K g)) (ha : PE X a (rdV X.K ma)) (hb : PE X b (rdV X.K mb)) (hc : PE X c (rdV X.K mc))
    (hm : lastMarks [op, op'] [b, c] = false := by with_unfolding_all rfl) : PT X (.Compare a [op, op'] [b, c] pos) (rdT X.K (chainGM f g ma mb mc)) :=
  pt_imp (pt_chain ho ho' ha hb hc hm) fun σ H Q h => chainG_reads (by
    obtain ⟨F, G, ρ, d, ρ', ok, hm, q⟩ := h
    exact ⟨F, G, ρ, d, ρ', ok, hm, fun F' H' s ok' => ⟨d, rfl, q F' H' s ok'⟩⟩)
end
theorem wp_chainG {f g : D → D → Bool} {a b c : M D} {ρ : Rho} {Q : Bool → Rho → Prop} (h : wp a ρ fun x ρ1 => wp b ρ1 fun y ρ2 => ordFit x y = true ∧ (f x y = true → wp c ρ2 fun z ρ3 => ordFit y z = true ∧ Q (g y z) ρ3) ∧ (f x y = false → Q false ρ2)) : wp (chainGM f g a b c) ρ Q := by
  obtain ⟨x, ρ1, h1, y, ρ2, h2, e1, e2, e3⟩ := h
  refine wp_bnd ⟨x, ρ1, h1, wp_bnd ⟨y, ρ2, h2, ?_⟩⟩
  dsimp only
  rw [if_pos e1]
  cases hp : f x y with
  | true =>
    rw [if_pos rfl]
    obtain ⟨z, ρ3, h3, e4, q⟩ := e2 hp
    refine wp_bnd ⟨z, ρ3, h3, ?_⟩
    dsimp only
    rw [if_pos e4]
    exact wp_ret q
  | false =>
    rw [if_neg Bool.false_ne_true]
    exact wp_ret (e3 hp)
end Fx
/-! Fx: enumerate of a text of plain signs. -/
namespace Fx
open PySem PySem.Spec PyProof.Rows L2
variable [Wd]
def IteS (s : Str) : It :=
  ⟨fun i _ => i < s.cps.size, fun i H v H' => ∃ T c, v = .ref T ∧ H T = none ∧ H' = upd H T (.tup [.int (i : Nat), .str ⟨#[c]⟩]) ∧ s.cps[i]? = some c, fun i _ => i = s.cps.size⟩
theorem turn_enumS {P : Program} {w : World} {K : PySem.W.Frag} {elts : List Expr} {kk : Nat} {tpos : Pos} {e it : Addr} {s0 : Str} {t0 : Tok} (ne : e ≠ it) :
    Turn P w K (.Tuple elts kk tpos) (IteS s0) [e, it] e (fun i h => (∃ old, IsEnum h e it ((0 : Int) + (i : Nat)) old) ∧ h.IsStrIter it "str_ascii_iterator" s0 t0 i) where
  mem := by simp
  obj := fun i h st b hb => by
    obtain ⟨⟨old, he⟩, ⟨o, ho, hc, hd⟩⟩ := st
    have e' : b = e ∨ b = it := by simpa using hb
    rcases e' with z | z
    · rw [z]; exact ⟨_, he, fun v q => nomatch q⟩
    · rw [z]; exact ⟨o, ho, fun v q => by rw [hd] at q; cases q⟩
  keep := fun i h h' st k => let ⟨⟨old, he⟩, ⟨o, ho, r⟩⟩ := st; ⟨⟨old, k e (by simp) _ he⟩, ⟨o, k it (by simp) o ho, r⟩⟩
  item := by
    intro X hP hw hK hc i pins s σ H E I hf st hg
    subst hP hw hK
    obtain ⟨he, hit⟩ := st
    have hh : X.A.in1.handled = none := I.ok.hd hc
    have W := GoesN.enumFrom (elts := elts) (x1 := kk) (pos := tpos) 0 (Draws.strAscii (prog := X.prog) (w := X.w) hh it s0 t0) e ne (by simp [ne, Ne.symm ne]) (by simp)
    refine W.goes i s (fun v s2 => ∃ x H', Inv X pins σ H' s2 ∧ RelV x v ∧ (IteS s0).yld i H x H' ∧ ((∃ old, IsEnum s2.heap e it ((0 : Int) + ((i + 1 : Nat) : Int)) old) ∧ s2.heap.IsStrIter it "str_ascii_iterator" s0 t0 (i + 1)) ∧ ∀ b ∈ [e, it], H' b = none) E hg ⟨he, hit⟩ fun v h' tk Y st' hk htk => ?_
    obtain ⟨T, t, x', rfl, hT, ⟨c, u, hcx, rfl⟩, hTt⟩ := Y
    obtain ⟨he', hit'⟩ := st'
    rw [Int.zero_add] at hTt
    have new : ObjOk X.prog X.w (upd H T (.tup [.int (i : Nat), .str ⟨#[c]⟩])) h' T (.tup [.int (i : Nat), .str ⟨#[c]⟩]) := ⟨by show 2 ≤ sizeLine; decide, [.int (i : Nat) t, .str ⟨#[c]⟩ u], .cons ⟨_, rfl⟩ (.cons ⟨_, rfl⟩ .nil), hTt⟩
    have hn : H T = none := I.hok.fresh hT
    have I1 : Inv X pins σ (upd H T (.tup [.int (i : Nat), .str ⟨#[c]⟩])) { s with heap := h', toks := tk } := I.turnedNew (ch := [e, it]) (fun c o hb q => hk c o hb q) hf hT new
    refine ⟨.ref T, _, I1, rfl, ⟨T, c, rfl, hn, rfl, hcx⟩, ⟨he', hit'⟩, fun c hcm => ?_⟩
    have hlt : c < s.heap.objs.size := by
      have e' : c = e ∨ c = it := by simpa using hcm
      obtain ⟨_, he⟩ := he
      obtain ⟨o, ho, _⟩ := hit
      rcases e' with q | q
      · rw [q]; exact Heap.lt_size he
      · rw [q]; exact Heap.lt_size ho
    rw [upd_ne (Nat.ne_of_lt (Nat.lt_of_lt_of_le hlt hT))]
    exact (hf c hcm).1
  done := by
    intro X hP hw hK hc i pins s σ H E I hf st hg
    subst hP hw hK
    obtain ⟨he, hit⟩ := st
    have hg : i = s0.cps.size := hg
    subst hg
    have hh : X.A.in1.handled = none := I.ok.hd hc
    have W := GoesN.enumFrom (elts := elts) (x1 := kk) (pos := tpos) 0 (Draws.strAscii (prog := X.prog) (w := X.w) hh it s0 t0) e ne (by simp [ne, Ne.symm ne]) (by simp)
    refine W.stops s (fun s1 => Inv X pins σ H s1) E ⟨he, hit⟩ fun h' tk hk htk => ?_
    exact I.turnedL (t' := tk) (ch := [e, it]) (fun c o hb q => hk c o hb q) hf
  self := fun A i s Q E st h => let ⟨⟨_, he⟩, _⟩ := st; wpAny_pyIter_enum he h
def iEnumS (s : Str) (ta : TA) : TI := fun σ H R => ta σ H fun vs H1 => vs = [.str s] ∧ R (IteS s) H1
theorem pi_enumS {X : Cx} {e : Expr} {ta : TA} {s0 : Str} {p pos tpos : Pos} {elts : List Expr} {kk : Nat} (hz : s0.cps.all (· < 128) = true) (hg : Gl X "enumerate") (hm : X.mg "enumerate" = none) (ha : PA X [e] ta) (hs : starEach [e] X.env = [(false, eval e X.env)] := by rfl) :
    PI X (.Tuple elts kk tpos) (.Call (.Name "enumerate" p) [e] [] pos) (iEnumS s0 ta) := by
  refine ⟨fun pins s σ H R I h => ?_⟩
  refine Call_ (ld_blt I hg hm boot_enumerate (PyProof.Rows.callWith_type1 (thn (ha.run pos pins s σ H _ I h) fun us s1 ⟨vs, H1, I1, r1, q1⟩ => ?_) hs rfl))
  obtain ⟨ex, q⟩ := q1
  subst ex
  cases r1 with
  | cons r rr =>
    cases rr
    obtain ⟨t, rfl⟩ := r
    refine call_enumerate_str fun h' he hit hsz hk => wpAny_pyIter_enum he ?_
    have I2 : Inv X pins σ H1 { s1 with heap := h' } := I1.kept (t' := s1.toks) hk
    have hit' : h'.IsStrIter s1.heap.objs.size "str_ascii_iterator" s0 t 0 := by simpa [strIterType, hz] using hit
    refine ⟨s1.heap.objs.size + 1, [s1.heap.objs.size + 1, s1.heap.objs.size], _, _, H1, rfl, I2, turn_enumS (t0 := t) (Nat.succ_ne_self _), ⟨⟨.none, he⟩, hit'⟩, fun b hb => ?_, q⟩
    have e' : b = s1.heap.objs.size + 1 ∨ b = s1.heap.objs.size := by simpa using hb
    have hle : s1.heap.objs.size ≤ b := by
      rcases e' with z | z
      · rw [z]; exact Nat.le_add_right _ _
      · rw [z]; exact Nat.le_refl _
    exact I1.fpOk hle (I1.hok.fresh hle)
/-- what is walked: the places and signs of the text -/
def enumSM (s : Str) : M (List D) := ret (enumL (signs s))
theorem feed_enumS {K : Kf} {F : Hp} {s : Str} : Feed K (IteS s) F (enumL (signs s)) := fun i F0 H e t => by
  refine ⟨fun d hd => ?_, fun e => ?_⟩
  · obtain ⟨x, hx, rfl⟩ := enumL_get hd
    unfold signs at hx
    rw [List.getElem?_map] at hx
    obtain ⟨c, hc, rfl⟩ := Option.map_eq_some_iff.mp hx
    rw [Array.getElem?_toList] at hc
    refine ⟨(Array.getElem?_eq_some_iff.mp hc).1, fun z H' yl => ?_⟩
    obtain ⟨T, c', rfl, hT, rfl, hc'⟩ := yl
    have e1 := hc'.symm.trans hc
    cases e1
    have fT : F0 T = none := Same.free t hT
    have sF : Same F0 (upd F0 T (.tup [.int (i : Nat), .str ⟨#[c]⟩])) := Same.new fT
    refine ⟨upd F0 T (.tup [.int (i : Nat), .str ⟨#[c]⟩]), sF, fun a u hc => ?_, Same.new hT, fun a u hc => ?_, rp_pair upd_same rfl rfl⟩
    · by_cases e : a = T
      · subst e; rw [upd_same] at hc ⊢; exact hc
      · rw [upd_ne e] at hc ⊢; exact t _ _ hc
    · by_cases e : a = T
      · subst e; exact .inr hT
      · rw [upd_ne e] at hc; exact .inl hc
  · rw [enumL_len] at e
    unfold signs at e
    rw [List.length_map, Array.length_toList] at e
    exact e
theorem i_enumS {X : Cx} {s : Str} {j : Nat} {cp p pos tpos : Pos} {elts : List Expr} {kk : Nat} (hz : s.cps.all (· < 128) = true) (hg : Gl X "enumerate") (hm : X.mg "enumerate" = none) (hs : starEach [.Constant (.str s) j cp] X.env = [(false, eval (.Constant (.str s) j cp) X.env)] := by rfl) :
    PI X (.Tuple elts kk tpos) (.Call (.Name "enumerate" p) [.Constant (.str s) j cp] [] pos) (rdI X.K (enumSM s)) := by
  refine pi_imp (pi_enumS hz hg hm (pa_cons pe_str pa_nil hs) hs) fun σ H R h => ?_
  obtain ⟨F, G, ρ, xs, ρ', ok, hm, q⟩ := h
  cases hm
  exact ⟨rfl, q _ F H (Same.refl F) ok feed_enumS⟩
theorem wp_enumS {s : Str} {ρ : Rho} {Q : List D → Rho → Prop} (h : Q (enumL (signs s)) ρ) : wp (enumSM s) ρ Q := wp_ret h
end Fx
/-! Fx: reading values in a tree: x[e] a value child, x[a][b] an item of an own list within. -/
namespace Fx
open PySem PySem.Spec PyProof.Rows L2
variable [Wd]
def kidM (i : Nat) (k : D) : M D := fun ρ => match ρ[i]? with
  | some (.t (.l ts)) => (match k with
    | .int kk => (match ixN ts.length kk with
      | some j => (match ts[j]? with
        | some (.v d) => some (d, ρ)
        | _ => none)
      | none => none)
    | _ => none)
  | _ => none
theorem kid_some {i : Nat} {k d : D} {ρ ρ' : Rho} (h : kidM i k ρ = some (d, ρ')) : ρ' = ρ ∧ ∃ ts kk j, ρ[i]? = some (.t (.l ts)) ∧ k = .int kk ∧ ixN ts.length kk = some j ∧ ts[j]? = some (.v d) := by
  unfold kidM at h
  split at h
  · rename_i ts e
    split at h
    · rename_i kk
      split at h
      · rename_i j ej
        split at h
        · rename_i d' ed
          cases h
          exact ⟨rfl, ts, kk, j, e, rfl, ej, ed⟩
        · cases h
      · cases h
    · cases h
  · cases h
def ixTM (i : Nat) (m : M D) : M D := bnd (ownTM i) fun _ => bnd m fun k => kidM i k
section
variable {X : Cx} {ix : Expr} {pos px : Pos} {m : M D}
theorem v_ixT (i : Nat) {x : Str} (hx : PE X ix (rdV X.K m)) (hN : X.N[i]? = some x := by rfl) (hv : Vis X.env.scope x := by first | exact Or.inl rfl | exact Or.inr (Or.inl rfl) | exact Or.inr (Or.inr rfl)) (hd : (x == ("__debug__" : Str)) = false := by decide)
    (hcd : (x == ("__classdict__" : Str)) = false := by decide) (hs : PlainIx ix := by exact fun _ _ => rfl) : PE X (.Subscript (.Name x px) ix pos) (rdV X.K (ixTM i m)) := by
  refine pe_imp (pe_ix ix_list (pe_var (i := i) hN hv hd hcd) hx hs) fun σ H Q h => ?_
  obtain ⟨F, G, ρ, d, ρ', ok, hm, q⟩ := h
  obtain ⟨u, ρ0, h1, h2⟩ := bnd_some hm
  obtain ⟨rfl, t0, e0⟩ := ownT_some h1
  obtain ⟨k, ρ1, h3, h4⟩ := bnd_some h2
  obtain ⟨rfl, ts, kk, j, e1, rfl, ej, ed⟩ := kid_some h4
  obtain ⟨v, as, g1, _, _, _⟩ := ok.hold i _ _ e0 rfl
  refine ⟨v, g1, F, G, _, _, _, ok, h3, fun y F1 H1 s1 ok1 r1 => ?_⟩
  cases (show y = V.int kk from r1)
  obtain ⟨v', as', g2, ⟨p, vs, bs, rfl, rfl, hp, hts⟩, _, _⟩ := ok1.hold i _ _ e1 rfl
  have ev : v = .ref p := Option.some.inj (Option.some.inj (g1.symm.trans g2))
  subst ev
  obtain ⟨w, a1, b1, b2, hw, _, ht, _⟩ := trs_at ts vs bs j _ hts ed
  obtain ⟨_, rw'⟩ := ht
  refine ⟨p, vs, kk, w, rfl, rfl, SqL.of hp, ?_, q w F1 H1 s1 ok1 rw'⟩
  unfold atI
  rw [trs_len _ _ _ hts, ej]
  exact hw
end
theorem wp_ixT {i : Nat} {m : M D} {ρ : Rho} {Q : D → Rho → Prop} {t0 : Tr} (e : ρ[i]? = some (.t t0)) (h : wp m ρ fun k ρ1 => ∃ ts j d, k = .int ((j : Nat) : Int) ∧ ρ1[i]? = some (.t (.l ts)) ∧ ts[j]? = some (.v d) ∧ Q d ρ1) : wp (ixTM i m) ρ Q := by
  obtain ⟨k, ρ1, h1, ts, j, d, rfl, e1, e2, q⟩ := h
  have hj : j < ts.length := (List.getElem?_eq_some_iff.mp e2).1
  refine ⟨d, ρ1, ?_, q⟩
  have h0 : ownTM i ρ = some ((), ρ) := by unfold ownTM; rw [e]
  refine (bnd_eq h0).trans ((bnd_eq h1).trans ?_)
  unfold kidM
  rw [e1]
  dsimp only
  have : ixN ts.length ((j : Nat) : Int) = some j := by
    unfold ixN
    simp [hj]
  rw [this]
  dsimp only
  rw [e2]
/-- x[a][b] with a, b known: an item of an own list in the tree -/
def leafIxM (i n1 n2 : Nat) : M D := fun ρ => match ρ[i]? with
  | some (.t (.l ts)) => (match ts[n1]? with
    | some (.f (.lst ds)) => (match ds[n2]? with
      | some d => some (d, ρ)
      | none => none)
    | _ => none)
  | _ => none
theorem leafIx_some {i n1 n2 : Nat} {d : D} {ρ ρ' : Rho} (h : leafIxM i n1 n2 ρ = some (d, ρ')) : ρ' = ρ ∧ ∃ ts ds, ρ[i]? = some (.t (.l ts)) ∧ ts[n1]? = some (.f (.lst ds)) ∧ ds[n2]? = some d := by
  unfold leafIxM at h
  split at h
  · rename_i ts e
    split at h
    · rename_i ds e1
      split at h
      · rename_i d' e2
        cases h
        exact ⟨rfl, ts, ds, e, e1, e2⟩
      · cases h
    · cases h
  · cases h
section
variable {X : Cx} {p1 p2 pos px : Pos} {j1 j2 : Nat}
theorem v_leafIx (i n1 n2 : Nat) {x : Str} (hN : X.N[i]? = some x := by rfl) (hv : Vis X.env.scope x := by first | exact Or.inl rfl | exact Or.inr (Or.inl rfl) | exact Or.inr (Or.inr rfl)) (hd : (x == ("__debug__" : Str)) = false := by decide)
    (hcd : (x == ("__classdict__" : Str)) = false := by decide) {q1 : Pos} : PE X (.Subscript (.Subscript (.Name x px) (.Constant (.int (n1 : Nat)) j1 p1) q1) (.Constant (.int (n2 : Nat)) j2 p2) pos) (rdV X.K (leafIxM i n1 n2)) := by
  refine pe_imp (pe_ix ix_list (pe_ix ix_list (pe_var (i := i) hN hv hd hcd) pe_int (fun _ _ => rfl)) pe_int (fun _ _ => rfl)) fun σ H Q h => ?_
  obtain ⟨F, G, ρ, d, ρ', ok, hm, q⟩ := h
  obtain ⟨rfl, ts, ds, e, e1, e2⟩ := leafIx_some hm
  obtain ⟨v, as, g1, ⟨p, vs, bs, rfl, rfl, hp, hts⟩, _, _⟩ := ok.hold i _ _ e rfl
  obtain ⟨w, a1, b1, b2, hw, _, ht, _⟩ := trs_at ts vs bs n1 _ hts e1
  obtain ⟨c, rfl, _, ws, hc, rw'⟩ := ht
  obtain ⟨z, hz, rz⟩ := rw'.get e2
  exact ⟨.ref p, g1, p, vs, _, _, rfl, rfl, SqL.of hp, atI_nat hw, c, ws, _, z, rfl, rfl, SqL.of hc, atI_nat hz, q z F H (Same.refl F) ok rz⟩
end
theorem wp_leafIx {i n1 n2 : Nat} {ρ : Rho} {ts : List Tr} {ds : List D} {d : D} {Q : D → Rho → Prop} (e : ρ[i]? = some (.t (.l ts))) (e1 : ts[n1]? = some (.f (.lst ds))) (e2 : ds[n2]? = some d) (h : Q d ρ) : wp (leafIxM i n1 n2) ρ Q := ⟨d, ρ, by unfold leafIxM; rw [e]; dsimp only; rw [e1]; dsimp only; rw [e2], h⟩
/-- a value child is exchanged for another value -/
theorem trs_setV {K : Kf} {F H : Hp} : ∀ (ts : List Tr) (vs : List V) (as : List Addr) (j : Nat) (d0 d : D) (x : V), TrsAt K F H ts vs as → ts[j]? = some (.v d0) → Rp K F d x → TrsAt K F H (ts.set j (.v d)) (vs.set j x) as
  | [], _, _, _, _, _, _, _, e, _ => by simp at e
  | t0 :: ts, vs, as, 0, d0, d, x, ⟨v, ws, a1, a2, h1, h2, h3, h4⟩, e, r => by
    cases e
    subst h1
    exact ⟨x, ws, a1, a2, rfl, h2, ⟨h3.1, r⟩, h4⟩
  | t0 :: ts, vs, as, j + 1, d0, d, x, ⟨v, ws, a1, a2, h1, h2, h3, h4⟩, e, r => by
    subst h1
    exact ⟨v, ws.set j x, a1, a2, rfl, h2, h3, trs_setV ts ws a2 j d0 d x h4 e r⟩
theorem Ok.setKid {K : Kf} {F G H : Hp} {σ : L2.St} {ρ : Rho} {i j : Nat} {p : Addr} {ts : List Tr} {vs : List V} {d0 d : D} {x : V} (ok : Ok K F G H σ ρ) (e : ρ[i]? = some (.t (.l ts))) (hs : σ[i]? = some (some (.ref p))) (ej : ts[j]? = some (.v d0)) (r : Rp K F d x) (hp : H p = some (.lst vs)) :
    Ok K F G (upd H p (.lst (vs.set j x))) σ (ρ.set i (.t (.l (ts.set j (.v d))))) := by
  obtain ⟨v, as, g1, ⟨p', vs', bs, rfl, rfl, hp', hts⟩, nd, hfg⟩ := ok.hold i _ _ e rfl
  have e1 : V.ref p = .ref p' := Option.some.inj (Option.some.inj (hs.symm.trans g1))
  cases e1
  have e2 : vs = vs' := by rw [hp] at hp'; cases hp'; rfl
  subst e2
  have nw := ok.newOfT (K := K) e rfl hs ⟨p, vs, bs, rfl, rfl, hp, hts⟩
  obtain ⟨ok2, _⟩ := (ok.drop i).heapAt (o := .lst (vs.set j x)) (nw p List.mem_cons_self)
  have pb : p ∉ bs := (List.nodup_cons.mp nd).1
  have ok3 := ok2.putT (i := i) (x := .ref p) (r := .t (.l (ts.set j (.v d)))) (fun d e => nomatch e) (fun t' e' => by
    cases e'
    refine ⟨p :: bs, ⟨p, vs.set j x, bs, rfl, rfl, upd_same, trs_setV ts vs bs j d0 d x (TrsAt.mono (Same.refl F) _ _ _ (fun a ha => upd_ne fun z => pb (z ▸ ha)) hts) ej r⟩, nd, fun a h => ?_⟩
    have n := nw a h
    refine ⟨n.f, n.g, fun j y w hj hy => ?_⟩
    obtain ⟨w1, cs1, c1, c2, c3⟩ := n.s j y w hj hy
    obtain ⟨w2, cs2, d1, d2, d3⟩ := (nw p List.mem_cons_self).s j y w hj hy
    rw [c1] at d1; cases d1
    rw [TrAt.det _ _ _ _ d2 c2] at d3
    exact ⟨w1, cs1, c1, c2.mono (Same.refl F) _ _ _ (fun c hc => upd_ne fun z => d3 (by rw [← z]; exact hc)), c3⟩) (fun ns e => nomatch e)
  rw [set_self hs, List.set_set] at ok3
  exact ok3
/-- x[k] = d, a value child -/
def putKid (i : Nat) (d k : D) : MS := fun ρ => match ρ[i]? with
  | some (.t (.l ts)) => (match k with
    | .int kk => (match ixN ts.length kk with
      | some j => (match ts[j]? with
        | some (.v _) => some (.nx, ρ.set i (.t (.l (ts.set j (.v d)))))
        | _ => none)
      | none => none)
    | _ => none)
  | _ => none
theorem putKid_some {i : Nat} {k d : D} {ρ ρ' : Rho} {fl : Fl} (h : putKid i d k ρ = some (fl, ρ')) : fl = .nx ∧ ∃ ts kk j d0, ρ[i]? = some (.t (.l ts)) ∧ k = .int kk ∧ ixN ts.length kk = some j ∧ ts[j]? = some (.v d0) ∧ ρ' = ρ.set i (.t (.l (ts.set j (.v d)))) := by
  unfold putKid at h
  split at h
  · rename_i ts e
    split at h
    · rename_i kk
      split at h
      · rename_i j ej
        split at h
        · rename_i d' ed
          cases h
          exact ⟨rfl, ts, kk, j, d', e, rfl, ej, ed, rfl⟩
        · cases h
      · cases h
    · cases h
  · cases h
def setKidM (i : Nat) (m n : M D) : MS := bnd m fun d => bnd (ownTM i) fun _ => bnd n fun k => putKid i d k
theorem s_setKid (i : Nat) {X : Cx} {pr : List Nat} {pos : Pos} {e : Expr} {x : Str} {ix : Expr} {m n : M D} {px p2 : Pos} (he : PE X e (rdV X.K m)) (hn : PE X ix (rdV X.K n)) (hN : X.N[i]? = some x := by rfl) (hv : Vis X.env.scope x := by first | exact Or.inl rfl | exact Or.inr (Or.inl rfl) | exact Or.inr (Or.inr rfl)) (hd : (x == ("__debug__" : Str)) = false := by decide)
    (hcd : (x == ("__classdict__" : Str)) = false := by decide)
    (ha : ∀ v, assign (.Subscript (.Name x px) ix p2) X.env v = (do
      let ov ← holding [v] (eval (.Name x px) X.env)
      let iv ← holding [v, ov] (eval ix X.env)
      standAt p2
      holding [v, ov, iv] (setItem ov iv v)
      release [v, ov, iv] []) := by intro _; rfl)
    (hs : swapsWithSole [.Subscript (.Name x px) ix p2] e pos.line X.env = pure false := by rfl) (hw : swappedStores [.Subscript (.Name x px) ix p2] e X.env = pure none := by rfl)
    (h1 : (assignEach [.Subscript (.Name x px) ix p2] X.env).map (·.2) = [assign (.Subscript (.Name x px) ix p2) X.env] := by rfl) :
    PS X (.Assign [.Subscript (.Name x px) ix p2] e pos) (rdS X.K pr (setKidM i m n)) := ps_imp (ps_asg he (pg_sub (pe_var (i := i) hN hv hd hcd) hn set_list ha) hs hw h1) fun E σ H h => by
  obtain ⟨F, G, ρ, fl, ρ', ok, hm, w⟩ := h
  obtain ⟨d, ρ1, h1, h2⟩ := bnd_some hm
  obtain ⟨u, ρ2, h3, h4⟩ := bnd_some h2
  obtain ⟨rfl, t0, e0⟩ := ownT_some h3
  obtain ⟨k, ρ3, h5, h6⟩ := bnd_some h4
  obtain ⟨rfl, ts, kk, j, d0, e1, rfl, ej, ed, rfl⟩ := putKid_some h6
  refine ⟨F, G, ρ, d, ρ2, ok, h1, fun v F1 H1 s1 ok1 r1 => ?_⟩
  obtain ⟨v0, as0, g0, _, _, _⟩ := ok1.hold i _ _ e0 rfl
  refine ⟨v0, g0, F1, G, ρ2, _, ρ3, ok1, h5, fun kv F2 H2 s2 ok2 r2 => ?_⟩
  cases (show kv = V.int kk from r2)
  obtain ⟨v1, as1, g1, ⟨p, vs, bs, rfl, rfl, hp, hts⟩, _, _⟩ := ok2.hold i _ _ e1 rfl
  have ev : v0 = .ref p := Option.some.inj (Option.some.inj (g0.symm.trans g1))
  subst ev
  refine ⟨p, vs, kk, j, rfl, rfl, hp, by rw [trs_len _ _ _ hts]; exact ej, ?_⟩
  exact w σ F2 _ (s1.trans s2) (ok2.setKid e1 g1 ed (Rp.mono s2 _ _ r1) hp) Pr.refl
/-- an own list in the tree, at its place -/
theorem Ok.leafAtKid {K : Kf} {F G H : Hp} {σ : L2.St} {ρ : Rho} {i n1 : Nat} {ts : List Tr} {b : Own} (ok : Ok K F G H σ ρ) (e : ρ[i]? = some (.t (.l ts))) (e1 : ts[n1]? = some (.f b)) :
    ∃ p vs q, σ[i]? = some (some (.ref p)) ∧ H p = some (.lst vs) ∧ vs[n1]? = some (.ref q) ∧ OwnAt K F H q b ∧ ∀ (b' : Own) (ho : HO), OwnAt K F (upd H q ho) q b' → Ok K F G (upd H q ho) σ (ρ.set i (.t (.l (ts.set n1 (.f b'))))) := by
  obtain ⟨v, as, g1, ha, nd, hfg⟩ := ok.hold i _ _ e rfl
  have ha' := ha
  obtain ⟨p, vs, bs, rfl, rfl, hp, hts⟩ := ha'
  obtain ⟨w, a1, b1, b2, hw, _, ht, _⟩ := trs_at ts vs bs n1 _ hts e1
  have hi : i < ρ.length := (List.getElem?_eq_some_iff.mp e).1
  have okl := ok.lock e rfl g1 ha
  obtain ⟨q, e2, e3, k⟩ := Ok.leafTurn (ns := [n1]) (u := w) (b := b) (t := .l ts) (Same.refl F) ha nd (fun a h => (hfg a h).2) g1 okl (by rw [List.getElem?_set_self hi]) (by
    unfold subTr
    rw [e1]
    rfl) (AtP.snoc (ks := []) (.nil _) hp hw)
  subst e2
  refine ⟨p, vs, q, g1, hp, hw, e3, fun b' ho h => ?_⟩
  have := k b' ho h
  rw [List.set_set] at this
  have es : setTr (.l ts) [n1] (.f b') = .l (ts.set n1 (.f b')) := by
    unfold setTr
    rw [e1]
    rfl
  rw [es] at this
  exact this
/-- x[a][b] = d with a, b known: into an own list in the tree -/
def putLeaf (i n1 n2 : Nat) (d : D) : MS := fun ρ => match ρ[i]? with
  | some (.t (.l ts)) => (match ts[n1]? with
    | some (.f (.lst ds)) => if n2 < ds.length then some (.nx, ρ.set i (.t (.l (ts.set n1 (.f (.lst (ds.set n2 d))))))) else none
    | _ => none)
  | _ => none
theorem putLeaf_some {i n1 n2 : Nat} {d : D} {ρ ρ' : Rho} {fl : Fl} (h : putLeaf i n1 n2 d ρ = some (fl, ρ')) : fl = .nx ∧ ∃ ts ds, ρ[i]? = some (.t (.l ts)) ∧ ts[n1]? = some (.f (.lst ds)) ∧ n2 < ds.length ∧ ρ' = ρ.set i (.t (.l (ts.set n1 (.f (.lst (ds.set n2 d)))))) := by
  unfold putLeaf at h
  split at h
  · rename_i ts e
    split at h
    · rename_i ds e1
      split at h
      · rename_i hl
        cases h
        exact ⟨rfl, ts, ds, e, e1, hl, rfl⟩
      · cases h
    · cases h
  · cases h
def setLeafM (i n1 n2 : Nat) (m : M D) : MS := bnd m fun d => putLeaf i n1 n2 d
theorem s_setLeaf (i n1 n2 : Nat) {X : Cx} {pr : List Nat} {pos : Pos} {e : Expr} {x : Str} {m : M D} {px p1 p2 q1 q2 : Pos} {j1 j2 : Nat} (he : PE X e (rdV X.K m)) (hN : X.N[i]? = some x := by rfl) (hv : Vis X.env.scope x := by first | exact Or.inl rfl | exact Or.inr (Or.inl rfl) | exact Or.inr (Or.inr rfl)) (hd : (x == ("__debug__" : Str)) = false := by decide)
    (hcd : (x == ("__classdict__" : Str)) = false := by decide)
    (ha : ∀ v, assign (.Subscript (.Subscript (.Name x px) (.Constant (.int (n1 : Nat)) j1 p1) q1) (.Constant (.int (n2 : Nat)) j2 p2) q2) X.env v = (do
      let ov ← holding [v] (eval (.Subscript (.Name x px) (.Constant (.int (n1 : Nat)) j1 p1) q1) X.env)
      let iv ← holding [v, ov] (eval (.Constant (.int (n2 : Nat)) j2 p2) X.env)
      standAt q2
      holding [v, ov, iv] (setItem ov iv v)
      release [v, ov, iv] []) := by intro _; rfl)
    (hs : swapsWithSole [.Subscript (.Subscript (.Name x px) (.Constant (.int (n1 : Nat)) j1 p1) q1) (.Constant (.int (n2 : Nat)) j2 p2) q2] e pos.line X.env = pure false := by rfl) (hw : swappedStores [.Subscript (.Subscript (.Name x px) (.Constant (.int (n1 : Nat)) j1 p1) q1) (.Constant (.int (n2 : Nat)) j2 p2) q2] e X.env = pure none := by rfl)
    (h1 : (assignEach [.Subscript (.Subscript (.Name x px) (.Constant (.int (n1 : Nat)) j1 p1) q1) (.Constant (.int (n2 : Nat)) j2 p2) q2] X.env).map (·.2) = [assign (.Subscript (.Subscript (.Name x px) (.Constant (.int (n1 : Nat)) j1 p1) q1) (.Constant (.int (n2 : Nat)) j2 p2) q2) X.env] := by rfl) :
    PS X (.Assign [.Subscript (.Subscript (.Name x px) (.Constant (.int (n1 : Nat)) j1 p1) q1) (.Constant (.int (n2 : Nat)) j2 p2) q2] e pos) (rdS X.K pr (setLeafM i n1 n2 m)) := ps_imp (ps_asg he (pg_sub (pe_ix ix_list (pe_var (i := i) hN hv hd hcd) pe_int (fun _ _ => rfl)) pe_int set_list ha) hs hw h1) fun E σ H h => by
  obtain ⟨F, G, ρ, fl, ρ', ok, hm, w⟩ := h
  obtain ⟨d, ρ1, h1, h2⟩ := bnd_some hm
  obtain ⟨rfl, ts, ds, e0, e1, hl, rfl⟩ := putLeaf_some h2
  refine ⟨F, G, ρ, d, ρ1, ok, h1, fun v F1 H1 s1 ok1 r1 => ?_⟩
  obtain ⟨p, vs, q, g1, g2, g3, ⟨ws, g4, g5⟩, g6⟩ := ok1.leafAtKid e0 e1
  have hwl : ws.length = ds.length := g5.length
  refine ⟨.ref p, g1, p, vs, _, _, rfl, rfl, SqL.of g2, atI_nat g3, q, ws, _, n2, rfl, rfl, g4, ?_, ?_⟩
  · unfold ixN
    simp [hwl, hl]
  · exact w σ F1 _ s1 (g6 (.lst (ds.set n2 d)) _ ⟨_, upd_same, Rps.set r1 n2 g5⟩) Pr.refl
/-- x[a][b] op= c, all known, an integer in an own list in the tree -/
def augLeafM (i n1 n2 : Nat) (f : Int → Int → Int) (c : Int) : MS := fun ρ => match ρ[i]? with
  | some (.t (.l ts)) => (match ts[n1]? with
    | some (.f (.lst ds)) => (match ds[n2]? with
      | some (.int a) => some (.nx, ρ.set i (.t (.l (ts.set n1 (.f (.lst (ds.set n2 (.int (f a c)))))))))
      | _ => none)
    | _ => none)
  | _ => none
theorem augLeaf_some {i n1 n2 : Nat} {f : Int → Int → Int} {c : Int} {ρ ρ' : Rho} {fl : Fl} (h : augLeafM i n1 n2 f c ρ = some (fl, ρ')) : fl = .nx ∧ ∃ ts ds a, ρ[i]? = some (.t (.l ts)) ∧ ts[n1]? = some (.f (.lst ds)) ∧ ds[n2]? = some (.int a) ∧ ρ' = ρ.set i (.t (.l (ts.set n1 (.f (.lst (ds.set n2 (.int (f a c)))))))) := by
  unfold augLeafM at h
  split at h
  · rename_i ts e
    split at h
    · rename_i ds e1
      split at h
      · rename_i a e2
        cases h
        exact ⟨rfl, ts, ds, a, e, e1, e2, rfl⟩
      · cases h
    · cases h
  · cases h
theorem s_augLeaf (i n1 n2 : Nat) {X : Cx} {pr : List Nat} {pos : Pos} {x : Str} {px p1 p2 q1 q2 p3 : Pos} {j1 j2 j3 : Nat} {op : Operator} {f : Int → Int → Int} {c : Int} (ho : PIp X op (ipI f)) (hN : X.N[i]? = some x := by rfl) (hv : Vis X.env.scope x := by first | exact Or.inl rfl | exact Or.inr (Or.inl rfl) | exact Or.inr (Or.inr rfl)) (hd : (x == ("__debug__" : Str)) = false := by decide)
    (hcd : (x == ("__classdict__" : Str)) = false := by decide)
    (ha : ∀ ov iv new, augStore (.Constant (.int (n2 : Nat)) j2 p2) ov iv new = (do holding [new, ov, iv] (setItem ov iv new); release [new, ov, iv] []; pure .next) := by intros; rfl) :
    PS X (.AugAssign (.Subscript (.Subscript (.Name x px) (.Constant (.int (n1 : Nat)) j1 p1) q1) (.Constant (.int (n2 : Nat)) j2 p2) q2) op (.Constant (.int c) j3 p3) pos) (rdS X.K pr (augLeafM i n1 n2 f c)) :=
  ps_imp (ps_augS (pe_ix ix_list (pe_var (i := i) hN hv hd hcd) pe_int (fun _ _ => rfl)) pe_int pget_list pe_int ho set_list ha) fun E σ H h => by
  obtain ⟨F, G, ρ, fl, ρ', ok, hm, w⟩ := h
  obtain ⟨rfl, ts, ds, a, e0, e1, e2, rfl⟩ := augLeaf_some hm
  obtain ⟨p, vs, q, g1, g2, g3, ⟨ws, g4, g5⟩, g6⟩ := ok.leafAtKid e0 e1
  obtain ⟨z, hz, rz⟩ := g5.get e2
  cases (show z = _ from rz)
  have hl : n2 < ws.length := (List.getElem?_eq_some_iff.mp hz).1
  refine ⟨.ref p, g1, p, vs, _, _, rfl, rfl, SqL.of g2, atI_nat g3, q, ws, _, _, rfl, rfl, SqL.of g4, atI_nat hz, a, c, rfl, rfl, q, ws, _, n2, rfl, rfl, g4, ?_, ?_⟩
  · unfold ixN
    simp [hl]
  · exact w σ F _ (Same.refl F) (g6 (.lst (ds.set n2 (.int (f a c)))) _ ⟨_, upd_same, Rps.set (show Rp X.K F (.int (f a c)) (V.int (f a c)) from rfl) n2 g5⟩) Pr.refl
theorem wp_setKid {i : Nat} {m n : M D} {ρ : Rho} {Q : Fl → Rho → Prop} (h : wp m ρ fun d ρ1 => ∃ t0, ρ1[i]? = some (.t t0) ∧ wp n ρ1 fun k ρ2 => ∃ ts j d0, k = .int ((j : Nat) : Int) ∧ ρ2[i]? = some (.t (.l ts)) ∧ ts[j]? = some (.v d0) ∧ Q .nx (ρ2.set i (.t (.l (ts.set j (.v d)))))) : wp (setKidM i m n) ρ Q := by
  obtain ⟨d, ρ1, h1, t0, e, k, ρ2, h2, ts, j, d0, rfl, e1, e2, q⟩ := h
  have hj : j < ts.length := (List.getElem?_eq_some_iff.mp e2).1
  have h0 : ownTM i ρ1 = some ((), ρ1) := by unfold ownTM; rw [e]
  refine ⟨.nx, _, (bnd_eq h1).trans ((bnd_eq h0).trans ((bnd_eq h2).trans ?_)), q⟩
  unfold putKid
  rw [e1]
  dsimp only
  have : ixN ts.length ((j : Nat) : Int) = some j := by
    unfold ixN
    simp [hj]
  rw [this]
  dsimp only
  rw [e2]
theorem wp_setLeaf {i n1 n2 : Nat} {m : M D} {ρ : Rho} {Q : Fl → Rho → Prop} (h : wp m ρ fun d ρ1 => ∃ ts ds, ρ1[i]? = some (.t (.l ts)) ∧ ts[n1]? = some (.f (.lst ds)) ∧ n2 < ds.length ∧ Q .nx (ρ1.set i (.t (.l (ts.set n1 (.f (.lst (ds.set n2 d)))))))) : wp (setLeafM i n1 n2 m) ρ Q := by
  obtain ⟨d, ρ1, h1, ts, ds, e, e1, hl, q⟩ := h
  refine ⟨.nx, _, (bnd_eq h1).trans ?_, q⟩
  unfold putLeaf
  rw [e]
  dsimp only
  rw [e1]
  dsimp only
  rw [if_pos hl]
theorem wp_augLeaf {i n1 n2 : Nat} {f : Int → Int → Int} {c a : Int} {ρ : Rho} {ts : List Tr} {ds : List D} {Q : Fl → Rho → Prop} (e : ρ[i]? = some (.t (.l ts))) (e1 : ts[n1]? = some (.f (.lst ds))) (e2 : ds[n2]? = some (.int a)) (h : Q .nx (ρ.set i (.t (.l (ts.set n1 (.f (.lst (ds.set n2 (.int (f a c))))))))) ) : wp (augLeafM i n1 n2 f c) ρ Q := ⟨.nx, _, by unfold augLeafM; rw [e]; dsimp only; rw [e1]; dsimp only; rw [e2], h⟩
end Fx
/-! Fx: a tree of lists taken as an own list of data; lengths, pops, inserts and exchanges at a place in a tree. -/
namespace Fx
open PySem PySem.Spec PyProof.Rows L2
variable [Wd]
/-- the lists within become data, the tree an own list -/
def coM (i : Nat) : M Unit := fun ρ => match ρ[i]? with
  | some (.t (.l ts)) => (match toDs ts with
    | some ds => some ((), ρ.set i (.o (.lst ds)))
    | none => none)
  | some (.o (.lst _)) => some ((), ρ)
  | _ => none
theorem Ok.coTree {K : Kf} {F G H : Hp} {σ : L2.St} {ρ : Rho} {i : Nat} {ts : List Tr} {ds : List D} (ok : Ok K F G H σ ρ) (h : ρ[i]? = some (.t (.l ts))) (hd : toDs ts = some ds) : ∃ F', Same F F' ∧ Ok K F' G H σ (ρ.set i (.o (.lst ds))) := by
  obtain ⟨v, as, h1, ⟨p, vs, bs, rfl, rfl, hp, hts⟩, nd, h4⟩ := ok.hold i _ _ h rfl
  have hn := ok.newOfT (K := K) h rfl h1 ⟨p, vs, bs, rfl, rfl, hp, hts⟩
  obtain ⟨s1, ok1, nw⟩ := (ok.drop i).freezeAll bs (fun a ha => hn a (List.mem_cons_of_mem _ ha)) (fun a ha => hts.some _ _ _ a ha)
  have r := hts.rp _ _ _ _ (fun a ha => (h4 a (List.mem_cons_of_mem _ ha)).1) hd
  have np := nw p (List.nodup_cons.mp nd).1 (hn p List.mem_cons_self)
  refine ⟨_, s1, ?_⟩
  have ok2 := ok1.put (i := i) (x := .ref p) (r := .o (.lst ds)) (fun d' e' => by cases e') (fun b hb => by cases hb; exact ⟨p, rfl, np, vs, hp, r⟩) (fun ns hb => by cases hb)
  rw [set_set, set_self h1] at ok2
  exact ok2
theorem co_some {K : Kf} {F G H : Hp} {σ : L2.St} {ρ ρ' : Rho} {i : Nat} {u : Unit} (ok : Ok K F G H σ ρ) (h : coM i ρ = some (u, ρ')) : ∃ F', Same F F' ∧ Ok K F' G H σ ρ' := by
  unfold coM at h
  split at h
  · rename_i ts e
    split at h
    · rename_i ds e1
      cases h
      exact ok.coTree e e1
    · cases h
  · cases h
    exact ⟨F, Same.refl F, ok⟩
  · cases h
theorem s_co (i : Nat) {X : Cx} {st : Stmt} {pr : List Nat} {m : MS} (h : PS X st (rdS X.K pr m)) : PS X st (rdS X.K pr (bnd (coM i) fun _ => m)) := ps_imp h fun E σ H h => by
  obtain ⟨F, G, ρ, fl, ρ', ok, hm, w⟩ := h
  obtain ⟨u, ρ1, h1, h2⟩ := bnd_some hm
  obtain ⟨F1, s1, ok1⟩ := co_some ok h1
  exact ⟨F1, G, ρ1, fl, ρ', ok1, h2, Wish.step s1 Pr.refl w⟩
/-! ### the length of an own list in the tree -/
def leafLen (i : Nat) (k : D) : M D := fun ρ => match ρ[i]? with
  | some (.t t) => (match leafAt t [k] with
    | some (_, .lst xs) => some (.int xs.length, ρ)
    | _ => none)
  | _ => none
theorem leafLen_some {i : Nat} {k d : D} {ρ ρ' : Rho} (h : leafLen i k ρ = some (d, ρ')) : ρ' = ρ ∧ ∃ t ns xs, ρ[i]? = some (.t t) ∧ leafAt t [k] = some (ns, .lst xs) ∧ d = .int (xs.length : Nat) := by
  unfold leafLen at h
  split at h
  · rename_i t e
    split at h
    · rename_i ns xs e1
      cases h
      exact ⟨rfl, t, ns, xs, e, e1, rfl⟩
    · cases h
  · cases h
def lenLeafM (i : Nat) (m : M D) : M D := bnd (ownTM i) fun _ => bnd m fun k => leafLen i k
section
variable {X : Cx} {e e2 o ix : Expr} {es : List Expr} {pos apos px p2 : Pos} {i : Nat} {x : Str} {m : M D}
theorem v_lenLeaf (i : Nat) {x f : Str} {pos p px p2 : Pos} (hc : X.calm = true) (hg : Gl X f) (hm : X.mg f = none) (hb : bootBuiltins f = some (.builtin "len")) (hx : PE X ix (rdV X.K m)) (hN : X.N[i]? = some x := by rfl) (hv : Vis X.env.scope x := by first | exact Or.inl rfl | exact Or.inr (Or.inl rfl) | exact Or.inr (Or.inr rfl)) (hd : (x == ("__debug__" : Str)) = false := by decide)
    (hcd : (x == ("__classdict__" : Str)) = false := by decide) (hpi : PlainIx ix := by exact fun _ _ => rfl) (hn : f ≠ "__name__" := by decide) (hdb : (f == ("__debug__" : Str)) = false := by decide)
    (he : starEach (.Subscript (.Name x px) ix p2 :: []) X.env = (false, eval (.Subscript (.Name x px) ix p2) X.env) :: starEach [] X.env := by rfl) (hpl : (backTo pos (starEach [] X.env)).any (·.1) = false := by rfl) : PE X (.Call (.Name f p) [.Subscript (.Name x px) ix p2] [] pos) (rdV X.K (lenLeafM i m)) := by
  refine pe_imp (pe_callB (call_lenG (X := X)) hg hm hb (pa_cons (p_ix (p_name i hN hv hd hcd) hx hpi) pa_nil he) hn hdb he hpl) fun σ H Q h => ?_
  obtain ⟨F, G, ρ, d, ρ', ok, hm, q⟩ := h
  obtain ⟨u, ρ1, h1, h2⟩ := bnd_some hm
  obtain ⟨rfl, t0, hx⟩ := ownT_some h1
  obtain ⟨k, ρ2, h3, h4⟩ := bnd_some h2
  obtain ⟨rfl, t, ns, xs, e1, e2, rfl⟩ := leafLen_some h4
  refine place_run ok hx h3 ⟨_, e1, rfl⟩ e2 fun u v as F1 H1 s1 ok1 hs1 ha nd at1 hp => ?_
  obtain ⟨p, rfl, vs, g1, g2⟩ := hp
  refine .inl ⟨_, vs.length, rfl, .inl ⟨vs, SqL.of g1, rfl⟩, ?_⟩
  rw [g2.length]
  exact q _ F1 H1 s1 ok1 rfl
/-- x[m].pop(e) -/
def popP (t : Tr) (k : D) (i : Nat) (d : D) : M D := fun ρ => match leafAt t [k] with
  | some (ns, .lst xs) => (match d with
    | .int z => if decide (-(2 ^ 63) ≤ z) && decide (z < 2 ^ 63) then (match seqIndex? z xs.length with
      | some j => (match xs[j]? with
        | some y => some (y, ρ.set i (.t (setTr t ns (.f (.lst (xs.eraseIdx j))))))
        | none => none)
      | none => none) else none
    | _ => none)
  | _ => none
theorem popP_some {t : Tr} {k d y : D} {i : Nat} {ρ ρ' : Rho} (h : popP t k i d ρ = some (y, ρ')) : ∃ ns xs z j, leafAt t [k] = some (ns, .lst xs) ∧ d = .int z ∧ -(2 ^ 63) ≤ z ∧ z < 2 ^ 63 ∧ seqIndex? z xs.length = some j ∧ xs[j]? = some y ∧ ρ' = ρ.set i (.t (setTr t ns (.f (.lst (xs.eraseIdx j))))) := by
  unfold popP at h
  split at h
  · rename_i ns xs hl
    split at h
    · rename_i z
      split at h
      · rename_i hb
        rw [Bool.and_eq_true] at hb
        split at h
        · rename_i j hj
          split at h
          · rename_i y' hy
            cases h
            exact ⟨ns, xs, z, j, hl, rfl, of_decide_eq_true hb.1, of_decide_eq_true hb.2, hj, hy, rfl⟩
          · cases h
        · cases h
      · cases h
    · cases h
  · cases h
def popPM (i : Nat) (m me : M D) : M D := bnd (ownTM i) fun _ => bnd m fun k => bnd (lockM i me) fun td => popP td.1 k i td.2
theorem v_popP (i : Nat) {x : Str} {ix e : Expr} {px p2 apos pos : Pos} {m me : M D} (hm : PE X ix (rdV X.K m)) (he : PE X e (rdV X.K me)) (hN : X.N[i]? = some x := by rfl) (hv : Vis X.env.scope x := by first | exact Or.inl rfl | exact Or.inr (Or.inl rfl) | exact Or.inr (Or.inr rfl)) (hd : (x == ("__debug__" : Str)) = false := by decide)
    (hcd : (x == ("__classdict__" : Str)) = false := by decide) (hpi : PlainIx ix := by exact fun _ _ => rfl)
    (hbase : attributeBase (.Subscript (.Name x px) ix p2) "pop" X.env (eval (.Subscript (.Name x px) ix p2) X.env) = eval (.Subscript (.Name x px) ix p2) X.env := by rfl)
    (hfew : ((backTo pos (starEach (e :: []) X.env)).all (fun x => !x.1) && (backToKw pos (keywordEach [] X.env)).all (fun x => x.1.isSome)
      && decide ((e :: []).length + ([] : List Keyword).length + (if ([] : List Keyword).isEmpty then 0 else 1) < 30)) = true := by rfl)
    (hline : (apos.endLine == pos.line) = true := by rfl) (hs : starEach (e :: []) X.env = (false, eval e X.env) :: starEach [] X.env := by rfl) (hplain : (backTo pos (starEach [] X.env)).any (·.1) = false := by rfl) :
    PE X (.Call (.Attribute (.Subscript (.Name x px) ix p2) "pop" apos) [e] [] pos) (rdV X.K (popPM i m me)) := by
  refine pe_imp (pe_bm PySem.F.plainAttrs_list PySem.F.slot_list_pop PySem.F.type_list_pop mt_popAt (p_ix (p_name i hN hv hd hcd) hm hpi) (pa_cons he pa_nil hs) hbase hfew hline hs hplain) fun σ H Q h => ?_
  obtain ⟨F, G, ρ, d, ρ', ok, hm, q⟩ := h
  obtain ⟨u, ρ1, h1, h2⟩ := bnd_some hm
  obtain ⟨rfl, t0, hx⟩ := ownT_some h1
  obtain ⟨k, ρ2, h3, h4⟩ := bnd_some h2
  obtain ⟨⟨t, y⟩, ρ3, h5, h6⟩ := bnd_some h4
  obtain ⟨sx, e1, e2, e3, e4, e5⟩ := lockM_some h5
  have h6 : popP t k i y ρ3 = some (d, ρ') := h6
  obtain ⟨ns, xs, z, j, hl, rfl, hb1, hb2, hj, hy, rfl⟩ := popP_some h6
  refine place_run ok hx h3 ⟨sx, e1, e2⟩ hl fun u v as F1 H1 s1 ok1 hs1 ha nd at1 hp => ?_
  obtain ⟨p, rfl, vs, g1, g2⟩ := hp
  have hG := fun a h => (ok1.fp (K' := X.K) e1 e2 hs1 ha).2 a h
  refine ⟨.inl ⟨rfl, vs, SqL.of g1⟩, F1, _, _, _, ρ3, ok1.lock e1 e2 hs1 ha, e3, fun v2 F2 H2 s2 ok2 r2 => ?_⟩
  cases (show v2 = V.int z from r2)
  obtain ⟨p', z1, ⟨ws, z2, z3⟩, z4⟩ := ok2.leafTurn s2 ha nd (fun a h => (hG a h).2) hs1 e5 (leafAt_some hl).2 at1
  cases z1
  obtain ⟨wv, hw, rw'⟩ := z3.get hy
  refine ⟨p, ws, z, j, wv, rfl, rfl, z2, hb1, hb2, by rw [z3.length]; exact hj, hw, ?_⟩
  exact q wv F2 _ (s1.trans s2) (z4 _ _ ⟨_, upd_same, Rps.eraseIdx j z3⟩) rw'
/-- x[m][n] = e -/
def putP (t : Tr) (k : D) (i : Nat) (z d : D) : MS := fun ρ => match leafAt t [k] with
  | some (ns, .lst xs) => (match z with
    | .int z => (match ixN xs.length z with
      | some j => some (.nx, ρ.set i (.t (setTr t ns (.f (.lst (xs.set j d))))))
      | none => none)
    | _ => none)
  | _ => none
theorem putP_some {t : Tr} {k d z : D} {fl : Fl} {i : Nat} {ρ ρ' : Rho} (h : putP t k i z d ρ = some (fl, ρ')) : fl = .nx ∧ ∃ ns xs zz j, leafAt t [k] = some (ns, .lst xs) ∧ z = .int zz ∧ ixN xs.length zz = some j ∧ ρ' = ρ.set i (.t (setTr t ns (.f (.lst (xs.set j d))))) := by
  unfold putP at h
  split at h
  · rename_i ns xs hl
    split at h
    · rename_i z
      split at h
      · rename_i j hj
        cases h
        exact ⟨rfl, ns, xs, z, j, hl, rfl, hj, rfl⟩
      · cases h
    · cases h
  · cases h
def setPM (i : Nat) (m n me : M D) : MS := bnd me fun d => bnd (ownTM i) fun _ => bnd m fun k => bnd (lockM i n) fun tz => putP tz.1 k i tz.2 d
theorem s_setP (i : Nat) {pr : List Nat} {pos : Pos} {e ix ix2 : Expr} {x : Str} {m n me : M D} {px q1 q2 : Pos} (he : PE X e (rdV X.K me)) (hm : PE X ix (rdV X.K m)) (hn : PE X ix2 (rdV X.K n)) (hN : X.N[i]? = some x := by rfl) (hv : Vis X.env.scope x := by first | exact Or.inl rfl | exact Or.inr (Or.inl rfl) | exact Or.inr (Or.inr rfl)) (hd : (x == ("__debug__" : Str)) = false := by decide)
    (hcd : (x == ("__classdict__" : Str)) = false := by decide) (hpi : PlainIx ix := by exact fun _ _ => rfl)
    (ha : ∀ v, assign (.Subscript (.Subscript (.Name x px) ix q1) ix2 q2) X.env v = (do
      let ov ← holding [v] (eval (.Subscript (.Name x px) ix q1) X.env)
      let iv ← holding [v, ov] (eval ix2 X.env)
      standAt q2
      holding [v, ov, iv] (setItem ov iv v)
      release [v, ov, iv] []) := by intro _; rfl)
    (hs : swapsWithSole [.Subscript (.Subscript (.Name x px) ix q1) ix2 q2] e pos.line X.env = pure false := by rfl) (hw : swappedStores [.Subscript (.Subscript (.Name x px) ix q1) ix2 q2] e X.env = pure none := by rfl)
    (h1 : (assignEach [.Subscript (.Subscript (.Name x px) ix q1) ix2 q2] X.env).map (·.2) = [assign (.Subscript (.Subscript (.Name x px) ix q1) ix2 q2) X.env] := by rfl) :
    PS X (.Assign [.Subscript (.Subscript (.Name x px) ix q1) ix2 q2] e pos) (rdS X.K pr (setPM i m n me)) := ps_imp (ps_asg he (pg_sub (p_ix (p_name i hN hv hd hcd) hm hpi) hn set_list ha) hs hw h1) fun E σ H h => by
  obtain ⟨F, G, ρ, fl, ρ', ok, hm, w⟩ := h
  obtain ⟨d, ρ0, h0, hm⟩ := bnd_some hm
  obtain ⟨u, ρ1, h1, h2⟩ := bnd_some hm
  obtain ⟨rfl, t0, hx⟩ := ownT_some h1
  obtain ⟨k, ρ2, h3, h4⟩ := bnd_some h2
  obtain ⟨⟨t, y⟩, ρ3, h5, h6⟩ := bnd_some h4
  obtain ⟨sx, e1, e2, e3, e4, e5⟩ := lockM_some h5
  have h6 : putP t k i y d ρ3 = some (fl, ρ') := h6
  obtain ⟨rfl, ns, xs, z, j, hl, rfl, hj, rfl⟩ := putP_some h6
  refine ⟨F, G, ρ, d, _, ok, h0, fun dv F0 H0 s0 ok0 r0 => ?_⟩
  refine place_run ok0 hx h3 ⟨sx, e1, e2⟩ hl fun u v as F1 H1 s1 ok1 hs1 ha nd at1 hp => ?_
  obtain ⟨p, rfl, vs, g1, g2⟩ := hp
  have hG := fun a h => (ok1.fp (K' := X.K) e1 e2 hs1 ha).2 a h
  refine ⟨F1, _, _, _, ρ3, ok1.lock e1 e2 hs1 ha, e3, fun v2 F2 H2 s2 ok2 r2 => ?_⟩
  cases (show v2 = V.int z from r2)
  obtain ⟨p', z1, ⟨ws, z2, z3⟩, z4⟩ := ok2.leafTurn s2 ha nd (fun a h => (hG a h).2) hs1 e5 (leafAt_some hl).2 at1
  cases z1
  refine ⟨p, ws, z, j, rfl, rfl, z2, by rw [z3.length]; exact hj, ?_⟩
  exact w σ F2 _ ((s0.trans s1).trans s2) (z4 _ _ ⟨_, upd_same, Rps.set (Rp.mono (s1.trans s2) _ _ r0) j z3⟩) Pr.refl
/-! ### x[a].insert(f(d, len(x[a]) + 1), e) -/
def insP (t : Tr) (k : D) (i : Nat) (z d : D) : M D := fun ρ => match leafAt t [k] with
  | some (ns, .lst xs) => (match z with
    | .int z => if decide (xs.length < sizeLine) && decide (0 ≤ z) && decide (z < 2 ^ 63) then some (.none, ρ.set i (.t (setTr t ns (.f (.lst (xs.take z.toNat ++ [d] ++ xs.drop z.toNat)))))) else none
    | _ => none)
  | _ => none
theorem insP_some {t : Tr} {k d z y : D} {i : Nat} {ρ ρ' : Rho} (h : insP t k i z d ρ = some (y, ρ')) : y = .none ∧ ∃ ns xs zz, leafAt t [k] = some (ns, .lst xs) ∧ z = .int zz ∧ xs.length < sizeLine ∧ 0 ≤ zz ∧ zz < 2 ^ 63 ∧ ρ' = ρ.set i (.t (setTr t ns (.f (.lst (xs.take zz.toNat ++ [d] ++ xs.drop zz.toNat))))) := by
  unfold insP at h
  split at h
  · rename_i ns xs hl
    split at h
    · rename_i z
      split at h
      · rename_i hb
        rw [Bool.and_eq_true, Bool.and_eq_true] at hb
        cases h
        exact ⟨rfl, ns, xs, z, hl, rfl, of_decide_eq_true hb.1.1, of_decide_eq_true hb.1.2, of_decide_eq_true hb.2, rfl⟩
      · cases h
    · cases h
  · cases h
def drawArg (di : Nat) (z : Int) : M (List Rf) := consC (argM di) (consC (valM (cM (.int z))) nilC)
def insPM (i j di : Nat) (f : Fn) (me : M D) : M D := bnd (ownTM i) fun _ => bnd (getM j) fun k => bnd (leafLen i k) fun n => match n with
  | .int n => bnd (lockM i (bnd (valS (callM f (drawArg di (n + 1)))) fun a => bnd me fun b => ret (a, b))) fun td => insP td.1 k i td.2.1 td.2.2
  | _ => fun _ => none
theorem drawArg_raw {K : Kf} {di : Nat} {z : Int} {σ : L2.St} {H : Hp} {R : List V → Hp → Prop} {TB : TE} (hB : ∀ Q : VK, Q (.int z) H → TB σ H Q) (h : rdC K (drawArg di z) σ H R) : ∃ v, σ[di]? = some (some v) ∧ TB σ H fun w H2 => R [v, w] H2 := by
  obtain ⟨F, G, ρ, ds, ρ', ok, hm, q⟩ := h
  obtain ⟨r, ρ1, h1, h2⟩ := bnd_some hm
  obtain ⟨rs, ρ2, h3, h4⟩ := bnd_some h2
  cases h3
  cases h4
  have key : ∃ v, ρ' = ρ ∧ σ[di]? = some (some v) ∧ RfOk K F σ v r := by
    unfold argM at h1
    split at h1
    · rename_i d' e
      cases h1
      obtain ⟨v, h1, h2⟩ := ok.val di _ e
      exact ⟨v, rfl, h1, h2⟩
    · rename_i b e
      cases h1
      obtain ⟨p, h1, h2, h3, h4⟩ := ok.own di _ e
      exact ⟨_, rfl, h1, h1⟩
    · rename_i b e
      cases h1
      obtain ⟨p, h1, h2⟩ := ok.scr di _ e
      exact ⟨_, rfl, h1, h1⟩
    · rename_i b e
      cases h1
      obtain ⟨v, as, h1, _⟩ := ok.hold di _ _ e rfl
      exact ⟨_, rfl, h1, h1⟩
    · cases h1
  obtain ⟨v, rfl, hv, hr⟩ := key
  exact ⟨v, hv, hB _ (q [v, .int z] F H (Same.refl F) ok ⟨v, _, rfl, hr, _, _, rfl, (show Rp K F (.int z) (.int z) from rfl), rfl⟩)⟩
theorem tCall_draw {K : Kf} {n di : Nat} {z : Int} {f : Fn} {E : XK} {TB : TE} {σ : L2.St} {H : Hp} {Q : VK} (hB : ∀ Q : VK, Q (.int z) H → TB σ H Q) (hlen : ∀ args r, f args = some r → args.length = n)
    (h : ∃ F G ρ r ρ', Ok K F G H σ ρ ∧ callM f (drawArg di z) ρ = some (r, ρ') ∧ ∀ v F' H', Same F F' → Ok K F' G H' σ ρ' → ResOk K F' G H' σ ρ' v r → Q v H') : tCall (Prm K n f) [] E (fun σ H R => ∃ v, σ[di]? = some (some v) ∧ TB σ H fun w H2 => R [v, w] H2) σ H Q := drawArg_raw hB (call_reads hlen h)
/-- what reading x[a] finds -/
def LeafAt (i j : Nat) (n : Nat) (σ : L2.St) (H : Hp) : Prop := ∃ p vs kk q ws, σ[i]? = some (some (.ref p)) ∧ σ[j]? = some (some (.int kk)) ∧ H p = some (.lst vs) ∧ atI vs kk = some (.ref q) ∧ H q = some (.lst ws) ∧ ws.length = n
theorem v_insA (i j di : Nat) {x a dn g : Str} {px pa pd pg ps p2 apos pos : Pos} {k : Nat} {f : Fn} {me : M D} {e2 eb : Expr} {TB : TE}
    (D : Df X.prog X.w X.K X.mg X.base k g 2 f) (hr : Room k X.A) (hgl : Gl X g) (hadd : PE X eb TB) (hB : ∀ (n : Nat) (σ : L2.St) (H : Hp) (Q : VK), LeafAt i j n σ H → Q (.int ((n : Nat) + 1)) H → TB σ H Q) (he2 : PE X e2 (rdV X.K me))
    (hN : X.N[i]? = some x) (hNa : X.N[j]? = some a) (hNd : X.N[di]? = some dn)
    (hv : Vis X.env.scope x) (hva : Vis X.env.scope a) (hvd : Vis X.env.scope dn)
    (hd : (x == ("__debug__" : Str)) = false) (hcd : (x == ("__classdict__" : Str)) = false) (hda : (a == ("__debug__" : Str)) = false) (hcda : (a == ("__classdict__" : Str)) = false) (hdd : (dn == ("__debug__" : Str)) = false) (hcdd : (dn == ("__classdict__" : Str)) = false)
    (hgdb : (g == ("__debug__" : Str)) = false)
    (heb : starEach (eb :: []) X.env = (false, eval eb X.env) :: starEach [] X.env)
    (hed : starEach (.Name dn pd :: [eb]) X.env = (false, eval (.Name dn pd) X.env) :: starEach [eb] X.env)
    (hpl1 : (backTo p2 (starEach [eb] X.env)).any (·.1) = false)
    (hbase : attributeBase (.Subscript (.Name x px) (.Name a pa) ps) "insert" X.env (eval (.Subscript (.Name x px) (.Name a pa) ps) X.env) = eval (.Subscript (.Name x px) (.Name a pa) ps) X.env)
    (hfew : ((backTo pos (starEach (.Call (.Name g pg) [.Name dn pd, eb] [] p2 :: [e2]) X.env)).all (fun x => !x.1) && (backToKw pos (keywordEach [] X.env)).all (fun x => x.1.isSome)
      && decide ((Expr.Call (.Name g pg) [.Name dn pd, eb] [] p2 :: [e2]).length + ([] : List Keyword).length + (if ([] : List Keyword).isEmpty then 0 else 1) < 30)) = true)
    (hline : (apos.endLine == pos.line) = true)
    (hs : starEach (.Call (.Name g pg) [.Name dn pd, eb] [] p2 :: [e2]) X.env = (false, eval (.Call (.Name g pg) [.Name dn pd, eb] [] p2) X.env) :: starEach [e2] X.env)
    (hs2 : starEach (e2 :: []) X.env = (false, eval e2 X.env) :: starEach [] X.env) (hplain : (backTo pos (starEach [e2] X.env)).any (·.1) = false) :
    PE X (.Call (.Attribute (.Subscript (.Name x px) (.Name a pa) ps) "insert" apos) [.Call (.Name g pg) [.Name dn pd, eb] [] p2, e2] [] pos) (rdV X.K (insPM i j di f me)) := by
  have hcall : PE X (.Call (.Name g pg) [.Name dn pd, eb] [] p2) (tCall (Prm X.K 2 f) [] E0 (fun σ H R => ∃ v, σ[di]? = some (some v) ∧ TB σ H fun w H2 => R [v, w] H2)) := pe_callX (P := X.prog) (p := pg) D hr hgl (pa_imp (pa_cons (pe_var (i := di) (pos := pd) hNd hvd hdd hcdd) (pa_cons hadd pa_nil heb) hed) fun σ H Q h => h) hgdb hed hpl1
  refine pe_imp (pe_bm PySem.F.plainAttrs_list PySem.F.slot_list_insert PySem.F.type_list_insert mt_insert (p_ix (p_name i hN hv hd hcd) (v_name j hNa hva hda hcda)) (pa_cons hcall (pa_cons he2 pa_nil hs2) hs) hbase hfew hline hs hplain) fun σ H Q h => ?_
  obtain ⟨F, G, ρ, d, ρ', ok, hm, q⟩ := h
  obtain ⟨u, ρ1, h1, h2⟩ := bnd_some hm
  obtain ⟨rfl, t0, hx⟩ := ownT_some h1
  obtain ⟨k, ρ2, h3, h4⟩ := bnd_some h2
  obtain ⟨n, ρ2', hn, h4⟩ := bnd_some h4
  obtain ⟨rfl, t1, ns, xs, e1, hl, rfl⟩ := leafLen_some hn
  obtain ⟨⟨t, y⟩, ρ3, h5, h6⟩ := bnd_some (show bnd (lockM i _) _ _ = _ from h4)
  obtain ⟨sx, e1', e2, e3, e4, e5⟩ := lockM_some h5
  rw [e1] at e1'
  cases e1'
  cases e2
  obtain ⟨av, ρ4, h7, h8⟩ := bnd_some e3
  obtain ⟨bv, ρ5, h9, h10⟩ := bnd_some h8
  cases h10
  obtain ⟨hi, hsub⟩ := leafAt_some hl
  obtain ⟨ms, ts, kk, j', f1, f2, rfl, f4, _, rfl⟩ := idxs_snoc _ [] k ns hi
  have : ms = [] := by cases t1 <;> (simp [idxs] at f1; exact f1)
  subst this
  have : t1 = .l ts := by cases t1 <;> (simp [subTr] at f2; try exact f2) <;> (rw [f2])
  subst this
  have hj : ρ2'[j]? = some (.v (.int kk)) := by
    unfold getM at h3
    split at h3
    · rename_i d' e
      cases h3
      exact e
    · cases h3
    · cases h3
    · cases h3
  have h6 : insP (.l ts) (.int kk) i av bv ρ3 = some (d, ρ') := h6
  obtain ⟨rfl, ns', ys, z, hl', rfl, hb1, hb2, hb3, rfl⟩ := insP_some h6
  rw [hl] at hl'
  cases hl'
  refine place_run ok hx h3 ⟨_, e1, rfl⟩ hl fun u v as F1 H1 s1 ok1 hs1 ha nd at1 hp => ?_
  obtain ⟨p, rfl, vs, g1, g2⟩ := hp
  have hG := fun a h => (ok1.fp (K' := X.K) e1 rfl hs1 ha).2 a h
  refine ⟨.inl ⟨rfl, vs, SqL.of g1⟩, ?_⟩
  obtain ⟨kv, hkv, rk⟩ := ok1.val j _ hj
  cases (show kv = V.int kk from rk)
  have hlf : LeafAt i j xs.length σ H1 := by
    obtain ⟨pp, us, bs, c1, c2, c3, c4⟩ := ha
    subst c1
    cases at1 with
    | cons b1 b2 b3 =>
      rw [c3] at b1; cases b1
      cases b3
      refine ⟨pp, us, kk, p, vs, hs1, hkv, c3, ?_, g1, g2.length⟩
      unfold atI
      rw [trs_len _ _ _ c4, f4]
      exact b2
  obtain ⟨r, hr1, hr2⟩ := valS_reads (F := F1) (G := G) h7
  refine tCall_draw (hB _ σ H1 · hlf) D.len ⟨F1, _, _, r, _, ok1.lock e1 rfl hs1 ha, hr1, fun v1 F2 H2 s2 ok2 hr => ?_⟩
  obtain ⟨F3, s3, ok3, r3⟩ := res_val (Q := fun v1 H2 => ∃ F3, Same F2 F3 ∧ Ok X.K F3 (lk G H1 as) H2 σ ρ4 ∧ Rp X.K F3 (.int z) v1) ok2 hr hr2 fun F3 s3 ok3 r3 => ⟨F3, s3, ok3, r3⟩
  cases (show v1 = V.int z from r3)
  refine ⟨F3, _, _, bv, ρ3, ok3, h9, fun v2 F4 H4 s4 ok4 r4 => ?_⟩
  obtain ⟨p', z1, ⟨ws, z2, z3⟩, z4⟩ := ok4.leafTurn ((s2.trans s3).trans s4) ha nd (fun a h => (hG a h).2) hs1 e5 (leafAt_some hl).2 at1
  cases z1
  refine ⟨p, ws, z, v2, rfl, rfl, z2, by rw [z3.length]; exact hb1, hb2, hb3, ?_⟩
  exact q .non F4 _ (((s1.trans s2).trans s3).trans s4) (z4 _ _ ⟨_, upd_same, ((z3.take _).append (Rps.one r4)).append (z3.drop _)⟩) rfl
theorem v_insP (i j di : Nat) {x a dn g ln : Str} {px pa pd pg pl p2 p4 pc pb pk apos pos px2 pa2 ps : Pos} {jk k : Nat} {f : Fn} {me : M D} {e2 : Expr}
    (D : Df X.prog X.w X.K X.mg X.base k g 2 f) (hr : Room k X.A) (hgl : Gl X g) (hc : X.calm = true) (hgn : Gl X ln) (hml : X.mg ln = none) (hbl : bootBuiltins ln = some (.builtin "len")) (he2 : PE X e2 (rdV X.K me))
    (hN : X.N[i]? = some x := by rfl) (hNa : X.N[j]? = some a := by rfl) (hNd : X.N[di]? = some dn := by rfl)
    (hv : Vis X.env.scope x := by first | exact Or.inl rfl | exact Or.inr (Or.inl rfl) | exact Or.inr (Or.inr rfl)) (hva : Vis X.env.scope a := by first | exact Or.inl rfl | exact Or.inr (Or.inl rfl) | exact Or.inr (Or.inr rfl)) (hvd : Vis X.env.scope dn := by first | exact Or.inl rfl | exact Or.inr (Or.inl rfl) | exact Or.inr (Or.inr rfl))
    (hd : (x == ("__debug__" : Str)) = false := by decide) (hcd : (x == ("__classdict__" : Str)) = false := by decide) (hda : (a == ("__debug__" : Str)) = false := by decide) (hcda : (a == ("__classdict__" : Str)) = false := by decide) (hdd : (dn == ("__debug__" : Str)) = false := by decide) (hcdd : (dn == ("__classdict__" : Str)) = false := by decide)
    (hln : ln ≠ "__name__" := by decide) (hldb : (ln == ("__debug__" : Str)) = false := by decide) (hgdb : (g == ("__debug__" : Str)) = false := by decide)
    (hel : starEach (.Subscript (.Name x px2) (.Name a pa2) p4 :: []) X.env = (false, eval (.Subscript (.Name x px2) (.Name a pa2) p4) X.env) :: starEach [] X.env := by rfl) (hpll : (backTo pl (starEach [] X.env)).any (·.1) = false := by rfl)
    (heb : starEach (.BinOp (.Call (.Name ln pc) [.Subscript (.Name x px2) (.Name a pa2) p4] [] pl) .Add (.Constant (.int 1) jk pk) pb :: []) X.env = (false, eval (.BinOp (.Call (.Name ln pc) [.Subscript (.Name x px2) (.Name a pa2) p4] [] pl) .Add (.Constant (.int 1) jk pk) pb) X.env) :: starEach [] X.env := by rfl)
    (hed : starEach (.Name dn pd :: [.BinOp (.Call (.Name ln pc) [.Subscript (.Name x px2) (.Name a pa2) p4] [] pl) .Add (.Constant (.int 1) jk pk) pb]) X.env = (false, eval (.Name dn pd) X.env) :: starEach [.BinOp (.Call (.Name ln pc) [.Subscript (.Name x px2) (.Name a pa2) p4] [] pl) .Add (.Constant (.int 1) jk pk) pb] X.env := by rfl)
    (hpl1 : (backTo p2 (starEach [.BinOp (.Call (.Name ln pc) [.Subscript (.Name x px2) (.Name a pa2) p4] [] pl) .Add (.Constant (.int 1) jk pk) pb] X.env)).any (·.1) = false := by rfl)
    (hbase : attributeBase (.Subscript (.Name x px) (.Name a pa) ps) "insert" X.env (eval (.Subscript (.Name x px) (.Name a pa) ps) X.env) = eval (.Subscript (.Name x px) (.Name a pa) ps) X.env := by rfl)
    (hfew : ((backTo pos (starEach (.Call (.Name g pg) [.Name dn pd, .BinOp (.Call (.Name ln pc) [.Subscript (.Name x px2) (.Name a pa2) p4] [] pl) .Add (.Constant (.int 1) jk pk) pb] [] p2 :: [e2]) X.env)).all (fun x => !x.1) && (backToKw pos (keywordEach [] X.env)).all (fun x => x.1.isSome)
      && decide ((Expr.Call (.Name g pg) [.Name dn pd, .BinOp (.Call (.Name ln pc) [.Subscript (.Name x px2) (.Name a pa2) p4] [] pl) .Add (.Constant (.int 1) jk pk) pb] [] p2 :: [e2]).length + ([] : List Keyword).length + (if ([] : List Keyword).isEmpty then 0 else 1) < 30)) = true := by rfl)
    (hline : (apos.endLine == pos.line) = true := by rfl)
    (hs : starEach (.Call (.Name g pg) [.Name dn pd, .BinOp (.Call (.Name ln pc) [.Subscript (.Name x px2) (.Name a pa2) p4] [] pl) .Add (.Constant (.int 1) jk pk) pb] [] p2 :: [e2]) X.env = (false, eval (.Call (.Name g pg) [.Name dn pd, .BinOp (.Call (.Name ln pc) [.Subscript (.Name x px2) (.Name a pa2) p4] [] pl) .Add (.Constant (.int 1) jk pk) pb] [] p2) X.env) :: starEach [e2] X.env := by rfl)
    (hs2 : starEach (e2 :: []) X.env = (false, eval e2 X.env) :: starEach [] X.env := by rfl) (hplain : (backTo pos (starEach [e2] X.env)).any (·.1) = false := by rfl) :
    PE X (.Call (.Attribute (.Subscript (.Name x px) (.Name a pa) ps) "insert" apos) [.Call (.Name g pg) [.Name dn pd, .BinOp (.Call (.Name ln pc) [.Subscript (.Name x px2) (.Name a pa2) p4] [] pl) .Add (.Constant (.int 1) jk pk) pb] [] p2, e2] [] pos) (rdV X.K (insPM i j di f me)) := by
  have hlen := pe_callB (call_lenG (X := X)) (p := pc) hgn hml hbl (pa_cons (pe_ix (pos := p4) ix_list (pe_var (i := i) (pos := px2) hN hv hd hcd) (pe_var (i := j) (pos := pa2) hNa hva hda hcda) (fun _ _ => rfl)) pa_nil hel) hln hldb hel hpll
  refine v_insA i j di D hr hgl (pe_op (pos := pb) op_add hlen (pe_int (X := X) (i := 1) (j := jk) (pos := pk))) (fun n σ H Q hlf hq => ?_) he2 hN hNa hNd hv hva hvd hd hcd hda hcda hdd hcdd hgdb heb hed hpl1 hbase hfew hline hs hs2 hplain
  obtain ⟨p, vs, kk, q, ws, c1, c2, c3, c4, c5, rfl⟩ := hlf
  exact ⟨.ref p, c1, .int kk, c2, p, vs, kk, .ref q, rfl, rfl, SqL.of c3, c4, .inl ⟨_, ws.length, rfl, .inl ⟨ws, SqL.of c5, rfl⟩, _, _, rfl, rfl, hq⟩⟩
end
/-! ### preconditions -/
section
variable {ρ : Rho} {i : Nat}
theorem idxs_rows {xss : List (List D)} {j : Nat} {xs : List D} (hj : xss[j]? = some xs) : idxs (rowsT xss) [.int (j : Nat)] = some [j] := by
  have hjl : j < xss.length := (List.getElem?_eq_some_iff.mp hj).1
  have hix : ixN (xss.map fun xs => Tr.f (.lst xs)).length (j : Int) = some j := by
    rw [List.length_map]
    unfold ixN
    first
      | (rw [if_pos (by omega)]; simp; done)
      | (simp; omega)
  have hg : (xss.map fun xs => Tr.f (.lst xs))[j]? = some (.f (.lst xs)) := by rw [List.getElem?_map, hj]; rfl
  show (match ixN (xss.map fun xs => Tr.f (.lst xs)).length ((j : Nat) : Int) with
    | some j => (match (xss.map fun xs => Tr.f (.lst xs))[j]? with
      | some t => (idxs t []).map (j :: ·)
      | none => none)
    | none => none) = _
  rw [hix]; dsimp only; rw [hg]; rfl
theorem leafAt_rows {xss : List (List D)} {j : Nat} {xs : List D} (hj : xss[j]? = some xs) : leafAt (rowsT xss) [.int (j : Nat)] = some ([j], .lst xs) := by
  have hg : (xss.map fun xs => Tr.f (.lst xs))[j]? = some (.f (.lst xs)) := by rw [List.getElem?_map, hj]; rfl
  have hsub : subTr (rowsT xss) [j] = some (.f (.lst xs)) := by
    show (match (xss.map fun xs => Tr.f (.lst xs))[j]? with
      | some u => subTr u []
      | none => none) = _
    rw [hg]; rfl
  unfold leafAt
  rw [idxs_rows hj]; dsimp only; rw [hsub]
theorem setTr_rows {xss : List (List D)} {j : Nat} {xs : List D} (hj : xss[j]? = some xs) (ys : List D) : setTr (rowsT xss) [j] (.f (.lst ys)) = rowsT (xss.set j ys) := by
  have hg : (xss.map fun xs => Tr.f (.lst xs))[j]? = some (.f (.lst xs)) := by rw [List.getElem?_map, hj]; rfl
  show (match (xss.map fun xs => Tr.f (.lst xs))[j]? with
    | some u => Tr.l ((xss.map fun xs => Tr.f (.lst xs)).set j (setTr u [] (.f (.lst ys))))
    | none => .l (xss.map fun xs => Tr.f (.lst xs))) = _
  rw [hg]
  show Tr.l ((xss.map fun xs => Tr.f (.lst xs)).set j (.f (.lst ys))) = .l ((xss.set j ys).map fun xs => Tr.f (.lst xs))
  rw [List.map_set]
theorem lock_eq {α : Type} {m : M α} {t : Tr} {r : α} {ρ2 : Rho} (e : ρ[i]? = some (.t t)) (h1 : m (ρ.set i .u) = some (r, ρ2)) (h2 : ρ2.length = ρ.length) (h3 : ρ2[i]? = some .u) : lockM i m ρ = some ((t, r), ρ2) := by
  unfold lockM
  rw [e]
  dsimp only [Sl.tr]
  rw [h1]; dsimp only; rw [if_pos h2, h3]
theorem ownT_eq {t : Tr} (e : ρ[i]? = some (.t t)) : ownTM i ρ = some ((), ρ) := by unfold ownTM; rw [e]
theorem wp_co {xss : List (List D)} {m : MS} {Q : Fl → Rho → Prop} (e : ρ[i]? = some (.t (rowsT xss))) (h : wp m (ρ.set i (.o (.lst (xss.map PyData.list)))) Q) : wp (bnd (coM i) fun _ => m) ρ Q := wp_bnd ⟨(), _, by
  unfold coM
  rw [e]
  unfold rowsT
  dsimp only
  rw [toDs_rows], h⟩
theorem wp_coO {ds : List D} {m : MS} {Q : Fl → Rho → Prop} (e : ρ[i]? = some (.o (.lst ds))) (h : wp m ρ Q) : wp (bnd (coM i) fun _ => m) ρ Q := wp_bnd ⟨(), ρ, by unfold coM; rw [e], h⟩
theorem wp_lenLeaf {m : M D} {t0 : Tr} {Q : D → Rho → Prop} (e : ρ[i]? = some (.t t0)) (h : wp m ρ fun k ρ1 => ∃ (xss : List (List D)) (j : Nat) (xs : List D), k = .int (j : Nat) ∧ ρ1[i]? = some (.t (rowsT xss)) ∧ xss[j]? = some xs ∧ Q (.int (xs.length : Nat)) ρ1) : wp (lenLeafM i m) ρ Q := by
  obtain ⟨k, ρ1, h1, xss, j, xs, rfl, e1, e2, q⟩ := h
  refine ⟨_, ρ1, (bnd_eq (ownT_eq e)).trans ((bnd_eq h1).trans ?_), q⟩
  unfold leafLen
  rw [e1]
  dsimp only
  rw [leafAt_rows e2]
theorem wp_popP {m me : M D} {t0 : Tr} {Q : D → Rho → Prop} (e : ρ[i]? = some (.t t0)) (h : wp m ρ fun k ρ1 => ∃ (xss : List (List D)) (j : Nat) (xs : List D), k = .int (j : Nat) ∧ ρ1[i]? = some (.t (rowsT xss)) ∧ xss[j]? = some xs ∧
    wp me (ρ1.set i .u) fun z ρ2 => ρ2.length = ρ1.length ∧ ρ2[i]? = some .u ∧ ∃ (n : Nat) (y : D), z = .int (n : Nat) ∧ n < 2 ^ 63 ∧ xs[n]? = some y ∧ Q y (ρ2.set i (.t (rowsT (xss.set j (xs.eraseIdx n)))))) : wp (popPM i m me) ρ Q := by
  obtain ⟨k, ρ1, h1, xss, j, xs, rfl, e1, e2, z, ρ2, h2, h3, h4, n, y, rfl, h5, h6, q⟩ := h
  refine ⟨_, _, (bnd_eq (ownT_eq e)).trans ((bnd_eq h1).trans ((bnd_eq (lock_eq e1 h2 h3 h4)).trans ?_)), q⟩
  have hn := (List.getElem?_eq_some_iff.mp h6).1
  unfold popP
  dsimp only
  rw [leafAt_rows e2]
  dsimp only
  rw [if_pos (by rw [Bool.and_eq_true]; exact ⟨decide_eq_true (by omega), decide_eq_true (by omega)⟩), (show seqIndex? ((n : Nat) : Int) xs.length = some n from seqIndex_of (by omega) (by omega))]
  dsimp only
  rw [h6, setTr_rows e2]
theorem wp_setP {m n me : M D} {Q : Fl → Rho → Prop} (h : wp me ρ fun d ρ0 => ∃ t0, ρ0[i]? = some (.t t0) ∧ wp m ρ0 fun k ρ1 => ∃ (xss : List (List D)) (j : Nat) (xs : List D), k = .int (j : Nat) ∧ ρ1[i]? = some (.t (rowsT xss)) ∧ xss[j]? = some xs ∧
    wp n (ρ1.set i .u) fun z ρ2 => ρ2.length = ρ1.length ∧ ρ2[i]? = some .u ∧ ∃ (q : Nat), z = .int (q : Nat) ∧ q < xs.length ∧ Q .nx (ρ2.set i (.t (rowsT (xss.set j (xs.set q d)))))) : wp (setPM i m n me) ρ Q := by
  obtain ⟨d, ρ0, h0, t0, e, k, ρ1, h1, xss, j, xs, rfl, e1, e2, z, ρ2, h2, h3, h4, q, rfl, h5, w⟩ := h
  refine ⟨_, _, (bnd_eq h0).trans ((bnd_eq (ownT_eq e)).trans ((bnd_eq h1).trans ((bnd_eq (lock_eq e1 h2 h3 h4)).trans ?_))), w⟩
  unfold putP
  dsimp only
  rw [leafAt_rows e2]
  dsimp only
  have : ixN xs.length ((q : Nat) : Int) = some q := by
    unfold ixN
    simp [h5]
  rw [this]
  dsimp only
  rw [setTr_rows e2]
theorem wp_insP {jj di : Nat} {f : Fn} {me : M D} {Q : D → Rho → Prop} {xss : List (List D)} {j : Nat} {xs : List D} (e : ρ[i]? = some (.t (rowsT xss))) (ej : ρ[jj]? = some (.v (.int (j : Nat)))) (e2 : xss[j]? = some xs)
    (h : wp (valS (callM f (drawArg di (((xs.length : Nat) : Int) + 1)))) (ρ.set i .u) fun a ρ1 => ∃ n : Nat, a = .int (n : Nat) ∧ n < 2 ^ 63 ∧ wp me ρ1 fun b ρ2 => ρ2.length = ρ.length ∧ ρ2[i]? = some .u ∧ xs.length < sizeLine ∧ Q .none (ρ2.set i (.t (rowsT (xss.set j (xs.take n ++ [b] ++ xs.drop n)))))) : wp (insPM i jj di f me) ρ Q := by
  obtain ⟨a, ρ1, h1, n, rfl, hn, b, ρ2, h2, h3, h4, h5, q⟩ := h
  have hg : getM jj ρ = some (.int (j : Nat), ρ) := by unfold getM; rw [ej]
  have hl : leafLen i (.int (j : Nat)) ρ = some (.int (xs.length : Nat), ρ) := by unfold leafLen; rw [e]; dsimp only; rw [leafAt_rows e2]
  have hb : (bnd (valS (callM f (drawArg di (((xs.length : Nat) : Int) + 1)))) fun a => bnd me fun b => ret (a, b)) (ρ.set i .u) = some ((.int (n : Nat), b), ρ2) := (bnd_eq h1).trans ((bnd_eq h2).trans rfl)
  refine ⟨_, _, (bnd_eq (ownT_eq e)).trans ((bnd_eq hg).trans ((bnd_eq hl).trans ((bnd_eq (lock_eq e hb h3 h4)).trans ?_))), q⟩
  unfold insP
  dsimp only
  rw [leafAt_rows e2]
  dsimp only
  rw [if_pos (by rw [Bool.and_eq_true, Bool.and_eq_true]; exact ⟨⟨decide_eq_true h5, decide_eq_true (by omega)⟩, decide_eq_true (by omega)⟩), setTr_rows e2, Int.toNat_natCast]
theorem wp_ins {m n : M D} {xs0 : List D} {Q : D → Rho → Prop} (e : ρ[i]? = some (.o (.lst xs0))) (h : wp m ρ fun k ρ1 => wp n ρ1 fun d ρ2 => ∃ (xs : List D) (j : Nat), k = .int (j : Nat) ∧ ρ2[i]? = some (.o (.lst xs)) ∧ xs.length < sizeLine ∧ j < 2 ^ 63 ∧ Q .none (ρ2.set i (.o (.lst (xs.take j ++ [d] ++ xs.drop j))))) : wp (insM i m n) ρ Q := by
  obtain ⟨k, ρ1, h1, d, ρ2, h2, xs, j, rfl, h3, h4, h5, q⟩ := h
  have h0 : ownLM i ρ = some ((), ρ) := by unfold ownLM; rw [e]
  refine ⟨_, _, (bnd_eq h0).trans ((bnd_eq h1).trans ((bnd_eq h2).trans ?_)), q⟩
  unfold insL
  rw [h3]
  dsimp only
  rw [if_pos (by rw [Bool.and_eq_true, Bool.and_eq_true]; exact ⟨⟨decide_eq_true h4, decide_eq_true (by omega)⟩, decide_eq_true (by omega)⟩), Int.toNat_natCast]
theorem wp_getTO {xs : List D} {Q : D → Rho → Prop} (e : ρ[i]? = some (.o (.lst xs))) (h : Q (.list xs) (ρ.set i (.v (.list xs)))) : wp (getTM i) ρ Q := ⟨_, _, by unfold getTM; rw [e]; dsimp only; unfold getM; rw [e], h⟩
end
end Fx
/-! Fx: dict comprehensions, keys of any kind that own dicts know. -/
namespace Fx
open PySem PySem.Spec PyProof.Rows L2
variable [Wd]
/-- a's dict is laid a key by the machine's own hand: then the heap is H' -/
structure DS (X : Cx) (H : Hp) (a : Addr) (y v : V) (H' : Hp) : Prop where
  put : ∀ {pins : List (Addr × Obj)} {σ : L2.St} {s : Shared} {u r : Value} {A : Around} {E : Value → Shared → Prop} {Q : Unit → Shared → Prop}, A.units + 45 < cLine → Inv X pins σ H s → RelV y u → RelV v r → (∀ s', Inv X pins σ H' s' → Q () s') →
    wpAny (model X.prog X.w) A (dictSet a u r) Q E s
section
variable {X : Cx} {H H' : Hp} {a b : Addr} {y v : V} {ws : List (Key × V)} {q : Key} {es : List (PyData × Addr × V)} {k : PyData}
theorem DS.flat {u0 : HO} (e : H a = some u0) (mu : Mut (some u0)) (P : ProvK X H a ws) (l : ws.length < sizeLine) : DS X H a (kV q) v (upd H a (.dK (putK ws q v))) := ⟨fun hu I ry rv h => by
  obtain ⟨z, hd, vs, rel, dd⟩ := P I
  have hz : vs.length ≤ sizeLine := by rw [← rel.length]; exact z
  have hl : (putK ws q v).length ≤ sizeLine := by have := length_putK ws q v; omega
  refine wpAny_dictSet_pairs (hsz := hz) (kV_is ry) dd fun h' dd' hs => h _ ?_
  have he : ∃ q, h'.get? a = some q := let ⟨q, _, _, hq, _⟩ := dd'; ⟨q, hq⟩
  exact d_write I (by rw [e]; exact mu) hs he (dk_new hl hd (rel.put q rv) dd')⟩
theorem DS.nest {u0 : HO} (hw : X.w = Wd.w) (e : H a = some u0) (mu : Mut (some u0)) (P : ProvE X H a es) (hkt : keyT k = true) (hd : Dp X.K H (.ref b) k) (hl : es.length < sizeLine) : DS X H a (.ref b) v (upd H a (DictO a (putE es k b v))) := ⟨fun {pins σ s u r A E Q} hu I ry rv h => by
  obtain ⟨z, lo, kt, us, rvs, dd⟩ := P I
  cases ry
  have hz : (entsE es us).length ≤ sizeLine := by
    unfold entsE
    rw [List.length_map, List.length_zip]
    exact Nat.le_trans (Nat.min_le_left _ _) z
  refine wpAny_dictSet_heap (hsz := hz) (by show _ + _ < _; omega) (key_at I hkt hd) dd fun h' dd' hs => h _ ?_
  obtain ⟨us', g1, g2⟩ := putE_ents (b := b) rv hkt rvs kt
  obtain ⟨q, arr, ep, hq, h2, h3, h4, h5, h6⟩ := dd'
  refine d_write I (by rw [e]; exact mu) hs ⟨q, hq⟩ (dictO_ok (us := us') ?_ lo ?_ (putE_keys hkt kt) g1 hq h2 h3 ?_)
  · have := putE_len (es := es) (b := b) (v := v) (k := k); omega
  · rw [← g2, entsE_fst g1] at h6; exact h6
  · rw [h4, ← g2, entsE, List.map_map, hw]
    rfl⟩
end
/-- what stands at a new dict's address -/
def DcO (K : Kf) (F : Hp) (p : Addr) (kvs : List (D × D)) (u : HO) : Prop := (∃ ws, u = .dK ws ∧ Rpk K F kvs ws) ∨ ∃ es, u = DictO p es ∧ Rpe K F kvs es
theorem DcO.at {K : Kf} {F H : Hp} {p : Addr} {kvs : List (D × D)} {u : HO} (h : DcO K F p kvs u) (e : H p = some u) : DcAt K F H p kvs := by
  rcases h with ⟨ws, rfl, r⟩ | ⟨es, rfl, r⟩
  · exact .inl ⟨ws, e, r⟩
  · exact .inr ⟨es, e, r⟩
theorem DcO.mono {K : Kf} {F F' : Hp} {p : Addr} {kvs : List (D × D)} {u : HO} (s : Same F F') (h : DcO K F p kvs u) : DcO K F' p kvs u := by
  rcases h with ⟨ws, rfl, r⟩ | ⟨es, rfl, r⟩
  · exact .inl ⟨ws, rfl, Rpk.mono s _ _ r⟩
  · exact .inr ⟨es, rfl, Rpe.mono s _ _ r⟩
theorem DcO.put {X : Cx} {F H : Hp} {p : Addr} {kvs : List (D × D)} {u : HO} {k d : D} {y v : V} (s : Same F H) (h : DcO X.K F p kvs u) (e : H p = some u) (fit : keyFit kvs k = true) (hl : kvs.length < sizeLine) (r : Rp X.K F k y) (rv : Rp X.K F d v) :
    ∃ u', (∀ Y : Cx, Y.w = Wd.w → Y.K = X.K → DS Y H p y v (upd H p u')) ∧ DcO X.K F p (putD kvs k d) u' := by
  unfold keyFit at fit
  split at fit
  · rename_i q hq
    cases key_v hq r
    rcases h with ⟨ws, rfl, h2⟩ | ⟨es, rfl, h2⟩
    · exact ⟨_, fun Y _ _ => DS.flat e trivial (ProvK.of (.inl e)) (by rw [h2.len]; exact hl), .inl ⟨_, rfl, putD_K hq rv h2⟩⟩
    · cases kvs with
      | nil =>
        cases h2
        exact ⟨_, fun Y _ _ => DS.flat e trivial (Empty.k (empty_E (.inl e))) hl, .inl ⟨_, rfl, putD_K hq rv (kvs := []) (ws := []) rfl⟩⟩
      | cons e' kvs =>
        obtain ⟨k', d'⟩ := e'
        obtain ⟨b, v', r', rfl, g1, g2, g3⟩ := h2
        have := (List.all_eq_true.mp fit) (k', d') List.mem_cons_self
        exfalso
        obtain ⟨q', hq'⟩ := Option.isSome_iff_exists.mp this
        have := key_v hq' g1
        cases q' <;> cases this
  · rw [Bool.and_eq_true] at fit
    obtain ⟨b, rfl⟩ := keyT_at fit.1 r
    rcases h with ⟨ws, rfl, h2⟩ | ⟨es, rfl, h2⟩
    · cases kvs with
      | nil =>
        cases h2
        exact ⟨_, fun Y hw hK => DS.nest hw e trivial (Empty.e (empty_K (.inl e))) fit.1 (Rp.dpT (X := Y) s fit.1 (by rw [hK]; exact r)) hl, .inr ⟨_, rfl, putD_E r rv (kvs := []) (es := []) rfl⟩⟩
      | cons e' kvs =>
        have a1 := Rpk.keys h2 e' List.mem_cons_self
        have a2 := (List.all_eq_true.mp fit.2) e' List.mem_cons_self
        rw [keyT_atom a2] at a1
        cases a1
    · refine ⟨_, fun Y hw hK => DS.nest hw e trivial (provE hw s (.inl e) (by rw [hK]; exact h2) fun x hx => ?_) fit.1 (Rp.dpT (X := Y) s fit.1 (by rw [hK]; exact r)) (by rw [h2.len]; exact hl), .inr ⟨_, rfl, putD_E r rv h2⟩⟩
      have hm : x.1 ∈ kvs.map (·.1) := by rw [← h2.keys]; exact List.mem_map.mpr ⟨x, hx, rfl⟩
      obtain ⟨e', he, ee⟩ := List.mem_map.mp hm
      rw [← ee]
      exact (List.all_eq_true.mp fit.2) e' he
/-! ### the comprehension's walk -/
/-- what is wished of a new dict's comprehension -/
def tDcG (X : Cx) (wi : TI) (g : TG) (tt : TT) (tk tv : TE) (vs : List Nat) : TE := fun σ H Q => wi σ H fun J H1 => ∀ Dn, H1 Dn = none → ∃ W : Nat → Nat → Hp → Prop, (∃ m, W 0 m (upd H1 Dn (.dK []))) ∧ ∀ i m H, W i m H →
  (J.stop i H ∧ Q (.ref Dn) H) ∨ (J.go i H ∧ ∃ Nx : Hp → Prop, (∀ H', Nx H' → ∃ m', m' < m ∧ W (i + 1) m' H') ∧ ∀ x H', J.yld i H x H' → g x (wipe σ vs) H' fun σ2 H2 => wipe σ2 vs = wipe σ vs ∧ tt σ2 H2 fun b H3 =>
    if b = true then tk σ2 H3 fun y H4 => tv σ2 H4 fun z H5 => ∃ H6, (∀ Y : Cx, Y.w = X.w → Y.K = X.K → Y.prog = X.prog → DS Y H5 Dn y z H6) ∧ Nx H6 else Nx H3)
section
variable {X : Cx} {kx vx tg iter : Expr} {ifs : List Expr} {scope : Scope} {own : List (Str × Nat)} {pos : Pos} {wi : TI} {g : TG} {tt : TT} {tk tv : TE}
theorem dcG_core {pins : List (Addr × Obj)} {s : Shared} {σ : L2.St} {H : Hp} {Q : VK} {pos' : Pos} {use : Option (Value → Sem Unit)} {Qf : Value → Shared → Prop} (I : Inv X pins σ H s) (hu : X.A.units + 64 < cLine) (hc : X.calm = true) (hN : X.N.Nodup) (hi : PI X tg iter wi) (bk : BlkOk X.N X.env.scope scope own)
    (hg : ∀ (s : Shared) (H : Hp) (C : Addr) (cl : List (Str × Addr)) (fp : List Addr), PG (X.blk s H scope (compEnvC scope cl C X.env) fp) tg g) (ht : ∀ (s : Shared) (H : Hp) (C : Addr) (cl : List (Str × Addr)) (fp : List Addr), PTs (X.blk s H scope (compEnvC scope cl C X.env) fp) ifs tt)
    (hk : ∀ (s : Shared) (H : Hp) (C : Addr) (cl : List (Str × Addr)) (fp : List Addr), PE (X.blk s H scope (compEnvC scope cl C X.env) fp) kx tk)
    (he : ∀ (s : Shared) (H : Hp) (C : Addr) (cl : List (Str × Addr)) (fp : List Addr), PE (X.blk s H scope (compEnvC scope cl C X.env) fp) vx tv) (hs : ∀ x, foldedSetIterable iter X.env x = pure x) (wish : tDcG X wi g tt tk tv (own.map (·.2)) σ H Q)
    (fin : ∀ D C s' m H', Inv X pins σ H' s' → Q (.ref D) H' → s'.heap.Ns C m → FpOk X pins H' C → compPost (model X.prog X.w) X.A X.xe use Qf (.ref D) C (.ok .next) s') :
    wpAny (model X.prog X.w) X.A (comprehension (.DictComp kx vx [⟨tg, iter, ifs, 0⟩] scope pos) scope X.env pos' newDict false (eval iter X.env) use) Qf X.xe s := by
  have cells : ∀ y ∈ scope.names, y.2 = .free → ∃ c, X.env.cells.lookup y.1 = some c := fun y hy e => (bk.free y hy e).elim (fun z => I.ok.has _ (.inl z)) fun z => I.ok.has _ (.inr z)
  refine wpAny_comprehension_free (use := use) rfl hs (closure_ok cells) bk.kind (fun y hy e => by rw [bk.uniq y hy, e]) (thn (hi.run pins s σ H _ I wish) fun _ _ hx => thn hx fun _ t1 hit => ?_)
  obtain ⟨it, fp, tn, J, H1, rfl, J1, T, first, apart, q⟩ := hit
  refine wpAny_newObj_type (newEnv_comp ?_)
  generalize eD : t1.heap.objs.size = Dn
  have freeD : H1 Dn = none := J1.hok.fresh (Nat.le_of_eq eD)
  obtain ⟨W, ⟨m0, begin0⟩, turn⟩ := q Dn freeD
  generalize e2 : ({ t1 with heap := t1.heap.push { cls := .type "dict", data := .dict #[] } } : Shared) = t2
  have J2 : Inv X pins σ (upd H1 Dn (.dK [])) t2 := by
    rw [← e2]
    refine J1.laid (t' := t1.toks) (fun _ _ z => Heap.get?_push_of_some _ z) (Nat.le_of_eq eD) ?_
    rw [← eD]
    exact dk_empty t1.heap J1.big
  have heap2 : t2.heap = t1.heap.push { cls := .type "dict", data := .dict #[] } := by rw [← e2]
  have apart2 : ∀ b ∈ fp, FpOk X pins (upd H1 Dn (.dK [])) b ∧ b < t2.heap.objs.size := fun b hb => by
    obtain ⟨_, z, _⟩ := T.obj _ _ first b hb
    have small := Heap.lt_size z
    refine ⟨⟨(upd_ne (by rw [← eD]; exact Nat.ne_of_lt small)).trans (apart b hb).1, (apart b hb).2⟩, ?_⟩
    rw [heap2, Heap.size_push]
    exact Nat.lt_succ_of_lt small
  have tn2 : tn 0 t2.heap := T.keep _ _ _ first fun _ _ _ z => by rw [heap2]; exact Heap.get?_push_of_some _ z
  have J3 := block_start J2 bk hN apart2
  have pg := hg t2 (upd H1 Dn (.dK [])) t2.heap.objs.size (cellsFrom (t2.heap.objs.size + 1) scope.names (cloFrom X.env.cells scope.names [])) fp
  have pt := ht t2 (upd H1 Dn (.dK [])) t2.heap.objs.size (cellsFrom (t2.heap.objs.size + 1) scope.names (cloFrom X.env.cells scope.names [])) fp
  have pk := hk t2 (upd H1 Dn (.dK [])) t2.heap.objs.size (cellsFrom (t2.heap.objs.size + 1) scope.names (cloFrom X.env.cells scope.names [])) fp
  have pv := he t2 (upd H1 Dn (.dK [])) t2.heap.objs.size (cellsFrom (t2.heap.objs.size + 1) scope.names (cloFrom X.env.cells scope.names [])) fp
  show codeAny _ _ (.compStart (.DictComp kx vx [⟨tg, iter, ifs, 0⟩] scope pos) 0 (.ref it) (.ref Dn) (compEnvC scope (cellsFrom (t2.heap.objs.size + 1) scope.names (cloFrom X.env.cells scope.names [])) t2.heap.objs.size X.env)) _ { t2 with heap := pushCells (t2.heap.push { cls := .type "dict", data := .dict #[] }) scope.names }
  have bare : ∀ b ∈ fp, (upd H1 Dn (.dK [])) b = none := fun b hb => (apart2 b hb).1.1
  generalize ec : compEnvC scope (cellsFrom (t2.heap.objs.size + 1) scope.names (cloFrom X.env.cells scope.names [])) t2.heap.objs.size X.env = ce at J3 pg pt pk pv ⊢
  have locs : ce.locals = t2.heap.objs.size := by subst ec; rfl
  generalize eH : upd H1 Dn (.dK []) = H2 at J2 J3 pg pt pk pv begin0 bare apart2
  generalize e3 : ({ t2 with heap := pushCells (t2.heap.push { cls := .type "dict", data := .dict #[] }) scope.names } : Shared) = t3 at J3 ⊢
  have tn3 : tn 0 t3.heap := T.keep _ _ _ tn2 fun b _ o z => by rw [← e3]; exact pushCells_keeps _ _ _ _ (Heap.get?_push_of_some _ z)
  have stays : ∀ {σ' : L2.St} {H' : Hp} {s' : Shared}, Inv (X.blk t2 H2 scope ce fp) [] σ' H' s' → (∀ b ∈ fp, H' b = none) → ∀ b ∈ fp, FpOk (X.blk t2 H2 scope ce fp) [] H' b := fun {σ' H' s'} I' nn b hb =>
    ⟨nn b hb, (I'.ok.exf b hb).1, I'.ok.exfs b hb, .inl hb, fun x c z => (I'.ok.exf b hb).2 x c z, fun p hp => absurd (show p ∈ ([] : List (Addr × Obj)) ++ [] from hp) (by simp)⟩
  refine codeAny_compStart_dict ?loop (T.self X.A 0 _ _ _ tn3 ?loop)
  refine compLoop_anyD (fun n s' => ∃ i H', Inv (X.blk t2 H2 scope ce fp) [] (wipe σ (own.map (·.2))) H' s' ∧ tn i s'.heap ∧ (∀ b ∈ fp, H' b = none) ∧ W i n H') ?_ m0 ⟨0, H2, J3, tn3, bare, begin0⟩
  rintro n t4 ⟨i, H4, J4, tn4, bare4, w4⟩
  rcases turn i n H4 w4 with ⟨stop, wq⟩ | ⟨go, Nx, hNx, step⟩
  · refine thnF (T.done (X.blk t2 H2 scope ce fp) rfl rfl rfl hc i [] t4 _ H4 (fun _ _ => False) J4 (stays J4 bare4) tn4 stop) fun _ t5 ⟨z, J5⟩ => ?_
    subst z
    have J6 : Inv X pins σ H4 t5 := J2.call' (ch := fp) J5.os J5.base J5.hok J5.bare fun b hb => ⟨(apart2 b hb).1.2.2.2.1, (apart2 b hb).1.2.1, (apart2 b hb).1.2.2.2.2.1, (apart2 b hb).1.2.2.2.2.2⟩
    have freeC : H4 t2.heap.objs.size = none := by
      have z : H4 ce.locals = none := J5.free
      rwa [locs] at z
    obtain ⟨m, hn, _⟩ := J5.loc
    have hn : t5.heap.Ns ce.locals m := hn
    rw [locs] at hn
    exact fin Dn t2.heap.objs.size t5 m H4 J6 wq hn (J2.fpOk (Nat.le_refl _) freeC)
  · refine thnF (T.item (X.blk t2 H2 scope ce fp) rfl rfl rfl hc i [] t4 _ H4 (fun _ _ => False) J4 (stays J4 bare4) tn4 go) fun _ t5 ⟨u, z, later⟩ => ?_
    subst z
    refine thnF later fun _ t6 ⟨x, H6, J6, rx, yx, tn6, bare6⟩ => ?_
    refine thnF (pg.run _ t6 _ H6 x u _ (J6.pinned (stays J6 bare6) (T.obj _ _ tn6)) rx (step x H6 yx)) fun _ t7 ⟨σ7, H7, J7, w7, q7⟩ => ?_
    refine thnF (pt.run _ t7 σ7 H7 _ J7 q7) fun b t8 ⟨H8, J8, q8⟩ => ?_
    have next : ∀ {s' : Shared} {H' : Hp}, Inv (X.blk t2 H2 scope ce fp) ([] ++ pinsAt fp t6.heap) σ7 H' s' → Nx H' → ∃ m, m < n ∧ ∃ i H', Inv (X.blk t2 H2 scope ce fp) [] (wipe σ (own.map (·.2))) H' s' ∧ tn i s'.heap ∧ (∀ b ∈ fp, H' b = none) ∧ W i m H' := fun {s' H'} I' nx => by
      obtain ⟨m', hm, w'⟩ := hNx H' nx
      have kept : ∀ b ∈ fp, ∀ o, t6.heap.get? b = some o → s'.heap.get? b = some o ∧ H' b = none := fun b hb o z => by
        have := I'.pin (b, o) (List.mem_append_right _ (List.mem_append_right _ (mem_pinsAt hb z)))
        exact ⟨this.1, this.2.1⟩
      refine ⟨m', hm, i + 1, H', (I'.unpinned (pins := [])).weak (by rw [← w7, wipe_length]) (fun j v z => ?_), T.keep _ _ _ tn6 fun b hb o z => (kept b hb o z).1, fun b hb => ?_, w'⟩
      · rw [← w7] at z
        exact (wipe_some z).1
      · obtain ⟨o, z, _⟩ := T.obj _ _ tn6 b hb
        exact (kept b hb o z).2
    cases b with
    | false =>
      simp only [Bool.false_eq_true, if_false] at q8 ⊢
      exact next J8 q8
    | true =>
      simp only [if_true] at q8 ⊢
      refine thnF (pk.run _ t8 σ7 H8 _ J8 q8) fun _ t9 ⟨yk, H9, J9, rk, q9⟩ => ?_
      refine thnF (pv.run _ t9 σ7 H9 _ J9 q9) fun _ t10 ⟨yv, H10, J10, rv, H11, ds, nx⟩ => ?_
      exact (ds (X.blk t2 H2 scope ce fp) rfl rfl rfl).put (by show X.A.units + 45 < cLine; omega) J10 rk rv fun t11 J11 => next J11 nx
theorem pe_dcG (hu : X.A.units + 64 < cLine) (hc : X.calm = true) (hN : X.N.Nodup) (hi : PI X tg iter wi) (bk : BlkOk X.N X.env.scope scope own)
    (hg : ∀ (s : Shared) (H : Hp) (C : Addr) (cl : List (Str × Addr)) (fp : List Addr), PG (X.blk s H scope (compEnvC scope cl C X.env) fp) tg g) (ht : ∀ (s : Shared) (H : Hp) (C : Addr) (cl : List (Str × Addr)) (fp : List Addr), PTs (X.blk s H scope (compEnvC scope cl C X.env) fp) ifs tt)
    (hk : ∀ (s : Shared) (H : Hp) (C : Addr) (cl : List (Str × Addr)) (fp : List Addr), PE (X.blk s H scope (compEnvC scope cl C X.env) fp) kx tk)
    (he : ∀ (s : Shared) (H : Hp) (C : Addr) (cl : List (Str × Addr)) (fp : List Addr), PE (X.blk s H scope (compEnvC scope cl C X.env) fp) vx tv) (hs : ∀ x, foldedSetIterable iter X.env x = pure x := by intro _; rfl) :
    PE X (.DictComp kx vx [⟨tg, iter, ifs, 0⟩] scope pos) (tDcG X wi g tt tk tv (own.map (·.2))) := by
  refine ⟨fun pins s σ H Q I wish => ?_⟩
  rw [arm_eval_DictComp]
  refine dcG_core I hu hc hN hi bk hg ht hk he hs wish fun Dn C s' m H' J q hn f => ⟨m, hn, fun h'' sb => ?_⟩
  obtain ⟨f0, f1, f2, f3, f4, f5⟩ := f
  exact ⟨.ref Dn, H', J.turned (t' := s'.toks) (fun b o hb z => (sb.2 b hb).trans z) f0 f1 f3 f4 f5, rfl, q⟩
/-- y = {.. for ..}, y a local -/
theorem ps_setDcG {i : Nat} {y : Str} {py spos : Pos} (hu : X.A.units + 64 < cLine) (hc : X.calm = true) (hN : X.N.Nodup) (hy : X.N[i]? = some y) (hyl : X.env.scope.names.lookup y = some .local)
    (hsw : swapsWith (.DictComp kx vx [⟨tg, iter, ifs, 0⟩] scope pos) (some (.Name y py)) spos.line X.env = pure true) (hi : PI X tg iter wi) (bk : BlkOk X.N X.env.scope scope own)
    (hg : ∀ (s : Shared) (H : Hp) (C : Addr) (cl : List (Str × Addr)) (fp : List Addr), PG (X.blk s H scope (compEnvC scope cl C X.env) fp) tg g) (ht : ∀ (s : Shared) (H : Hp) (C : Addr) (cl : List (Str × Addr)) (fp : List Addr), PTs (X.blk s H scope (compEnvC scope cl C X.env) fp) ifs tt)
    (hk : ∀ (s : Shared) (H : Hp) (C : Addr) (cl : List (Str × Addr)) (fp : List Addr), PE (X.blk s H scope (compEnvC scope cl C X.env) fp) kx tk)
    (he : ∀ (s : Shared) (H : Hp) (C : Addr) (cl : List (Str × Addr)) (fp : List Addr), PE (X.blk s H scope (compEnvC scope cl C X.env) fp) vx tv) (hs : ∀ x, foldedSetIterable iter X.env x = pure x := by intro _; rfl) :
    PS X (.Assign [.Name y py] (.DictComp kx vx [⟨tg, iter, ifs, 0⟩] scope pos) spos) (tAsg (tDcG X wi g tt tk tv (own.map (·.2))) (gName i)) := by
  refine ⟨fun pins s σ H D I wish => ?_⟩
  rw [exec_Assign_Name_used _ _ _ _ hsw]
  refine wpAny_bind (wpAny_standAt (wpAny_bind ?_))
  show wpAny _ X.A (do let _ ← comprehension (.DictComp kx vx [⟨tg, iter, ifs, 0⟩] scope pos) scope X.env (firstIterPos [⟨tg, iter, ifs, 0⟩] pos) newDict false (eval iter X.env) (some (assign (.Name y py) X.env))) _ _ s
  have wish : tDcG X wi g tt tk tv (own.map (·.2)) σ H (fun x H1 => gName i x σ H1 D.nx) := wish
  refine wpAny_bind (thn (dcG_core (Qf := fun _ s' => SP X pins D .next s') I hu hc hN hi bk hg ht hk he hs wish fun Dn C s' m H' J q hn f => ?_) fun _ s' hq => wpAny_pure (wpAny_pure hq))
  show wpAny _ _ (assign (.Name y py) X.env (.ref Dn)) _ _ _
  refine wpAny_assign_Name (store_ok2 (v := V.ref Dn) J hN hy (.inl hyl) rfl (fun s2 J2 ⟨a, sb, ha⟩ => ?_) (.inr hyl))
  obtain ⟨f0, f1, f2, f3, f4, f5⟩ := f
  have apart : C ≠ a := ha.elim (fun z => by rw [z]; exact f1) fun z e => f4 y a z e.symm
  exact ⟨m, hn.sameBut sb apart, fun h3 sb3 => ⟨_, H', J2.turned (t' := s2.toks) (fun b o hb z => (sb3.2 b hb).trans z) f0 f1 f3 f4 f5, q⟩⟩
theorem swD_true {gs : List Comprehension} {py : Pos} {y : Str} {l : Nat} {env : Env} (hk : env.scope.kind = .function) (hy : env.scope.names.lookup y = some .local) (hl : (py.line == pos.line) = true)
    (ha : (scope.names.any fun (n, k) => n == y && (k == .local || k == .cell)) = false) : swapsWith (.DictComp kx vx gs scope pos) (some (.Name y py)) l env = pure true := by
  have k1 : env.kindOf y = some .local := hy
  have k2 : env.blockKind = .function := by unfold Env.blockKind; rw [hk]; rfl
  unfold swapsWith
  simp only [k2, k1, ha, Expr.pos, hl]
  rfl
end
/-! ### as a mirror -/
def dcL (vs : List Nat) (t : D → Rho → Option Rho) (c : M Bool) (ek ev : M D) : List D → List (D × D) → M (List (D × D))
  | [], kvs => ret kvs
  | x :: xs, kvs => fun ρ => match t x ρ with
    | some ρ1 => bnd c (fun b => if b then bnd ek fun k => bnd ev fun v => if keyFit kvs k && decide (kvs.length < sizeLine) then bnd (wipeM vs) fun _ => dcL vs t c ek ev xs (putD kvs k v) else fun _ => none else bnd (wipeM vs) fun _ => dcL vs t c ek ev xs kvs) ρ1
    | none => none
def dcM (m : M (List D)) (vs : List Nat) (t : D → Rho → Option Rho) (c : M Bool) (ek ev : M D) : M Own := bnd m fun xs => bnd (wipeM vs) fun _ => bnd (dcL vs t c ek ev xs []) fun kvs => ret (.dd kvs)
theorem dc_reads {X : Cx} {n : Nat} {vs : List Nat} {m : M (List D)} {t : D → Rho → Option Rho} {mc : M Bool} {ek ev : M D} {σ : L2.St} {H : Hp} {Q : VK} (hX : X.w = Wd.w) (hn : σ.length = n) (h : rdN X.K (dcM m vs t mc ek ev) σ H Q) : tDcG X (rdI X.K m) (rdG X.K (prC n vs) t) (rdT X.K mc) (rdV X.K ek) (rdV X.K ev) vs σ H Q := by
  obtain ⟨F, G, ρ, b, ρ', ok, hm, q⟩ := h
  obtain ⟨xs, ρ1, h1, h2⟩ := bnd_some hm
  obtain ⟨u, ρ2, h3, h4⟩ := bnd_some h2
  cases h3
  obtain ⟨kvf, ρ3, h5, h6⟩ := bnd_some h4
  cases h6
  refine ⟨F, G, ρ, xs, ρ1, ok, h1, fun J F1 H1 s1 ok1 feed Dl hD => ?_⟩
  have gD : G Dl = none := Same.free ok1.gsub hD
  refine ⟨fun i k H2 => ∃ F2 ρ2 kvs u, k + i = xs.length ∧ Same F1 F2 ∧ Ok X.K F2 (upd G Dl u) H2 (wipe σ vs) (wipeR ρ2 vs) ∧ DcO X.K F2 Dl kvs u ∧ dcL vs t mc ek ev (xs.drop i) kvs (wipeR ρ2 vs) = some (kvf, ρ'),
    ⟨xs.length, F1, ρ1, [], .dK [], by omega, Same.refl _, (ok1.hide hD).wiped, .inl ⟨[], rfl, rfl⟩, by rw [List.drop_zero]; exact h5⟩, ?_⟩
  rintro i k H2 ⟨F2, ρ2, kvs, u, hk, s2, ok2, rd, h7⟩
  obtain ⟨go, stop⟩ := feed i F2 H2 s2 ok2.sub
  by_cases hlt : i < xs.length
  · obtain ⟨hgo, hy⟩ := go xs[i] (List.getElem?_eq_getElem hlt)
    refine .inr ⟨hgo, fun H' => ∃ F2 ρ2 kvs u, Same F1 F2 ∧ Ok X.K F2 (upd G Dl u) H' (wipe σ vs) (wipeR ρ2 vs) ∧ DcO X.K F2 Dl kvs u ∧ dcL vs t mc ek ev (xs.drop (i + 1)) kvs (wipeR ρ2 vs) = some (kvf, ρ'),
      fun H' ⟨F2, ρ2, kvs, u, z⟩ => ⟨k - 1, by omega, F2, ρ2, kvs, u, by omega, z⟩, fun x H3 y => ?_⟩
    obtain ⟨F3, s3, t3, u3, n3, r3⟩ := hy x H3 y
    have ok3 := ok2.ge s3 t3 u3 n3
    rw [drop_cons hlt] at h7
    have h7 : (match t xs[i] (wipeR ρ2 vs) with
      | some ρ1 => bnd mc (fun b => if b then bnd ek fun k => bnd ev fun v => if keyFit kvs k && decide (kvs.length < sizeLine) then bnd (wipeM vs) fun _ => dcL vs t mc ek ev (xs.drop (i + 1)) (putD kvs k v) else fun _ => none else bnd (wipeM vs) fun _ => dcL vs t mc ek ev (xs.drop (i + 1)) kvs) ρ1
      | none => none) = some (kvf, ρ') := h7
    split at h7
    · rename_i ρ4 ht
      obtain ⟨kb, ρ5, h8, h9⟩ := bnd_some h7
      refine ⟨F3, _, _, xs[i], ρ4, ok3, r3, ht, fun σ4 F4 H4 s4 ok4 p4 => ⟨wipe_pr hn p4, F4, _, ρ4, kb, ρ5, ok4, h8, fun F5 H5 s5 ok5 => ?_⟩⟩
      have hw : wipe σ4 vs = wipe σ vs := wipe_pr hn p4
      cases kb with
      | false =>
        have h9 : bnd (wipeM vs) (fun _ => dcL vs t mc ek ev (xs.drop (i + 1)) kvs) ρ5 = some (kvf, ρ') := h9
        obtain ⟨_, ρ6, h10, h11⟩ := bnd_some h9
        cases h10
        refine iteF ⟨F5, ρ5, kvs, u, (s2.trans (s3.trans s4)).trans s5, ?_, rd.mono ((s3.trans s4).trans s5), h11⟩
        have := ok5.wiped (vs := vs)
        rw [hw] at this
        exact this
      | true =>
        obtain ⟨kd, ρ6, h10, h11⟩ := bnd_some h9
        obtain ⟨vd, ρ7, h12, h13⟩ := bnd_some h11
        split at h13
        · rename_i fit
          rw [Bool.and_eq_true] at fit
          obtain ⟨_, ρ8, h14, h15⟩ := bnd_some h13
          cases h14
          refine iteT ⟨F5, _, ρ5, kd, ρ6, ok5, h10, fun yk F6 H6 s6 ok6 r6 => ⟨F6, _, ρ6, vd, ρ7, ok6, h12, fun yv F7 H7 s7 ok7 r7 => ?_⟩⟩
          obtain ⟨u', ds, rd'⟩ := (rd.mono ((((s3.trans s4).trans s5).trans s6).trans s7)).put (X := X) ok7.sub (ok7.gsub _ _ upd_same) fit.1 (of_decide_eq_true fit.2) (Rp.mono s7 _ _ r6) r7
          refine ⟨_, fun Y e1 e2 _ => ds Y (e1.trans hX) e2, F7, ρ7, _, u', (((s2.trans (s3.trans s4)).trans s5).trans s6).trans s7, ?_, rd', h15⟩
          have := ok7.wiped (vs := vs)
          rw [hw] at this
          exact this.ghost
        · cases h13
    · cases h7
  · have e : i = xs.length := by omega
    subst e
    rw [List.drop_of_length_le (Nat.le_refl _)] at h7
    cases h7
    obtain ⟨ok4, n4⟩ := ok2.unwiped.unhide gD
    exact .inl ⟨stop rfl, q Dl F2 H2 (s1.trans s2) ok4 n4 (rd.at (ok2.gsub _ _ upd_same))⟩
section
variable {X : Cx} {kx vx tg iter : Expr} {pos : Pos}
theorem n_dc {ifs : List Expr} {scope : Scope} {n : Nat} {vs : List Nat} {m : M (List D)} {t : D → Rho → Option Rho} {mc : M Bool} {ek ev : M D} (own : List (Str × Nat)) (hvs : own.map (·.2) = vs) (hNl : X.N.length = n) (hu : X.A.units + 64 < cLine) (hc : X.calm = true) (hN : X.N.Nodup) (hi : PI X tg iter (rdI X.K m)) (ok : BlkOk X.N X.env.scope scope own)
    (hg : ∀ (s : Shared) (H : Hp) (C : Addr) (cl : List (Str × Addr)) (fp : List Addr), PG (X.blk s H scope (compEnvC scope cl C X.env) fp) tg (rdG X.K (prC n vs) t)) (ht : ∀ (s : Shared) (H : Hp) (C : Addr) (cl : List (Str × Addr)) (fp : List Addr), PTs (X.blk s H scope (compEnvC scope cl C X.env) fp) ifs (rdT X.K mc))
    (hk : ∀ (s : Shared) (H : Hp) (C : Addr) (cl : List (Str × Addr)) (fp : List Addr), PE (X.blk s H scope (compEnvC scope cl C X.env) fp) kx (rdV X.K ek))
    (he : ∀ (s : Shared) (H : Hp) (C : Addr) (cl : List (Str × Addr)) (fp : List Addr), PE (X.blk s H scope (compEnvC scope cl C X.env) fp) vx (rdV X.K ev)) (hs : ∀ x, foldedSetIterable iter X.env x = pure x := by intro _; rfl) (hww : X.w = Wd.w := by rfl) :
    PE X (.DictComp kx vx [⟨tg, iter, ifs, 0⟩] scope pos) (rdN X.K (dcM m vs t mc ek ev)) := by
  subst hvs hNl
  exact pe_impL (pe_dcG hu hc hN hi ok hg ht hk he hs) fun σ H Q hl h => dc_reads hww hl h
/-- y = {.. for ..}: y owns it -/
theorem s_setDcN (i : Nat) {y : Str} {py : Pos} {ifs : List Expr} {scope : Scope} {n : Nat} {pr vs : List Nat} {m : M (List D)} {t : D → Rho → Option Rho} {mc : M Bool} {ek ev : M D} {spos : Pos} (hp : i ∉ pr) (own : List (Str × Nat)) (hvs : own.map (·.2) = vs) (hNl : X.N.length = n) (hu : X.A.units + 64 < cLine) (hc : X.calm = true) (hN : X.N.Nodup) (hy : X.N[i]? = some y) (hyl : X.env.scope.names.lookup y = some .local)
    (hsw : swapsWith (.DictComp kx vx [⟨tg, iter, ifs, 0⟩] scope pos) (some (.Name y py)) spos.line X.env = pure true) (hi : PI X tg iter (rdI X.K m)) (ok : BlkOk X.N X.env.scope scope own)
    (hg : ∀ (s : Shared) (H : Hp) (C : Addr) (cl : List (Str × Addr)) (fp : List Addr), PG (X.blk s H scope (compEnvC scope cl C X.env) fp) tg (rdG X.K (prC n vs) t)) (ht : ∀ (s : Shared) (H : Hp) (C : Addr) (cl : List (Str × Addr)) (fp : List Addr), PTs (X.blk s H scope (compEnvC scope cl C X.env) fp) ifs (rdT X.K mc))
    (hk : ∀ (s : Shared) (H : Hp) (C : Addr) (cl : List (Str × Addr)) (fp : List Addr), PE (X.blk s H scope (compEnvC scope cl C X.env) fp) kx (rdV X.K ek))
    (he : ∀ (s : Shared) (H : Hp) (C : Addr) (cl : List (Str × Addr)) (fp : List Addr), PE (X.blk s H scope (compEnvC scope cl C X.env) fp) vx (rdV X.K ev)) (hs : ∀ x, foldedSetIterable iter X.env x = pure x := by intro _; rfl) (hww : X.w = Wd.w := by rfl) :
    PS X (.Assign [.Name y py] (.DictComp kx vx [⟨tg, iter, ifs, 0⟩] scope pos) spos) (rdS X.K pr (setNM i (dcM m vs t mc ek ev))) := by
  subst hvs hNl
  refine ps_impL (ps_setDcG hu hc hN hy hyl hsw hi ok hg ht hk he hs) fun E σ H hl h => ?_
  obtain ⟨F, G, ρ, fl, ρ', ok, hm, w⟩ := h
  obtain ⟨b, ρ1, h1, h2⟩ := bnd_some hm
  cases h2
  exact dc_reads hww hl ⟨F, G, ρ, b, ρ1, ok, h1, fun p F1 H1 s1 ok1 n1 o1 => w _ F1 H1 s1 (ok1.putO n1 o1) (Pr.set hp)⟩
end
section
variable {ρ : Rho}
theorem wp_dc {m : M (List D)} {vs : List Nat} {t : D → Rho → Option Rho} {c : M Bool} {ek ev : M D} {Q : Own → Rho → Prop} (h : wp m ρ fun xs ρ1 => wp (dcL vs t c ek ev xs []) (wipeR ρ1 vs) fun kvs ρ2 => Q (.dd kvs) ρ2) : wp (dcM m vs t c ek ev) ρ Q :=
  wp_bnd (wp_mono h fun xs ρ1 q => wp_bnd ⟨_, _, rfl, wp_bnd (wp_mono q fun kvs ρ2 q => wp_ret q)⟩)
theorem wp_dcT {xs : List D} {vs : List Nat} {t : D → Rho → Option Rho} {ek ev : M D} {Q : List (D × D) → Rho → Prop} (I : Nat → List (D × D) → Rho → Prop) (h0 : I 0 [] ρ)
    (hs : ∀ (i : Nat) (x : D) (kvs : List (D × D)) (ρ : Rho), xs[i]? = some x → I i kvs ρ → ∃ ρ1, t x ρ = some ρ1 ∧ wp ek ρ1 fun k ρ2 => wp ev ρ2 fun v ρ3 => keyFit kvs k = true ∧ kvs.length < sizeLine ∧ I (i + 1) (putD kvs k v) (wipeR ρ3 vs))
    (hd : ∀ kvs ρ, I xs.length kvs ρ → Q kvs ρ) : wp (dcL vs t (ret true) ek ev xs []) ρ Q := by
  suffices key : ∀ (ys : List D) (j : Nat) (kvs : List (D × D)) (ρ : Rho), xs.drop j = ys → j ≤ xs.length → I j kvs ρ → wp (dcL vs t (ret true) ek ev ys kvs) ρ Q from key xs 0 [] ρ rfl (Nat.zero_le _) h0
  intro ys
  induction ys with
  | nil =>
    intro j kvs ρ hj hl hI
    have e : j = xs.length := by
      have := congrArg List.length hj
      rw [List.length_drop] at this
      simp at this
      omega
    subst e
    exact wp_ret (hd kvs ρ hI)
  | cons y ys ih =>
    intro j kvs ρ hj hl hI
    have hlt : j < xs.length := by
      have := congrArg List.length hj
      rw [List.length_drop, List.length_cons] at this
      omega
    have hy : xs[j]? = some y ∧ xs.drop (j + 1) = ys := by
      rw [List.drop_eq_getElem_cons hlt] at hj
      injection hj with a b
      exact ⟨by rw [List.getElem?_eq_getElem hlt, a], b⟩
    obtain ⟨ρ1, ht, k, ρ2, hk, v, ρ3, hv, q1, q2, q3⟩ := hs j y kvs ρ hy.1 hI
    obtain ⟨r, ρ', hr, q⟩ := ih (j + 1) _ _ hy.2 hlt q3
    refine ⟨r, ρ', ?_, q⟩
    show (match t y ρ with
      | some ρ1 => bnd (ret true) (fun b => if b then bnd ek fun k => bnd ev fun v => if keyFit kvs k && decide (kvs.length < sizeLine) then bnd (wipeM vs) fun _ => dcL vs t (ret true) ek ev ys (putD kvs k v) else fun _ => none else bnd (wipeM vs) fun _ => dcL vs t (ret true) ek ev ys kvs) ρ1
      | none => none) = _
    rw [ht]
    dsimp only
    refine (bnd_eq (x := true) (ρ1 := ρ1) rfl).trans ?_
    rw [if_pos rfl]
    refine (bnd_eq hk).trans ((bnd_eq hv).trans ?_)
    rw [if_pos (by rw [Bool.and_eq_true]; exact ⟨q1, decide_eq_true q2⟩)]
    exact (bnd_eq (x := ()) (ρ1 := wipeR ρ3 vs) rfl).trans hr
end
end Fx
namespace K75
open PySem PySem.Spec PyProof.Rows L2 Fx
variable [Wd]
/-- branch_with (row, block, branch) -/
noncomputable def b_branch_with : MS := seqM (forM (itM (getM 0)) (nameT 2) (iteM (tstM (binM eqD (valM (binM ixD (refM 2) (valM (cM (.int 0))))) (refM 1))) (retM (getM 2)) (skipM))) (retM (cM .none))
noncomputable def m_branch_with : Fn := defM 3 2 [] b_branch_with
theorem u_branch_with {a0 a1 : Sl} {R : Sl → List Sl → Prop} (h : wp b_branch_with [a0, a1, .u] (defK [] 2 R)) : fw m_branch_with [a0, a1] R := fw_def rfl h
/-- next_place (watch, now, shown, row, mark, to) -/
noncomputable def b_next_place : MS := seqM (asgM (binM ixD (valM (binM ixD (refM 0) (valM (cM (.int 1))))) (refM 1)) (nameT 3)) (seqM (forM (itM (slM slD (refM 3) (noM) (partM (unM negD (cM (.int 1)))))) (tupNT 2 (consT (nameT 4) (consT (nameT 5) (nilT)))) (iteM (tstM (binM inD (refM 4) (refM 2))) (retM (getM 5)) (skipM))) (retM (binM ixD (valM (binM ixD (refM 3) (valM (unM negD (cM (.int 1)))))) (valM (cM (.int 1))))))
noncomputable def m_next_place : Fn := defM 6 3 [] b_next_place
theorem u_next_place {a0 a1 a2 : Sl} {R : Sl → List Sl → Prop} (h : wp b_next_place [a0, a1, a2, .u, .u, .u] (defK [] 3 R)) : fw m_next_place [a0, a1, a2] R := fw_def rfl h
/-- _law_begin (script, cell) -/
noncomputable def b__law_begin : MS := retNM (lstM (consM (frzM (lcM (scrM 0) [1] (nameT 1) (ret true) (b1M intD (refM 1)))) (consM (cM (.int 0)) (consM (cM (.int 0)) (consM (cM (.int 7)) (nilM))))))
noncomputable def m__law_begin : Fn := defM 2 1 [0] b__law_begin
theorem u__law_begin {a0 : Sl} {R : Sl → List Sl → Prop} (h : wp b__law_begin [a0, .u] (defK [0] 1 R)) : fw m__law_begin [a0] R := fw_def rfl h
/-- _law_draw (d, many, found, size, cell) -/
noncomputable def b__law_draw : MS := seqM (iteM (tstM (binM gtD (valM (binM ixD (refM 0) (valM (cM (.int 2))))) (valM (cM (.int 0))))) (seqM (asgM (binM ixD (refM 0) (valM (cM (.int 2)))) (nameT 2)) (seqM (setItM 0 (binM fdivD (refM 2) (refM 1)) (cM (.int 2))) (retM (binM modD (valM (b1M intD (refM 2))) (refM 1))))) (skipM)) (seqM (asgM (cM (.int 0)) (nameT 3)) (seqM (iteM (tstM (binM ltD (valM (binM ixD (refM 0) (valM (cM (.int 1))))) (valM (b1M lenD (valM (binM ixD (refM 0) (valM (cM (.int 0))))))))) (seqM (asgM (binM ixD (valM (binM ixD (refM 0) (valM (cM (.int 0))))) (valM (binM ixD (refM 0) (valM (cM (.int 1)))))) (nameT 4)) (asgM (binM addD (valM (binM mulD (valM (cM (.int 2))) (valM (b1M absD (refM 4))))) (valM (b1M intD (valM (binM ltD (refM 4) (valM (cM (.int 0)))))))) (nameT 3))) (skipM)) (seqM (augItM 0 (fun i j => i + j) (cM (.int 1)) (cM (.int 1))) (seqM (iteM (tstM (binM geD (refM 3) (valM (binM mulD (valM (cM (.int 2))) (valM (binM powD (valM (cM (.int 10))) (valM (cM (.int 18))))))))) (seqM (asgM (binM modD (valM (b1M intD (valM (binM fdivD (refM 3) (valM (cM (.int 2))))))) (valM (binM shlD (valM (cM (.int 1))) (valM (cM (.int 6000)))))) (nameT 2)) (seqM (setItM 0 (binM fdivD (refM 2) (refM 1)) (cM (.int 2))) (retM (binM modD (valM (b1M intD (refM 2))) (refM 1))))) (skipM)) (seqM (setItM 0 (binM modD (valM (b1M intD (valM (binM addD (valM (binM addD (valM (binM addD (valM (binM mulD (valM (binM ixD (refM 0) (valM (cM (.int 3))))) (valM (cM (.int 48271))))) (valM (binM mulD (valM (binM modD (valM (b1M intD (refM 3))) (valM (cM (.int 2147483629))))) (valM (cM (.int 16807))))))) (valM (binM mulD (valM (binM ixD (refM 0) (valM (cM (.int 1))))) (valM (cM (.int 69621))))))) (valM (cM (.int 11))))))) (valM (cM (.int 2147483647)))) (cM (.int 3))) (retM (binM modD (valM (b1M intD (valM (binM fdivD (valM (binM ixD (refM 0) (valM (cM (.int 3))))) (valM (cM (.int 16))))))) (refM 1))))))))
noncomputable def m__law_draw : Fn := defM 5 2 [0] b__law_draw
theorem u__law_draw {a0 a1 : Sl} {R : Sl → List Sl → Prop} (h : wp b__law_draw [a0, a1, .u, .u, .u] (defK [0] 2 R)) : fw m__law_draw [a0, a1] R := fw_def rfl h
/-- _law_pool (text) -/
noncomputable def b__law_pool : MS := seqM (asgM (cM (.str "a b2 sum left r k0 carry z9z full tail n m8 aa busy cnt p t4 even2 ab1 head u v2 w lowest high mid ")) (nameT 0)) (seqM (asgM (binM addD (refM 0) (valM (cM (.str "s t e f g h i j k x y q7 deep turn gate l5 next1 o c0 d two zz1 near far9 last ring2 ")))) (nameT 0)) (retNM (binM splitO (valM (binM addD (refM 0) (valM (cM (.str "aaaaaaa8 b c1 top2 net3 row col7 v"))))) (valM (cM (.str " "))))))
noncomputable def m__law_pool : Fn := defM 1 0 [] b__law_pool
theorem u__law_pool {R : Sl → List Sl → Prop} (h : wp b__law_pool [.u] (defK [] 0 R)) : fw m__law_pool [] R := fw_def rfl h
/-- _law_watch_step (watch, state, shown, mark, to) -/
noncomputable def b__law_watch_step : MS := seqM (forM (itM (binM ixD (valM (binM ixD (refM 0) (valM (cM (.int 1))))) (refM 1))) (tupNT 2 (consT (nameT 3) (consT (nameT 4) (nilT)))) (iteM (orM (tstM (binM isNoneD (refM 3) (valM (cM .none)))) (tstM (binM inD (refM 3) (refM 2)))) (retM (getM 4)) (skipM))) (retM (getM 1))
noncomputable def m__law_watch_step : Fn := defM 5 3 [] b__law_watch_step
theorem u__law_watch_step {a0 a1 a2 : Sl} {R : Sl → List Sl → Prop} (h : wp b__law_watch_step [a0, a1, a2, .u, .u] (defK [] 3 R)) : fw m__law_watch_step [a0, a1, a2] R := fw_def rfl h
/-- _law_is_bool (told, due) -/
noncomputable def b__law_is_bool : MS := retM (blM (andM (isiM "bool" (refM 0)) (tstM (binM eqD (refM 0) (refM 1)))))
noncomputable def m__law_is_bool : Fn := defM 2 2 [] b__law_is_bool
theorem u__law_is_bool {a0 a1 : Sl} {R : Sl → List Sl → Prop} (h : wp b__law_is_bool [a0, a1] (defK [] 2 R)) : fw m__law_is_bool [a0, a1] R := fw_def rfl h
/-- branches_along (chain, start, blocks, found, now, block, branch) -/
noncomputable def b_branches_along : MS := seqM (setNM 3 (lstM (nilM))) (seqM (asgM (getM 1) (nameT 4)) (seqM (forM (itM (getM 2)) (nameT 5) (seqM (asgM (valS (callM m_branch_with (consC (valM (binM ixD (valM (binM ixD (refM 0) (valM (cM (.int 2))))) (refM 4))) (consC (valM (getM 5)) (nilC))))) (nameT 6)) (seqM (iteM (tstM (binM isNoneD (refM 6) (valM (cM .none)))) (retM (cM .none)) (skipM)) (seqM (dropM (appM 3 (getM 6))) (asgM (binM ixD (refM 6) (valM (cM (.int 2)))) (nameT 4)))))) (retM (getM 3))))
noncomputable def m_branches_along : Fn := defM 7 3 [] b_branches_along
theorem u_branches_along {a0 a1 a2 : Sl} {R : Sl → List Sl → Prop} (h : wp b_branches_along [a0, a1, a2, .u, .u, .u, .u] (defK [] 3 R)) : fw m_branches_along [a0, a1, a2] R := fw_def rfl h
/-- judge_holds (chain, watch, pairs, known, state, now, digits, shown, to, pair) -/
noncomputable def b_judge_holds : MS := seqM (setNM 3 (dcM (itM (getM 2)) [9] (nameT 9) (ret true) (getM 9) (cM (.bool true)))) (seqM (forM (itM (getM 2)) (tupNT 2 (consT (nameT 4) (consT (nameT 5) (nilT)))) (seqM (iteM (orM (notM (chainM (fun i j => decide (i ≤ j)) (fun i j => decide (i < j)) (cM (.int 0)) (getM 4) (b1M lenD (valM (binM ixD (refM 0) (valM (cM (.int 2)))))))) (orM (notM (chainM (fun i j => decide (i ≤ j)) (fun i j => decide (i < j)) (cM (.int 0)) (getM 5) (b1M lenD (valM (binM ixD (refM 1) (valM (cM (.int 1)))))))) (tstM (binM inD (refM 5) (valM (binM ixD (refM 1) (valM (cM (.int 2))))))))) (retM (cM (.bool false))) (skipM)) (forM (itM (binM ixD (valM (binM ixD (refM 0) (valM (cM (.int 2))))) (refM 4))) (tupNT 3 (consT (nameT 6) (consT (nameT 7) (consT (nameT 8) (nilT))))) (iteM (tstM (binM notInD (valM (tupM (consM (getM 8) (consM (valS (callM m_next_place (consC (valM (getM 1)) (consC (valM (getM 5)) (consC (valM (getM 7)) (nilC)))))) (nilM))))) (refM 3))) (retM (cM (.bool false))) (skipM))))) (retM (binM inD (valM (tupM (consM (cM (.int 0)) (consM (cM (.int 0)) (nilM))))) (refM 3))))
noncomputable def m_judge_holds : Fn := defM 10 3 [] b_judge_holds
theorem u_judge_holds {a0 a1 a2 : Sl} {R : Sl → List Sl → Prop} (h : wp b_judge_holds [a0, a1, a2, .u, .u, .u, .u, .u, .u, .u] (defK [] 3 R)) : fw m_judge_holds [a0, a1, a2] R := fw_def rfl h
/-- _law_pick (d, row) -/
noncomputable def b__law_pick : MS := retM (binM ixD (refM 1) (valM (valS (callM m__law_draw (consC (argM 0) (consC (valM (b1M lenD (refM 1))) (nilC)))))))
noncomputable def m__law_pick : Fn := defM 2 2 [0] b__law_pick
theorem u__law_pick {a0 a1 : Sl} {R : Sl → List Sl → Prop} (h : wp b__law_pick [a0, a1] (defK [0] 2 R)) : fw m__law_pick [a0, a1] R := fw_def rfl h
/-- _law_pop (d, row) -/
noncomputable def b__law_pop : MS := retM (popAtM 1 (valS (callM m__law_draw (consC (argM 0) (consC (valM (b1M lenD (refM 1))) (nilC))))))
noncomputable def m__law_pop : Fn := defM 2 2 [0, 1] b__law_pop
theorem u__law_pop {a0 a1 : Sl} {R : Sl → List Sl → Prop} (h : wp b__law_pop [a0, a1] (defK [0, 1] 2 R)) : fw m__law_pop [a0, a1] R := fw_def rfl h
/-- _law_rare (d, many) -/
noncomputable def b__law_rare : MS := retM (binM eqD (valM (valS (callM m__law_draw (consC (argM 0) (consC (valM (getM 1)) (nilC)))))) (valM (binM fdivD (refM 1) (valM (cM (.int 2))))))
noncomputable def m__law_rare : Fn := defM 2 2 [0] b__law_rare
theorem u__law_rare {a0 a1 : Sl} {R : Sl → List Sl → Prop} (h : wp b__law_rare [a0, a1] (defK [0] 2 R)) : fw m__law_rare [a0, a1] R := fw_def rfl h
/-- _law_shuffled (d, row, left, found, k) -/
noncomputable def b__law_shuffled : MS := seqM (setNM 2 (b1M listO (refM 1))) (seqM (setNM 3 (lstM (nilM))) (seqM (forM (rng1M (consM (b1M lenD (refM 2)) (nilM))) (nameT 4) (dropM (appM 3 (popAtM 2 (valS (callM m__law_draw (consC (argM 0) (consC (valM (b1M lenD (refM 2))) (nilC))))))))) (retOM 3)))
noncomputable def m__law_shuffled : Fn := defM 5 2 [0] b__law_shuffled
theorem u__law_shuffled {a0 a1 : Sl} {R : Sl → List Sl → Prop} (h : wp b__law_shuffled [a0, a1, .u, .u, .u] (defK [0] 2 R)) : fw m__law_shuffled [a0, a1] R := fw_def rfl h
/-- _law_words (d, base, many, words, k, at, word, digit) -/
noncomputable def b__law_words : MS := seqM (setNM 3 (lstM (consM (tupM (nilM)) (nilM)))) (seqM (forM (rng1M (consM (getM 2) (nilM))) (nameT 4) (seqM (asgM (valS (callM m__law_draw (consC (argM 0) (consC (valM (b1M lenD (refM 3))) (nilC))))) (nameT 5)) (iteM (tstM (binM ltD (valM (b1M lenD (valM (binM ixD (refM 3) (refM 5))))) (valM (cM (.int 3))))) (seqM (asgM (popAtM 3 (getM 5)) (nameT 6)) (setNM 3 (binM catO (refM 3) (valM (frzM (lcM (rng1M (consM (getM 1) (nilM))) [7] (nameT 7) (ret true) (binM addD (refM 6) (valM (tupM (consM (getM 7) (nilM))))))))))) (skipM)))) (retM (frzM (b1M sortO (refM 3)))))
noncomputable def m__law_words : Fn := defM 8 3 [0] b__law_words
theorem u__law_words {a0 a1 a2 : Sl} {R : Sl → List Sl → Prop} (h : wp b__law_words [a0, a1, a2, .u, .u, .u, .u, .u] (defK [0] 3 R)) : fw m__law_words [a0, a1, a2] R := fw_def rfl h
/-- _law_met_pairs (chain, watch, starts, found, known, pair, k, state, here, digits, shown, there) -/
noncomputable def b__law_met_pairs : MS := seqM (setNM 3 (lstM (nilM))) (seqM (setNM 4 (newDM)) (seqM (forM (itM (getM 2)) (nameT 5) (iteM (tstM (binM notInD (refM 5) (refM 4))) (seqM (setItM 4 (cM (.bool true)) (getM 5)) (dropM (appM 3 (getM 5)))) (skipM))) (seqM (asgM (cM (.int 0)) (nameT 6)) (seqM (whileM (tstM (binM ltD (refM 6) (valM (b1M lenD (refM 3))))) (seqM (asgM (binM ixD (refM 3) (refM 6)) (tupNT 2 (consT (nameT 7) (consT (nameT 8) (nilT))))) (seqM (forM (itM (binM ixD (valM (binM ixD (refM 0) (valM (cM (.int 2))))) (refM 7))) (tupNT 3 (consT (nameT 9) (consT (nameT 10) (consT (nameT 11) (nilT))))) (seqM (asgM (tupM (consM (getM 11) (consM (valS (callM m__law_watch_step (consC (valM (getM 1)) (consC (valM (getM 8)) (consC (valM (getM 10)) (nilC)))))) (nilM)))) (nameT 5)) (iteM (tstM (binM notInD (refM 5) (refM 4))) (seqM (setItM 4 (cM (.bool true)) (getM 5)) (dropM (appM 3 (getM 5)))) (skipM)))) (augM 6 (fun i j => i + j) (cM (.int 1)))))) (retOM 3)))))
noncomputable def m__law_met_pairs : Fn := defM 12 3 [] b__law_met_pairs
theorem u__law_met_pairs {a0 a1 a2 : Sl} {R : Sl → List Sl → Prop} (h : wp b__law_met_pairs [a0, a1, a2, .u, .u, .u, .u, .u, .u, .u, .u, .u] (defK [] 3 R)) : fw m__law_met_pairs [a0, a1, a2] R := fw_def rfl h
/-- _law_closed (chain, watch, pairs, known, pair, state, here, digits, shown, there) -/
noncomputable def b__law_closed : MS := seqM (setNM 3 (newDM)) (seqM (forM (itM (getM 2)) (nameT 4) (setItM 3 (cM (.bool true)) (getM 4))) (seqM (iteM (tstM (binM notInD (valM (tupM (consM (cM (.int 0)) (consM (cM (.int 0)) (nilM))))) (refM 3))) (retM (cM (.bool false))) (skipM)) (seqM (forM (itM (getM 2)) (tupNT 2 (consT (nameT 5) (consT (nameT 6) (nilT)))) (seqM (iteM (orM (notM (chainM (fun i j => decide (i ≤ j)) (fun i j => decide (i < j)) (cM (.int 0)) (getM 5) (b1M lenD (valM (binM ixD (refM 0) (valM (cM (.int 2)))))))) (orM (notM (chainM (fun i j => decide (i ≤ j)) (fun i j => decide (i < j)) (cM (.int 0)) (getM 6) (b1M lenD (valM (binM ixD (refM 1) (valM (cM (.int 1)))))))) (tstM (binM inD (refM 6) (valM (binM ixD (refM 1) (valM (cM (.int 2))))))))) (retM (cM (.bool false))) (skipM)) (forM (itM (binM ixD (valM (binM ixD (refM 0) (valM (cM (.int 2))))) (refM 5))) (tupNT 3 (consT (nameT 7) (consT (nameT 8) (consT (nameT 9) (nilT))))) (iteM (tstM (binM notInD (valM (tupM (consM (getM 9) (consM (valS (callM m__law_watch_step (consC (valM (getM 1)) (consC (valM (getM 6)) (consC (valM (getM 8)) (nilC)))))) (nilM))))) (refM 3))) (retM (cM (.bool false))) (skipM))))) (retM (cM (.bool true))))))
noncomputable def m__law_closed : Fn := defM 10 3 [] b__law_closed
theorem u__law_closed {a0 a1 a2 : Sl} {R : Sl → List Sl → Prop} (h : wp b__law_closed [a0, a1, a2, .u, .u, .u, .u, .u, .u, .u] (defK [] 3 R)) : fw m__law_closed [a0, a1, a2] R := fw_def rfl h
/-- _law_broken_by (chain, watch, blocks, state, here, fell, block, found, branch) -/
noncomputable def b__law_broken_by : MS := seqM (asgM (cM (.int 0)) (nameT 3)) (seqM (asgM (cM (.int 0)) (nameT 4)) (seqM (asgM (binM inD (valM (cM (.int 0))) (valM (binM ixD (refM 1) (valM (cM (.int 2)))))) (nameT 5)) (seqM (forM (itM (getM 2)) (nameT 6) (seqM (asgM (frzM (lcM (itM (binM ixD (valM (binM ixD (refM 0) (valM (cM (.int 2))))) (refM 3))) [8] (nameT 8) (tstM (binM eqD (valM (binM ixD (refM 8) (valM (cM (.int 0))))) (refM 6))) (getM 8))) (nameT 7)) (seqM (iteM (tstM (binM eqD (valM (b1M lenD (refM 7))) (valM (cM (.int 0))))) (retM (cM (.bool false))) (skipM)) (seqM (asgM (valS (callM m__law_watch_step (consC (valM (getM 1)) (consC (valM (getM 4)) (consC (valM (binM ixD (valM (binM ixD (refM 7) (valM (cM (.int 0))))) (valM (cM (.int 1))))) (nilC)))))) (nameT 4)) (seqM (asgM (binM ixD (valM (binM ixD (refM 7) (valM (cM (.int 0))))) (valM (cM (.int 2)))) (nameT 3)) (asgM (blM (orM (tstM (getM 5)) (tstM (binM inD (refM 4) (valM (binM ixD (refM 1) (valM (cM (.int 2))))))))) (nameT 5))))))) (retM (getM 5)))))
noncomputable def m__law_broken_by : Fn := defM 9 3 [] b__law_broken_by
theorem u__law_broken_by {a0 a1 a2 : Sl} {R : Sl → List Sl → Prop} (h : wp b__law_broken_by [a0, a1, a2, .u, .u, .u, .u, .u, .u] (defK [] 3 R)) : fw m__law_broken_by [a0, a1, a2] R := fw_def rfl h
/-- judge_breaks (chain, watch, blocks, branches, now, fell, digits, shown, to) -/
noncomputable def b_judge_breaks : MS := seqM (asgM (valS (callM m_branches_along (consC (valM (getM 0)) (consC (valM (cM (.int 0))) (consC (valM (getM 2)) (nilC)))))) (nameT 3)) (seqM (iteM (tstM (binM isNoneD (refM 3) (valM (cM .none)))) (retM (cM (.bool false))) (skipM)) (seqM (asgM (cM (.int 0)) (nameT 4)) (seqM (asgM (binM inD (refM 4) (valM (binM ixD (refM 1) (valM (cM (.int 2)))))) (nameT 5)) (seqM (forM (itM (getM 3)) (tupNT 3 (consT (nameT 6) (consT (nameT 7) (consT (nameT 8) (nilT))))) (seqM (asgM (valS (callM m_next_place (consC (valM (getM 1)) (consC (valM (getM 4)) (consC (valM (getM 7)) (nilC)))))) (nameT 4)) (iteM (tstM (binM inD (refM 4) (valM (binM ixD (refM 1) (valM (cM (.int 2))))))) (asgM (cM (.bool true)) (nameT 5)) (skipM)))) (retM (getM 5))))))
noncomputable def m_judge_breaks : Fn := defM 9 3 [] b_judge_breaks
theorem u_judge_breaks {a0 a1 a2 : Sl} {R : Sl → List Sl → Prop} (h : wp b_judge_breaks [a0, a1, a2, .u, .u, .u, .u, .u, .u] (defK [] 3 R)) : fw m_judge_breaks [a0, a1, a2] R := fw_def rfl h
/-- _law_drawn_watch (d, marks, many, rows, k, left, row, most, j, share, bad) -/
noncomputable def b__law_drawn_watch : MS := seqM (setNM 3 (lstM (nilM))) (seqM (forM (rng1M (consM (getM 2) (nilM))) (nameT 4) (seqM (setNM 5 (b1M listO (refM 1))) (seqM (setNM 6 (lstM (nilM))) (seqM (asgM (min2M (cM (.int 4)) (binM addD (valM (b1M lenD (refM 1))) (valM (cM (.int 1))))) (nameT 7)) (seqM (iteM (truM (valM (valS (callM m__law_rare (consC (argM 0) (consC (valM (cM (.int 8))) (nilC))))))) (asgM (binM addD (valM (b1M lenD (refM 1))) (valM (cM (.int 1)))) (nameT 7)) (skipM)) (seqM (forM (rng1M (consM (valS (callM m__law_draw (consC (argM 0) (consC (valM (getM 7)) (nilC))))) (nilM))) (nameT 8) (dropM (appM 6 (tupM (consM (valS (callM m__law_pop (consC (argM 0) (consC (argM 5) (nilC))))) (consM (valS (callM m__law_draw (consC (argM 0) (consC (valM (getM 2)) (nilC))))) (nilM))))))) (dropM (appM 3 (binM addD (valM (b1M tupleD (refM 6))) (valM (tupM (consM (tupM (consM (cM .none) (consM (valS (callM m__law_draw (consC (argM 0) (consC (valM (getM 2)) (nilC))))) (nilM)))) (nilM))))))))))))) (seqM (asgM (binM addD (valM (cM (.int 2))) (valM (valS (callM m__law_draw (consC (argM 0) (consC (valM (cM (.int 4))) (nilC))))))) (nameT 9)) (seqM (asgM (frzM (lcM (rng1M (consM (getM 2) (nilM))) [4] (nameT 4) (tstM (binM eqD (valM (valS (callM m__law_draw (consC (argM 0) (consC (valM (getM 9)) (nilC)))))) (valM (cM (.int 1))))) (getM 4))) (nameT 10)) (retM (tupM (consM (cM (.str "watch")) (consM (b1M tupleD (refM 3)) (consM (b1M tupleD (refM 10)) (nilM)))))))))
noncomputable def m__law_drawn_watch : Fn := defM 11 3 [0] b__law_drawn_watch
theorem u__law_drawn_watch {a0 a1 a2 : Sl} {R : Sl → List Sl → Prop} (h : wp b__law_drawn_watch [a0, a1, a2, .u, .u, .u, .u, .u, .u, .u, .u] (defK [0] 3 R)) : fw m__law_drawn_watch [a0, a1, a2] R := fw_def rfl h
/-- _law_ladder (d, base, states, marks, rows, s, words, up, row, k, shown, there) -/
noncomputable def b__law_ladder : MS := seqM (setNM 4 (lstM (nilM))) (seqM (forM (rng1M (consM (getM 2) (nilM))) (nameT 5) (seqM (asgM (valS (callM m__law_words (consC (argM 0) (consC (valM (getM 1)) (consC (valM (binM addD (valM (cM (.int 1))) (valM (valS (callM m__law_draw (consC (argM 0) (consC (valM (cM (.int 2))) (nilC)))))))) (nilC)))))) (nameT 6)) (seqM (asgM (valS (callM m__law_draw (consC (argM 0) (consC (valM (b1M lenD (refM 6))) (nilC))))) (nameT 7)) (seqM (setNM 8 (lstM (nilM))) (seqM (forM (rng1M (consM (b1M lenD (refM 6)) (nilM))) (nameT 9) (seqM (asgM (tupM (nilM)) (nameT 10)) (seqM (asgM (valS (callM m__law_draw (consC (argM 0) (consC (valM (binM addD (refM 5) (valM (cM (.int 1))))) (nilC))))) (nameT 11)) (seqM (iteM (orM (tstM (binM eqD (refM 9) (refM 7))) (tstM (binM eqD (valM (valS (callM m__law_draw (consC (argM 0) (consC (valM (cM (.int 4))) (nilC)))))) (valM (cM (.int 1)))))) (seqM (asgM (min2M (binM addD (refM 5) (valM (cM (.int 1)))) (binM subD (refM 2) (valM (cM (.int 1))))) (nameT 11)) (iteM (tstM (binM eqD (refM 5) (valM (binM subD (refM 2) (valM (cM (.int 1))))))) (asgM (tupM (consM (binM ixD (refM 3) (valM (cM (.int 0)))) (nilM))) (nameT 10)) (skipM))) (iteM (tstM (binM eqD (valM (valS (callM m__law_draw (consC (argM 0) (consC (valM (cM (.int 2))) (nilC)))))) (valM (cM (.int 1))))) (asgM (tupM (consM (valS (callM m__law_pick (consC (argM 0) (consC (valM (binM addD (valM (slM slD (refM 3) (partM (cM (.int 1))) (noM))) (valM (frzM (lstM (consM (cM (.str "zz")) (nilM))))))) (nilC))))) (nilM))) (nameT 10)) (skipM))) (dropM (appM 8 (tupM (consM (binM ixD (refM 6) (refM 9)) (consM (getM 10) (consM (getM 11) (nilM))))))))))) (dropM (appM 4 (b1M tupleD (refM 8))))))))) (retM (tupM (consM (cM (.str "chain")) (consM (getM 1) (consM (b1M tupleD (refM 4)) (nilM)))))))
noncomputable def m__law_ladder : Fn := defM 12 4 [0] b__law_ladder
theorem u__law_ladder {a0 a1 a2 a3 : Sl} {R : Sl → List Sl → Prop} (h : wp b__law_ladder [a0, a1, a2, a3, .u, .u, .u, .u, .u, .u, .u, .u] (defK [0] 4 R)) : fw m__law_ladder [a0, a1, a2, a3] R := fw_def rfl h
/-- _law_wide_shown (d, marks, k) -/
noncomputable def b__law_wide_shown : MS := retM (b1M tupleD (valM (frzM (lcM (rng1M (consM (valS (callM m__law_pick (consC (argM 0) (consC (valM (frzM (lstM (consM (cM (.int 0)) (consM (cM (.int 0)) (consM (cM (.int 1)) (consM (cM (.int 1)) (consM (cM (.int 1)) (consM (cM (.int 2)) (consM (cM (.int 2)) (consM (cM (.int 3)) (consM (cM (.int 6)) (nilM))))))))))))) (nilC))))) (nilM))) [2] (nameT 2) (ret true) (valS (callM m__law_pick (consC (argM 0) (consC (valM (getM 1)) (nilC)))))))))
noncomputable def m__law_wide_shown : Fn := defM 3 2 [0] b__law_wide_shown
theorem u__law_wide_shown {a0 a1 : Sl} {R : Sl → List Sl → Prop} (h : wp b__law_wide_shown [a0, a1, .u] (defK [0] 2 R)) : fw m__law_wide_shown [a0, a1] R := fw_def rfl h
/-- _law_spared (d, chain, watch, met, pair, one) -/
noncomputable def b__law_spared : MS := seqM (iteM (tstM (binM eqD (valM (valS (callM m__law_draw (consC (argM 0) (consC (valM (cM (.int 2))) (nilC)))))) (valM (cM (.int 0))))) (retM (getM 2)) (skipM)) (seqM (asgM (frzM (lcM (itM (valS (callM m__law_met_pairs (consC (valM (getM 1)) (consC (valM (getM 2)) (consC (valM (frzM (lstM (consM (tupM (consM (cM (.int 0)) (consM (cM (.int 0)) (nilM)))) (nilM))))) (nilC))))))) [4] (nameT 4) (ret true) (binM ixD (refM 4) (valM (cM (.int 1)))))) (nameT 3)) (retM (tupM (consM (binM ixD (refM 2) (valM (cM (.int 0)))) (consM (binM ixD (refM 2) (valM (cM (.int 1)))) (consM (b1M tupleD (valM (frzM (lcM (itM (binM ixD (refM 2) (valM (cM (.int 2))))) [5] (nameT 5) (tstM (binM notInD (refM 5) (refM 3))) (getM 5))))) (nilM)))))))
noncomputable def m__law_spared : Fn := defM 6 3 [0] b__law_spared
theorem u__law_spared {a0 a1 a2 : Sl} {R : Sl → List Sl → Prop} (h : wp b__law_spared [a0, a1, a2, .u, .u, .u] (defK [0] 3 R)) : fw m__law_spared [a0, a1, a2] R := fw_def rfl h
/-- _law_table (d, chain, watch, many, size, drawn, starts, pairs, s, way, k) -/
noncomputable def b__law_table : MS := seqM (asgM (b1M lenD (valM (binM ixD (refM 1) (valM (cM (.int 2)))))) (nameT 3)) (seqM (asgM (b1M lenD (valM (binM ixD (refM 2) (valM (cM (.int 1)))))) (nameT 4)) (seqM (asgM (tupM (consM (valS (callM m__law_draw (consC (argM 0) (consC (valM (getM 3)) (nilC))))) (consM (valS (callM m__law_draw (consC (argM 0) (consC (valM (getM 4)) (nilC))))) (nilM)))) (nameT 5)) (seqM (asgM (valS (callM m__law_pick (consC (argM 0) (consC (valM (frzM (lstM (consM (frzM (lstM (consM (tupM (consM (cM (.int 0)) (consM (cM (.int 0)) (nilM)))) (nilM)))) (consM (frzM (lstM (consM (tupM (consM (cM (.int 0)) (consM (cM (.int 0)) (nilM)))) (nilM)))) (consM (frzM (lstM (consM (tupM (consM (cM (.int 0)) (consM (cM (.int 0)) (nilM)))) (consM (getM 5) (nilM))))) (consM (frzM (lstM (consM (getM 5) (nilM)))) (nilM)))))))) (nilC))))) (nameT 6)) (seqM (setNM 7 (ownS (callM m__law_met_pairs (consC (valM (getM 1)) (consC (valM (getM 2)) (consC (valM (getM 6)) (nilC))))))) (seqM (iteM (tstM (binM eqD (valM (valS (callM m__law_draw (consC (argM 0) (consC (valM (cM (.int 5))) (nilC)))))) (valM (cM (.int 1))))) (seqM (setNM 7 (lstM (nilM))) (forM (rng1M (consM (getM 3) (nilM))) (nameT 8) (setNM 7 (binM catO (refM 7) (valM (frzM (lcM (rng1M (consM (getM 4) (nilM))) [10] (nameT 10) (ret true) (tupM (consM (getM 8) (consM (getM 10) (nilM))))))))))) (skipM)) (seqM (iteM (tstM (binM eqD (valM (valS (callM m__law_draw (consC (argM 0) (consC (valM (cM (.int 2))) (nilC)))))) (valM (cM (.int 1))))) (setNM 7 (ownS (callM m__law_shuffled (consC (argM 0) (consC (valM (getM 7)) (nilC)))))) (skipM)) (seqM (asgM (valS (callM m__law_draw (consC (argM 0) (consC (valM (cM (.int 9))) (nilC))))) (nameT 9)) (seqM (iteM (tstM (binM eqD (refM 9) (valM (cM (.int 0))))) (setNM 7 (binM catO (refM 7) (valM (slM slD (refM 7) (noM) (partM (cM (.int 2))))))) (skipM)) (seqM (iteM (tstM (binM eqD (refM 9) (valM (cM (.int 1))))) (dropM (popAtM 7 (valS (callM m__law_draw (consC (argM 0) (consC (valM (b1M lenD (refM 7))) (nilC))))))) (skipM)) (seqM (iteM (tstM (binM eqD (refM 9) (valM (cM (.int 2))))) (dropM (appM 7 (tupM (consM (valS (callM m__law_pick (consC (argM 0) (consC (valM (frzM (lstM (consM (unM negD (cM (.int 1))) (consM (getM 3) (consM (unM negD (getM 3)) (consM (cM (.int 1000000)) (nilM)))))))) (nilC))))) (consM (valS (callM m__law_draw (consC (argM 0) (consC (valM (getM 4)) (nilC))))) (nilM)))))) (skipM)) (seqM (iteM (tstM (binM eqD (refM 9) (valM (cM (.int 3))))) (dropM (appM 7 (tupM (consM (valS (callM m__law_draw (consC (argM 0) (consC (valM (getM 3)) (nilC))))) (consM (valS (callM m__law_pick (consC (argM 0) (consC (valM (frzM (lstM (consM (unM negD (cM (.int 1))) (consM (getM 4) (consM (unM negD (getM 4)) (consM (unM negD (cM (.int 1000000))) (nilM)))))))) (nilC))))) (nilM)))))) (skipM)) (seqM (iteM (tstM (binM eqD (refM 9) (valM (cM (.int 4))))) (dropM (appM 7 (tupM (consM (valS (callM m__law_draw (consC (argM 0) (consC (valM (getM 3)) (nilC))))) (consM (valS (callM m__law_draw (consC (argM 0) (consC (valM (getM 4)) (nilC))))) (nilM)))))) (skipM)) (seqM (iteM (tstM (binM eqD (refM 9) (valM (cM (.int 5))))) (setNM 7 (slM slO (refM 7) (noM) (partM (valS (callM m__law_draw (consC (argM 0) (consC (valM (binM addD (valM (b1M lenD (refM 7))) (valM (cM (.int 1))))) (nilC)))))))) (skipM)) (retM (b1M tupleD (refM 7))))))))))))))))
noncomputable def m__law_table : Fn := defM 11 3 [0] b__law_table
theorem u__law_table {a0 a1 a2 : Sl} {R : Sl → List Sl → Prop} (h : wp b__law_table [a0, a1, a2, .u, .u, .u, .u, .u, .u, .u, .u] (defK [0] 3 R)) : fw m__law_table [a0, a1, a2] R := fw_def rfl h
/-- _law_blocks (d, chain, state, blocks, step, digits, shown, way, k, word) -/
noncomputable def b__law_blocks : MS := seqM (asgM (cM (.int 0)) (nameT 2)) (seqM (setNM 3 (lstM (nilM))) (seqM (forM (rng1M (consM (binM addD (valM (valS (callM m__law_draw (consC (argM 0) (consC (valM (cM (.int 9))) (nilC)))))) (valM (binM mulD (valM (cM (.int 60))) (valM (b1M intD (valM (valS (callM m__law_rare (consC (argM 0) (consC (valM (cM (.int 17))) (nilC))))))))))) (nilM))) (nameT 4) (seqM (asgM (valS (callM m__law_pick (consC (argM 0) (consC (valM (binM ixD (valM (binM ixD (refM 1) (valM (cM (.int 2))))) (refM 2))) (nilC))))) (tupNT 3 (consT (nameT 5) (consT (nameT 6) (consT (nameT 2) (nilT)))))) (dropM (appM 3 (getM 5))))) (seqM (asgM (valS (callM m__law_draw (consC (argM 0) (consC (valM (cM (.int 11))) (nilC))))) (nameT 7)) (seqM (asgM (valS (callM m__law_draw (consC (argM 0) (consC (valM (binM addD (valM (b1M lenD (refM 3))) (valM (cM (.int 1))))) (nilC))))) (nameT 8)) (seqM (asgM (b1M tupleD (valM (frzM (lcM (rng1M (consM (valS (callM m__law_draw (consC (argM 0) (consC (valM (cM (.int 4))) (nilC))))) (nilM))) [4] (nameT 4) (ret true) (valS (callM m__law_draw (consC (argM 0) (consC (valM (binM addD (valM (binM ixD (refM 1) (valM (cM (.int 1))))) (valM (cM (.int 1))))) (nilC))))))))) (nameT 9)) (seqM (iteM (tstM (binM eqD (refM 7) (valM (cM (.int 1))))) (setNM 3 (binM catO (valM (binM addD (valM (slM slD (refM 3) (noM) (partM (getM 8)))) (valM (frzM (lstM (consM (getM 9) (nilM))))))) (valM (slM slD (refM 3) (partM (binM addD (refM 8) (valM (cM (.int 1))))) (noM))))) (skipM)) (seqM (iteM (tstM (binM eqD (refM 7) (valM (cM (.int 2))))) (setNM 3 (binM catO (valM (slM slD (refM 3) (noM) (partM (getM 8)))) (valM (slM slD (refM 3) (partM (binM addD (refM 8) (valM (cM (.int 1))))) (noM))))) (skipM)) (seqM (iteM (tstM (binM eqD (refM 7) (valM (cM (.int 3))))) (setNM 3 (binM catO (valM (binM addD (valM (slM slD (refM 3) (noM) (partM (getM 8)))) (valM (frzM (lstM (consM (getM 9) (nilM))))))) (valM (slM slD (refM 3) (partM (getM 8)) (noM))))) (skipM)) (seqM (iteM (andM (tstM (binM eqD (refM 7) (valM (cM (.int 4))))) (tstM (binM ltD (refM 8) (valM (b1M lenD (refM 3)))))) (setItM 3 (binM addD (valM (binM ixD (refM 3) (refM 8))) (valM (tupM (consM (valS (callM m__law_draw (consC (argM 0) (consC (valM (binM ixD (refM 1) (valM (cM (.int 1))))) (nilC))))) (nilM))))) (getM 8)) (skipM)) (seqM (iteM (andM (tstM (binM eqD (refM 7) (valM (cM (.int 5))))) (tstM (binM ltD (refM 8) (valM (b1M lenD (refM 3)))))) (setItM 3 (slM slD (valM (binM ixD (refM 3) (refM 8))) (noM) (partM (unM negD (cM (.int 1))))) (getM 8)) (skipM)) (seqM (iteM (tstM (binM eqD (refM 7) (valM (cM (.int 6))))) (dropM (appM 3 (tupM (consM (valS (callM m__law_pick (consC (argM 0) (consC (valM (frzM (lstM (consM (unM negD (cM (.int 1))) (consM (binM ixD (refM 1) (valM (cM (.int 1)))) (consM (cM (.int 1000000)) (nilM))))))) (nilC))))) (nilM))))) (skipM)) (retM (b1M tupleD (refM 3))))))))))))))
noncomputable def m__law_blocks : Fn := defM 10 2 [0] b__law_blocks
theorem u__law_blocks {a0 a1 : Sl} {R : Sl → List Sl → Prop} (h : wp b__law_blocks [a0, a1, .u, .u, .u, .u, .u, .u, .u, .u] (defK [0] 2 R)) : fw m__law_blocks [a0, a1] R := fw_def rfl h
/-- _law_some_watch (d, marks, most, way, one, other, n, steps, k) -/
noncomputable def b__law_some_watch : MS := seqM (asgM (valS (callM m__law_draw (consC (argM 0) (consC (valM (cM (.int 7))) (nilC))))) (nameT 3)) (seqM (asgM (binM ixD (refM 1) (valM (cM (.int 0)))) (nameT 4)) (seqM (asgM (binM ixD (refM 1) (valM (cM (.int 1)))) (nameT 5)) (seqM (iteM (tstM (binM eqD (refM 3) (valM (cM (.int 0))))) (retM (tupM (consM (cM (.str "watch")) (consM (tupM (consM (tupM (consM (tupM (consM (getM 4) (consM (cM (.int 1)) (nilM)))) (consM (tupM (consM (cM .none) (consM (cM (.int 0)) (nilM)))) (nilM)))) (consM (tupM (consM (tupM (consM (cM .none) (consM (cM (.int 1)) (nilM)))) (nilM))) (nilM)))) (consM (tupM (consM (cM (.int 1)) (nilM))) (nilM)))))) (skipM)) (seqM (iteM (tstM (binM eqD (refM 3) (valM (cM (.int 1))))) (seqM (asgM (binM addD (valM (cM (.int 1))) (valM (valS (callM m__law_draw (consC (argM 0) (consC (valM (cM (.int 4))) (nilC))))))) (nameT 6)) (seqM (asgM (b1M tupleD (valM (frzM (lcM (rng1M (consM (getM 6) (nilM))) [8] (nameT 8) (ret true) (tupM (consM (tupM (consM (getM 5) (consM (cM (.int 0)) (nilM)))) (consM (tupM (consM (cM .none) (consM (binM addD (refM 8) (valM (cM (.int 2)))) (nilM)))) (nilM)))))))) (nameT 7)) (retM (tupM (consM (cM (.str "watch")) (consM (binM addD (valM (binM addD (valM (tupM (consM (tupM (consM (tupM (consM (getM 4) (consM (cM (.int 1)) (nilM)))) (consM (tupM (consM (cM .none) (consM (cM (.int 0)) (nilM)))) (nilM)))) (nilM)))) (refM 7))) (valM (tupM (consM (tupM (consM (tupM (consM (cM .none) (consM (binM addD (refM 6) (valM (cM (.int 1)))) (nilM)))) (nilM))) (nilM))))) (consM (tupM (consM (binM addD (refM 6) (valM (cM (.int 1)))) (nilM))) (nilM)))))))) (skipM)) (seqM (iteM (tstM (binM eqD (refM 3) (valM (cM (.int 2))))) (retM (tupM (consM (cM (.str "watch")) (consM (tupM (consM (tupM (consM (tupM (consM (getM 5) (consM (cM (.int 1)) (nilM)))) (consM (tupM (consM (getM 4) (consM (cM (.int 2)) (nilM)))) (consM (tupM (consM (cM .none) (consM (cM (.int 0)) (nilM)))) (nilM))))) (consM (tupM (consM (tupM (consM (cM .none) (consM (cM (.int 1)) (nilM)))) (nilM))) (consM (tupM (consM (tupM (consM (cM .none) (consM (cM (.int 2)) (nilM)))) (nilM))) (nilM))))) (consM (tupM (consM (cM (.int 2)) (nilM))) (nilM)))))) (skipM)) (retM (valS (callM m__law_drawn_watch (consC (argM 0) (consC (valM (binM addD (refM 1) (valM (frzM (lstM (consM (cM (.str "zz")) (nilM))))))) (consC (valM (binM addD (valM (cM (.int 1))) (valM (valS (callM m__law_draw (consC (argM 0) (consC (valM (getM 2)) (nilC)))))))) (nilC))))))))))))
noncomputable def m__law_some_watch : Fn := defM 9 3 [0] b__law_some_watch
theorem u__law_some_watch {a0 a1 a2 : Sl} {R : Sl → List Sl → Prop} (h : wp b__law_some_watch [a0, a1, a2, .u, .u, .u, .u, .u, .u] (defK [0] 3 R)) : fw m__law_some_watch [a0, a1, a2] R := fw_def rfl h
/-- _law_wide_chain (d, base, states, marks, rows, s, row, word) -/
noncomputable def b__law_wide_chain : MS := seqM (setNM 4 (lstM (nilM))) (seqM (forM (rng1M (consM (getM 2) (nilM))) (nameT 5) (seqM (setNM 6 (lstM (nilM))) (seqM (forM (itM (valS (callM m__law_words (consC (argM 0) (consC (valM (getM 1)) (consC (valM (valS (callM m__law_draw (consC (argM 0) (consC (valM (cM (.int 3))) (nilC)))))) (nilC))))))) (nameT 7) (dropM (appM 6 (tupM (consM (getM 7) (consM (valS (callM m__law_wide_shown (consC (argM 0) (consC (valM (getM 3)) (nilC))))) (consM (valS (callM m__law_draw (consC (argM 0) (consC (valM (getM 2)) (nilC))))) (nilM)))))))) (dropM (appM 4 (b1M tupleD (refM 6))))))) (retM (tupM (consM (cM (.str "chain")) (consM (getM 1) (consM (b1M tupleD (refM 4)) (nilM)))))))
noncomputable def m__law_wide_chain : Fn := defM 8 4 [0] b__law_wide_chain
theorem u__law_wide_chain {a0 a1 a2 a3 : Sl} {R : Sl → List Sl → Prop} (h : wp b__law_wide_chain [a0, a1, a2, a3, .u, .u, .u, .u] (defK [0] 4 R)) : fw m__law_wide_chain [a0, a1, a2, a3] R := fw_def rfl h
/-- _law_some_chain (d, marks, most, base, states) -/
noncomputable def b__law_some_chain : MS := seqM (asgM (binM addD (valM (cM (.int 2))) (valM (valS (callM m__law_draw (consC (argM 0) (consC (valM (cM (.int 2))) (nilC))))))) (nameT 3)) (seqM (iteM (truM (valM (valS (callM m__law_rare (consC (argM 0) (consC (valM (cM (.int 7))) (nilC))))))) (asgM (cM (.int 6)) (nameT 3)) (skipM)) (seqM (asgM (binM addD (valM (cM (.int 1))) (valM (valS (callM m__law_draw (consC (argM 0) (consC (valM (cM (.int 5))) (nilC))))))) (nameT 4)) (seqM (iteM (truM (valM (valS (callM m__law_rare (consC (argM 0) (consC (valM (cM (.int 9))) (nilC))))))) (asgM (getM 2) (nameT 4)) (skipM)) (seqM (iteM (tstM (binM eqD (valM (valS (callM m__law_draw (consC (argM 0) (consC (valM (cM (.int 3))) (nilC)))))) (valM (cM (.int 1))))) (retM (valS (callM m__law_ladder (consC (argM 0) (consC (valM (getM 3)) (consC (valM (getM 4)) (consC (valM (getM 1)) (nilC)))))))) (skipM)) (retM (valS (callM m__law_wide_chain (consC (argM 0) (consC (valM (getM 3)) (consC (valM (getM 4)) (consC (valM (getM 1)) (nilC))))))))))))
noncomputable def m__law_some_chain : Fn := defM 5 3 [0] b__law_some_chain
theorem u__law_some_chain {a0 a1 a2 : Sl} {R : Sl → List Sl → Prop} (h : wp b__law_some_chain [a0, a1, a2, .u, .u] (defK [0] 3 R)) : fw m__law_some_chain [a0, a1, a2] R := fw_def rfl h
/-- law (script, d, names, marks, chain, watch, tables, rows, turn, k) -/
noncomputable def b_law : MS := seqM (setNM 1 (ownS (callM m__law_begin (consC (argM 0) (nilC))))) (seqM (setNM 2 (ownS (callM m__law_pool nilC))) (seqM (asgM (frzM (lcM (rng1M (consM (binM addD (valM (cM (.int 2))) (valM (valS (callM m__law_draw (consC (argM 1) (consC (valM (cM (.int 3))) (nilC))))))) (nilM))) [9] (nameT 9) (ret true) (valS (callM m__law_pop (consC (argM 1) (consC (argM 2) (nilC))))))) (nameT 3)) (seqM (asgM (valS (callM m__law_some_chain (consC (argM 1) (consC (valM (getM 3)) (consC (valM (cM (.int 20))) (nilC)))))) (nameT 4)) (seqM (asgM (valS (callM m__law_spared (consC (argM 1) (consC (valM (getM 4)) (consC (valM (valS (callM m__law_some_watch (consC (argM 1) (consC (valM (getM 3)) (consC (valM (cM (.int 4))) (nilC))))))) (nilC)))))) (nameT 5)) (seqM (asgM (frzM (lcM (rng1M (consM (cM (.int 3)) (nilM))) [9] (nameT 9) (ret true) (valS (callM m__law_table (consC (argM 1) (consC (valM (getM 4)) (consC (valM (getM 5)) (nilC)))))))) (nameT 6)) (seqM (asgM (frzM (lcM (rng1M (consM (cM (.int 3)) (nilM))) [9] (nameT 9) (ret true) (valS (callM m__law_blocks (consC (argM 1) (consC (valM (getM 4)) (nilC))))))) (nameT 7)) (seqM (forM (rng1M (consM (cM (.int 2)) (nilM))) (nameT 8) (forM (rng1M (consM (cM (.int 3)) (nilM))) (nameT 9) (seqM (iteM (notM (truM (valM (valS (callM m__law_is_bool (consC (valM (valS (callM m_judge_holds (consC (valM (getM 4)) (consC (valM (getM 5)) (consC (valM (binM ixD (refM 6) (refM 9))) (nilC))))))) (consC (valM (valS (callM m__law_closed (consC (valM (getM 4)) (consC (valM (getM 5)) (consC (valM (binM ixD (refM 6) (refM 9))) (nilC))))))) (nilC)))))))) (retM (cM (.bool false))) (skipM)) (iteM (notM (truM (valM (valS (callM m__law_is_bool (consC (valM (valS (callM m_judge_breaks (consC (valM (getM 4)) (consC (valM (getM 5)) (consC (valM (binM ixD (refM 7) (refM 9))) (nilC))))))) (consC (valM (valS (callM m__law_broken_by (consC (valM (getM 4)) (consC (valM (getM 5)) (consC (valM (binM ixD (refM 7) (refM 9))) (nilC))))))) (nilC)))))))) (retM (cM (.bool false))) (skipM))))) (retM (cM (.bool true))))))))))
noncomputable def m_law : Fn := defM 10 1 [0] b_law
theorem u_law {a0 : Sl} {R : Sl → List Sl → Prop} (h : wp b_law [a0, .u, .u, .u, .u, .u, .u, .u, .u, .u] (defK [0] 1 R)) : fw m_law [a0] R := fw_def rfl h
end K75
section
open PySem PySem.Spec PyProof.Rows L2 Fx
set_option maxHeartbeats 4000000
-- one step by the form of the mirror
local macro_rules | `(tactic| walk_at "fx1") => `(tactic| with_reducible first
  | refine wp_seq ?_ | refine wp_ite ?_ | refine wp_asgN ?_ | refine wp_rt ?_ | refine wp_val ?_ | refine wp_c ?_ | refine wp_bin ?_ | refine wp_tst ?_ | refine wp_valS ?_ | refine wp_call ?_ | refine wp_callF ?_ | refine wp_lastN ?_ | refine wp_consN ?_
  | refine wp_consC ?_ | refine wp_nilC ?_ | refine wp_consA ?_ | refine wp_nilA ?_ | refine wp_tup ?_ | refine wp_lst ?_ | refine wp_frz ?_ | refine wp_b1 ?_ | refine wp_un ?_ | refine wp_par ?_ | refine wp_par3N ?_ | refine wp_enumS ?_ | refine wp_skip ?_
  | refine wp_setN ?_ | refine wp_rtN ?_ | refine wp_drop ?_ | refine wp_and ?_ | refine wp_or ?_ | refine wp_not ?_ | refine wp_bl ?_ | refine wp_tru ?_ | refine wp_isi ?_ | refine wp_chain ?_ | refine wp_sl ?_ | refine wp_no ?_ | refine wp_part ?_
  | refine wp_ownS ?_ | refine wp_asg ?_ | refine wp_setIt ?_ | refine wp_augIt ?_ | refine wp_forM ?_ | refine wp_lc ?_ | refine wp_it ?_ | refine wp_rng1 ?_ | refine wp_rng2 ?_ | refine wp_app ?_ | refine wp_popAt ?_ | refine wp_ret ?_ | refine wp_min2 ?_ | refine wp_max2 ?_ | refine wp_newT ?_ | refine wp_dget ?_ | refine wp_dput ?_ | refine wp_listrng2 ?_ | refine wp_listrng1 ?_ | refine wp_newK ?_ | refine wp_kget ?_ | refine wp_kput ?_ | refine wp_newD ?_ | refine wp_get1 ?_ | refine wp_get2 ?_ | refine wp_zip ?_ | refine wp_enumerate ?_ | refine wp_dispD ?_ | refine wp_disp ?_ | refine wp_disp_cons ?_ | refine wp_disp_nil ?_ | refine wp_setT ?_ | refine wp_lcUM ?_
  | refine seqK_nx ?_ | refine seqK_rt ?_ | refine seqK_bk ?_ | refine seqK_ct ?_ | refine lopK_nx ?_ | refine lopK_ct ?_ | refine lopK_bk ?_ | refine lopK_rt ?_ | refine defK_v ?_ | refine defK_o ?_ | refine defK_nx ?_ | refine valK_v ?_ | refine valK_o ?_ | refine ownK_o ?_ | refine tstK_b ?_ | refine partK_i ?_ | refine frzK_l ?_ | refine frzK_d ?_)
-- a name: what its slot holds
local macro_rules | `(tactic| walk_at "fx2") => `(tactic| first
  | ((with_reducible show wp (getM _) _ _); first | refine wp_get rfl ?_ | refine wp_getO rfl ?_ | refine wp_getD rfl ?_)
  | ((with_reducible show wp (refM _) _ _); first | refine wp_ref rfl ?_ | refine wp_refO rfl ?_)
  | ((with_reducible show wp (argM _) _ _); first | refine wp_arg rfl ?_ | refine wp_argO rfl ?_ | refine wp_argS rfl ?_)
  | ((with_reducible show wp (getTM _) _ _); first | refine wp_getT rfl ?_ | refine wp_getTv rfl ?_)
  | ((with_reducible show wp (lenTM _) _ _); first | refine wp_lenT rfl ?_ | refine wp_lenTv rfl ?_)
  | ((with_reducible show wp (scrM _) _ _); refine wp_scr rfl ?_)
  | ((with_reducible show wp (ownM _) _ _); refine wp_own rfl ?_)
  | ((with_reducible show wp (ownLM _) _ _); refine wp_ownL rfl ?_)
  | ((with_reducible show wp (retOM _) _ _); refine wp_rtO rfl ?_)
  | ((with_reducible show wp (putL _ _ _) _ _); refine wp_putL rfl rfl ?_)
  | ((with_reducible show wp (augIt _ _ _ _) _ _); refine wp_augIt' rfl rfl ?_)
  | ((with_reducible show wp (augM _ _ _) _ _); refine wp_aug rfl ?_)
  | ((with_reducible show wp (pushL _ _) _ _); refine wp_push rfl (by first | walk_at "fit" | (dsimp only [List.length]; decide)) ?_))
local macro_rules | `(tactic| walk_at "fit") => `(tactic| first | assumption | decide | omega)
local macro_rules | `(tactic| walk_at "fitm") => `(tactic| first | assumption | exact mulFit_l (by decide) | exact mulFit_r (by decide))
local macro_rules | `(tactic| walk_at "sh") => `(tactic| first | assumption | rfl | decide)
-- an operation
local macro_rules | `(tactic| walk_at "fx3") => `(tactic| first
  | ((with_reducible show bop addD _ _ _); first | refine bop_add_ii ?_ | refine bop_add_tt (by first | walk_at "fit" | (dsimp only [List.length]; decide)) ?_ | refine bop_add_ll (by first | walk_at "fit" | (dsimp only [List.length]; decide)) ?_ | refine bop_add_ss (by walk_at "fit") ?_)
  | ((with_reducible show bop subD _ _ _); refine bop_sub ?_)
  | ((with_reducible show bop mulD _ _ _); refine bop_mul (by walk_at "fitm") ?_)
  | ((with_reducible show bop fdivD _ _ _); refine bop_fdiv (by walk_at "fit") ?_)
  | ((with_reducible show bop modD _ _ _); refine bop_mod (by walk_at "fit") ?_)
  | ((with_reducible show bop powD _ _ _); refine bop_pow (by walk_at "fit") ?_)
  | ((with_reducible show bop shlD _ _ _); refine bop_shl (by walk_at "fit") ?_)
  | ((with_reducible show bop (cmpD _) _ _ _); refine bop_cmp ?_)
  | ((with_reducible show bop eqD _ _ _); first | refine bop_eq_ii ?_ | refine bop_eq_ss (by walk_at "sh") (by walk_at "sh") ?_ | refine bop_eq (by walk_at "sh") (by walk_at "sh") ?_)
  | ((with_reducible show bop neD _ _ _); first | refine bop_ne_ii ?_ | refine bop_ne_ss (by walk_at "sh") (by walk_at "sh") ?_ | refine bop_ne (by walk_at "sh") (by walk_at "sh") ?_)
  | ((with_reducible show bop ixD _ _ _); first | refine bop_ixT rfl ?_ | refine bop_ixL rfl ?_ | refine bop_ixT (by assumption) ?_ | refine bop_ixL (by assumption) ?_)
  | ((with_reducible show bop isNoneD _ _ _); refine bop_isN rfl ?_)
  | ((with_reducible show bop notNoneD _ _ _); refine bop_notN rfl ?_)
  | ((with_reducible show uop negD _ _); refine uop_is rfl ?_)
  | ((with_reducible show uop lenD _ _); refine uop_is rfl ?_)
  | ((with_reducible show uop absD _ _); refine uop_abs ?_)
  | ((with_reducible show uop intD _ _); refine uop_is rfl ?_)
  | ((with_reducible show uop truD _ _); refine uop_is rfl ?_)
  | ((with_reducible show uop itemsD _ _); refine uop_is rfl ?_)
  | ((with_reducible show uop tupleD _ _); refine uop_is rfl ?_)
  | ((with_reducible show uop listO _ _); refine uop_is rfl ?_))
local macro_rules | `(tactic| walk_at "nd") => `(tactic| first | exact List.nodup_nil | exact List.nodup_singleton _ | decide | (dsimp only [slotsR]; decide))
local macro_rules | `(tactic| walk_at "fs") => `(tactic| first | rfl | (dsimp only [List.length]; decide) | walk_at "fit")
local macro_rules | `(tactic| walk_at "fx4") => `(tactic| first
  | ((with_reducible show callK _ _ _ _); refine callK_go rfl (by walk_at "nd") ?_)
  | ((with_reducible show callFK _ _ _ _); refine callFK_go rfl (by walk_at "nd") ?_)
  | (with_reducible refine ex_int ?_)
  | (with_reducible refine ex_int2 ?_)
  | ((with_reducible show ∃ n, [PyData.int _] = [PyData.int n] ∧ _); refine ex_rng1 (by omega) (by omega) ?_)
  | ((with_reducible show ∃ a n, [PyData.int _, PyData.int _] = [PyData.int a, PyData.int n] ∧ _); refine ex_rng2 (by omega) (by omega) (by omega) (by omega) ?_)
  | ((with_reducible show fitS _ = true ∧ _); refine ⟨by walk_at "fs", ?_⟩))
local macro_rules | `(tactic| walk_at "nf") => `(tactic| dsimp only [backR, List.set, wipeR])
local macro_rules | `(tactic| walk_at "fx") => `(tactic| first | walk_at "fx1" | walk_at "fx2" | walk_at "fx3" | walk_at "fx4")
local macro_rules | `(tactic| walk_at "fxs") => `(tactic| repeat walk_at "fx")
-- up to a test that has more behind it
local macro_rules | `(tactic| walk_at "fxj") => `(tactic| repeat ((fail_if_success (with_reducible show wp (seqM (iteM _ _ _) _) _ _)); walk_at "fx"))
-- the same, up to a while
local macro_rules | `(tactic| walk_at "fxw") => `(tactic| repeat ((fail_if_success (with_reducible show wp (seqM (iteM _ _ _) _) _ _)); (fail_if_success (with_reducible show wp (seqM (whileM _ _) _) _ _)); walk_at "fx"))
-- the same, up to a for
local macro_rules | `(tactic| walk_at "fxf") => `(tactic| repeat ((fail_if_success (with_reducible show wp (seqM (iteM _ _ _) _) _ _)); (fail_if_success (with_reducible show wp (seqM (Fx.forM _ _ _) _) _ _)); walk_at "fx"))
namespace K75
variable [Wd]
theorem at_head (x : D) (xs : List D) : atI (x :: xs) 0 = some x := atI_of (n := 0) rfl
theorem eq_ww {a b : Str} (ha : PyData.strOk a = true) (hb : PyData.strOk b = true) (t : Bool) (h : decide (a = b) = t) : eqD (.str a) (.str b) = some (.bool t) := by
  unfold eqD
  rw [shaped_str ha, shaped_str hb, ← h]
  unfold PyData.eqv
  rfl
theorem in_ww {w : Str} (ws : List Str) (t : Bool) (h : (ws.any fun z => decide (z = w)) = t) : inD (.str w) (.tuple (ws.map PyData.str)) = some (.bool t) := by
  show ((strsOf (ws.map PyData.str)).map fun zs => zs.any fun z => decide (z = w)).map PyData.bool = _
  rw [strsOf_map]
  show some (PyData.bool (ws.any fun z => decide (z = w))) = _
  rw [h]
theorem wd_f {c : Bool} {P Q : Prop} (e : c = false) (q : Q) : (c = true → P) ∧ (c = false → Q) := ⟨fun h => (by rw [e] at h; cases h), fun _ => q⟩
theorem wd_t {c : Bool} {P Q : Prop} (e : c = true) (p : P) : (c = true → P) ∧ (c = false → Q) := ⟨fun _ => p, fun h => (by rw [e] at h; cases h)⟩
-- words that are known: equal, unlike, in a row, in none
local macro_rules | `(tactic| walk_at "wd") => `(tactic| first
  | ((with_reducible show bop eqD _ _ _); first | refine bop_is (eq_ww (by decide +kernel) (by decide +kernel) false (by decide +kernel)) ?_ | refine bop_is (eq_ww (by decide +kernel) (by decide +kernel) true (by decide +kernel)) ?_)
  | ((with_reducible show bop inD _ _ _); first | refine bop_is (in_ww [_] false (by decide +kernel)) ?_ | refine bop_is (in_ww [_] true (by decide +kernel)) ?_ | refine bop_is (in_ww [_, _] false (by decide +kernel)) ?_ | refine bop_is (in_ww [_, _] true (by decide +kernel)) ?_ | refine bop_is (in_ww [_, _, _] false (by decide +kernel)) ?_ | refine bop_is (in_ww [_, _, _] true (by decide +kernel)) ?_)
  | ((with_reducible show bop ixD _ _ _); refine bop_ixT (at_head _ _) ?_)
  | ((with_reducible show uop (isiD _) _ _); first | refine uop_is (z := true) rfl ?_ | refine uop_is (z := false) rfl ?_)
  | ((with_reducible show (_ = true → _) ∧ (_ = false → _)); first | refine wd_f rfl ?_ | refine wd_t rfl ?_ | fail)
  | fail)
local macro_rules | `(tactic| walk_at "fxd") => `(tactic| repeat (first | walk_at "fx" | walk_at "wd" | fail))
/-- a row of intsD -/
def intsD (l : List Int) : D := .tuple (l.map .int)
def DigOk (B : Int) (l : List Int) : Prop := ∀ d ∈ l, 0 ≤ d ∧ d < B
/-- words of at most three digits: whatever is read begins with exactly one of them -/
structure Wset (B : Int) (ws : List (List Int)) : Prop where
  ne : ws ≠ []
  dig : ∀ w ∈ ws, DigOk B w
  len : ∀ w ∈ ws, w.length ≤ 3
  nd : ws.Nodup
  pf : ∀ u ∈ ws, ∀ w ∈ ws, u <+: w → u = w
  full : ∀ t : List Int, 3 ≤ t.length → DigOk B t → ∃ w ∈ ws, w <+: t
theorem Wset.start (B : Int) : Wset B [[]] := ⟨by simp, by simp [DigOk], by simp, by simp, by simp, fun t _ _ => ⟨[], by simp, List.nil_prefix⟩⟩
theorem Wset.perm {B : Int} {ws vs : List (List Int)} (h : Wset B ws) (p : vs.Perm ws) : Wset B vs where
  ne := fun e => h.ne (by rw [e] at p; exact p.nil_eq.symm ▸ rfl)
  dig := fun w hw => h.dig w (p.mem_iff.mp hw)
  len := fun w hw => h.len w (p.mem_iff.mp hw)
  nd := p.nodup_iff.mpr h.nd
  pf := fun u hu w hw e => h.pf u (p.mem_iff.mp hu) w (p.mem_iff.mp hw) e
  full := fun t h1 h2 => let ⟨w, hw, e⟩ := h.full t h1 h2; ⟨w, p.mem_iff.mpr hw, e⟩
def digs (B : Int) : List Int := (List.range B.toNat).map fun (i : Nat) => (i : Int)
theorem digs_mem {B d : Int} : d ∈ digs B ↔ 0 ≤ d ∧ d < B := by
  unfold digs
  rw [List.mem_map]
  constructor
  · rintro ⟨i, hi, rfl⟩
    rw [List.mem_range] at hi
    omega
  · rintro ⟨h1, h2⟩
    exact ⟨d.toNat, by rw [List.mem_range]; omega, by omega⟩
theorem digs_nd (B : Int) : (digs B).Nodup := by
  unfold digs
  refine (List.pairwise_map.mpr (List.nodup_range.imp fun h e => h ?_))
  omega
theorem prefix_snoc {α : Type} {u w : List α} {d : α} (h : u <+: w ++ [d]) : u <+: w ∨ u = w ++ [d] := by
  rcases Nat.lt_or_ge w.length u.length with hl | hl
  · right
    exact h.eq_of_length_le (by simp; omega)
  · left
    exact List.prefix_of_prefix_length_le h (List.prefix_append w [d]) hl
theorem Wset.open {B : Int} {ws : List (List Int)} (h : Wset B ws) {i : Nat} (hi : i < ws.length) (hw : ws[i].length < 3) (hB : 0 < B) : Wset B (ws.eraseIdx i ++ (digs B).map fun d => ws[i] ++ [d]) := by
  have hwm : ws[i] ∈ ws := List.getElem_mem hi
  have hrest : ∀ u, u ∈ ws.eraseIdx i → u ∈ ws ∧ u ≠ ws[i] := fun u hu => by
    obtain ⟨j, hj, hne, e⟩ := List.mem_eraseIdx_iff_getElem.mp hu
    refine ⟨e ▸ List.getElem_mem hj, fun z => hne ?_⟩
    exact (List.getElem_inj h.nd).mp (e.trans z)
  have hback : ∀ u, u ∈ ws → u = ws[i] ∨ u ∈ ws.eraseIdx i := fun u hu => by
    obtain ⟨j, hj, e⟩ := List.getElem_of_mem hu
    by_cases hji : j = i
    · left; subst hji; exact e.symm
    · right; exact List.mem_eraseIdx_iff_getElem.mpr ⟨j, hj, hji, e⟩
  refine ⟨?_, ?_, ?_, ?_, ?_, ?_⟩
  · intro e
    have : (0 : Int) ∈ digs B := digs_mem.mpr ⟨by omega, hB⟩
    have hm : ws[i] ++ [0] ∈ ws.eraseIdx i ++ (digs B).map fun d => ws[i] ++ [d] := List.mem_append_right _ (List.mem_map.mpr ⟨0, this, rfl⟩)
    rw [e] at hm
    cases hm
  · intro w hm
    rcases List.mem_append.mp hm with hm | hm
    · exact h.dig w (hrest w hm).1
    · obtain ⟨d, hd, rfl⟩ := List.mem_map.mp hm
      intro x hx
      rcases List.mem_append.mp hx with hx | hx
      · exact h.dig _ hwm x hx
      · rw [List.mem_singleton.mp hx]; exact digs_mem.mp hd
  · intro w hm
    rcases List.mem_append.mp hm with hm | hm
    · exact h.len w (hrest w hm).1
    · obtain ⟨d, hd, rfl⟩ := List.mem_map.mp hm
      rw [List.length_append, List.length_singleton]; omega
  · refine List.nodup_append.mpr ⟨h.nd.sublist (List.eraseIdx_sublist _ _), ?_, ?_⟩
    · refine List.pairwise_map.mpr ((digs_nd B).imp fun hne e => hne ?_)
      have := List.append_cancel_left e
      simpa using this
    · intro a ha b hb e
      subst e
      obtain ⟨d, hd, rfl⟩ := List.mem_map.mp hb
      obtain ⟨h1, h2⟩ := hrest _ ha
      have := h.pf _ hwm _ h1 (List.prefix_append _ _)
      simp at this
  · intro u hu w hv e
    rcases List.mem_append.mp hu with hu | hu
    · obtain ⟨u1, u2⟩ := hrest u hu
      rcases List.mem_append.mp hv with hv | hv
      · exact h.pf u u1 w (hrest w hv).1 e
      · obtain ⟨d, hd, rfl⟩ := List.mem_map.mp hv
        rcases prefix_snoc e with e | e
        · exact absurd (h.pf u u1 _ hwm e) u2
        · exact e
    · obtain ⟨d, hd, rfl⟩ := List.mem_map.mp hu
      rcases List.mem_append.mp hv with hv | hv
      · obtain ⟨v1, v2⟩ := hrest w hv
        exact absurd (h.pf _ hwm w v1 ((List.prefix_append _ _).trans e)).symm v2
      · obtain ⟨d', hd', rfl⟩ := List.mem_map.mp hv
        exact e.eq_of_length (by simp)
  · intro t h1 h2
    obtain ⟨w, hw1, e⟩ := h.full t h1 h2
    rcases hback w hw1 with rfl | hr
    · obtain ⟨r, rfl⟩ := e
      cases r with
      | nil => simp at h1; omega
      | cons d r =>
        refine ⟨ws[i] ++ [d], List.mem_append_right _ (List.mem_map.mpr ⟨d, digs_mem.mpr (h2 d (by simp)), rfl⟩), r, by simp⟩
    · exact ⟨w, List.mem_append_left _ hr, e⟩
theorem eqvAll_ints : ∀ a b : List Int, PyData.eqvAll (a.map PyData.int) (b.map PyData.int) = decide (a = b)
  | [], [] => by simp [PyData.eqvAll]
  | [], _ :: _ => by simp [PyData.eqvAll]
  | _ :: _, [] => by simp [PyData.eqvAll]
  | x :: a, y :: b => by
    rw [List.map_cons, List.map_cons]
    unfold PyData.eqvAll
    rw [eqvAll_ints a b]
    simp [PyData.eqv]
    by_cases h : x = y <;> simp [h]
theorem eqv_ints (a b : List Int) : PyData.eqv (intsD a) (intsD b) = decide (a = b) := by
  unfold intsD PyData.eqv
  exact eqvAll_ints a b
theorem intsD_shp (l : List Int) : Shp 1 (intsD l) := Shp.tup (k := 0) fun x hx => by
  obtain ⟨i, _, rfl⟩ := List.mem_map.mp hx
  exact Shp.int 0 i
theorem bop_eq_intsD {a b : List Int} {K : D → Prop} (h : K (.bool (decide (a = b)))) : bop eqD (some (intsD a)) (some (intsD b)) K := bop_eq ((intsD_shp a).shaped (by decide)) ((intsD_shp b).shaped (by decide)) (by rw [eqv_ints]; exact h)
theorem notin_ww {w : Str} (ws : List Str) (t : Bool) (h : (ws.any fun z => decide (z = w)) = t) : notInD (.str w) (.tuple (ws.map PyData.str)) = some (.bool (!t)) := by
  show ((strsOf (ws.map PyData.str)).map fun zs => zs.any fun z => decide (z = w)).map (fun b => PyData.bool (!b)) = _
  rw [strsOf_map]
  show some (PyData.bool (!ws.any fun z => decide (z = w))) = _
  rw [h]
theorem cutG_mid {α : Type} (xs : List α) (a b : Nat) : cutG xs (some (a : Int)) (some ((a + b : Nat) : Int)) = (xs.drop a).take b := by
  unfold cutG
  rw [HT.sIx_nat, HT.sIx_nat]
  by_cases h : a ≤ xs.length
  · rw [Nat.min_eq_left h]
    by_cases h2 : a + b ≤ xs.length
    · rw [Nat.min_eq_left h2, Nat.add_sub_cancel_left]
    · rw [Nat.min_eq_right (by omega), List.take_of_length_le (by rw [List.length_drop]; exact Nat.le_refl _), List.take_of_length_le (by rw [List.length_drop]; omega)]
  · rw [Nat.min_eq_right (show xs.length ≤ a by omega), List.drop_length, List.drop_of_length_le (show xs.length ≤ a by omega), List.take_nil, List.take_nil]
theorem prefix_take {α : Type} {w t : List α} : t.take w.length = w ↔ w <+: t := by
  constructor
  · intro h; rw [← h]; exact List.take_prefix _ _
  · rintro ⟨r, rfl⟩; exact List.take_left' rfl
/-- a branch of a row -/
structure Br where
  ds : List Int
  sh : List Str
  to : Nat
def strsD (l : List Str) : D := .tuple (l.map .str)
def brD (b : Br) : D := .tuple [intsD b.ds, strsD b.sh, .int b.to]
def rowD (r : List Br) : D := .tuple (r.map brD)
def chD (B : Int) (rows : List (List Br)) : D := .tuple [.str "chain", .int B, .tuple (rows.map rowD)]
/-- a chain of so many states at most -/
structure ChOk (B : Int) (rows : List (List Br)) : Prop where
  b2 : 2 ≤ B
  b6 : B ≤ 6
  ne : rows ≠ []
  len : rows.length ≤ 40
  ws : ∀ r ∈ rows, Wset B (r.map Br.ds)
  rl : ∀ r ∈ rows, r.length ≤ 40
  to : ∀ r ∈ rows, ∀ b ∈ r, b.to < rows.length
  sh : ∀ r ∈ rows, ∀ b ∈ r, b.sh.length ≤ 10 ∧ ∀ s ∈ b.sh, PyData.strOk s = true
def sil (m : Str) (b : Br) : Bool := !(b.sh.any fun z => decide (z = m))
theorem nd_inj {α β : Type} {f : α → β} : ∀ {l : List α}, (l.map f).Nodup → ∀ {a b : α}, a ∈ l → b ∈ l → f a = f b → a = b
  | x :: l, h, a, b, ha, hb, e => by
    rw [List.map_cons, List.nodup_cons] at h
    rcases List.mem_cons.mp ha with a1 | a1
    · rcases List.mem_cons.mp hb with b1 | b1
      · rw [a1, b1]
      · exact absurd (show f x ∈ l.map f by rw [← a1, e]; exact List.mem_map_of_mem b1) h.1
    · rcases List.mem_cons.mp hb with b1 | b1
      · exact absurd (show f x ∈ l.map f by rw [← b1, ← e]; exact List.mem_map_of_mem a1) h.1
      · exact nd_inj h.2 a1 b1 e
theorem ChOk.uniq {B : Int} {rows : List (List Br)} (h : ChOk B rows) {r : List Br} (hr : r ∈ rows) {a b : Br} (ha : a ∈ r) (hb : b ∈ r) (e : a.ds = b.ds) : a = b := nd_inj (h.ws r hr).nd ha hb e
/-- what is read: one branch and no other -/
theorem ChOk.read {B : Int} {rows : List (List Br)} (h : ChOk B rows) {r : List Br} (hr : r ∈ rows) {a b : Br} (ha : a ∈ r) (hb : b ∈ r) {t : List Int} (e1 : a.ds <+: t) (e2 : b.ds <+: t) : a = b := by
  have W := h.ws r hr
  have m1 : a.ds ∈ r.map Br.ds := List.mem_map.mpr ⟨a, ha, rfl⟩
  have m2 : b.ds ∈ r.map Br.ds := List.mem_map.mpr ⟨b, hb, rfl⟩
  rcases Nat.le_total a.ds.length b.ds.length with hl | hl
  · exact h.uniq hr ha hb (W.pf _ m1 _ m2 (List.prefix_of_prefix_length_le e1 e2 hl))
  · exact h.uniq hr ha hb (W.pf _ m2 _ m1 (List.prefix_of_prefix_length_le e2 e1 hl)).symm
theorem ChOk.some_ {B : Int} {rows : List (List Br)} (h : ChOk B rows) {r : List Br} (hr : r ∈ rows) {t : List Int} (hl : 3 ≤ t.length) (ht : DigOk B t) : ∃ b ∈ r, b.ds <+: t := by
  obtain ⟨w, hw, e⟩ := (h.ws r hr).full t hl ht
  obtain ⟨b, hb, rfl⟩ := List.mem_map.mp hw
  exact ⟨b, hb, e⟩
theorem strsD_shp {l : List Str} (h : ∀ s ∈ l, PyData.strOk s = true) : Shp 1 (strsD l) := Shp.tup (k := 0) fun x hx => by
  obtain ⟨i, hi, rfl⟩ := List.mem_map.mp hx
  exact Shp.str 0 (h i hi)
section
/-- a row of a watch: marks with the states they lead to, and the state of all else -/
structure WR where
  ms : List (Str × Nat)
  df : Nat
def mkD (p : Str × Nat) : D := .tuple [.str p.1, .int (p.2 : Nat)]
def dfD (n : Nat) : D := .tuple [.none, .int (n : Nat)]
def wrD (r : WR) : D := .tuple (r.ms.map mkD ++ [dfD r.df])
def wtD (ws : List WR) (bad : List Int) : D := .tuple [.str "watch", .tuple (ws.map wrD), .tuple (bad.map PyData.int)]
def inSh (m : Str) (sh : List Str) : Bool := sh.any fun z => decide (z = m)
def nextW (r : WR) (sh : List Str) : Nat := ((r.ms.find? fun p => inSh p.1 sh).map (·.2)).getD r.df
def wr0 : WR := ⟨[], 0⟩
structure WtOk (ws : List WR) (bad : List Int) : Prop where
  ne : 0 < ws.length
  len : ws.length ≤ 6
  ml : ∀ r ∈ ws, r.ms.length ≤ 10
  to : ∀ r ∈ ws, (∀ p ∈ r.ms, p.2 < ws.length) ∧ r.df < ws.length
  bl : bad.length ≤ 12
theorem WtOk.next {ws : List WR} {bad : List Int} (h : WtOk ws bad) {r : WR} (hr : r ∈ ws) (sh : List Str) : nextW r sh < ws.length := by
  unfold nextW
  cases hf : r.ms.find? fun p => inSh p.1 sh with
  | none => exact (h.to r hr).2
  | some p => exact (h.to r hr).1 p (List.mem_of_find?_eq_some hf)
theorem wt_at {ws : List WR} {k : Nat} {r : WR} (h : ws[k]? = some r) : atI (ws.map wrD) (k : Int) = some (wrD r) := atI_of (by rw [List.getElem?_map, h]; rfl)
theorem in_sh (m : Str) (sh : List Str) : inD (.str m) (strsD sh) = some (.bool (inSh m sh)) := by
  show ((strsOf (sh.map PyData.str)).map fun zs => zs.any fun z => decide (z = m)).map PyData.bool = _
  rw [strsOf_map]
  rfl
theorem in_ints (i : Int) (l : List Int) : inD (.int i) (.tuple (l.map PyData.int)) = some (.bool (l.any fun z => decide (z = i))) := by
  show ((intsOf (l.map PyData.int)).map fun zs => zs.any fun z => decide (z = i)).map PyData.bool = _
  rw [intsOf_map]
  rfl
def inBad (i : Int) (l : List Int) : Bool := l.any fun z => decide (z = i)
theorem find_snoc {α : Type} {p : α → Bool} {l : List α} {i : Nat} {x : α} (hx : l[i]? = some x) (h : (l.take i).find? p = none) : (l.take (i + 1)).find? p = if p x then some x else none := by
  rw [List.take_add_one, hx, List.find?_append, h]
  show (none : Option α).or ([x].find? p) = _
  rw [Option.none_or]
  show (match p x with | true => some x | false => List.find? p []) = _
  cases p x <;> rfl
theorem find_hit {α : Type} {p : α → Bool} {l : List α} {i : Nat} {x : α} (hx : l[i]? = some x) (h : (l.take i).find? p = none) (hp : p x = true) : l.find? p = some x := by
  have e : l = l.take (i + 1) ++ l.drop (i + 1) := (List.take_append_drop ..).symm
  rw [e, List.find?_append, find_snoc hx h, if_pos hp]
  rfl
theorem cut_last {α : Type} (xs : List α) (x : α) : cutG (xs ++ [x]) none (some (-1)) = xs := by
  have h : cutG (xs ++ [x]) none (some (-1)) = ((xs ++ [x]).drop 0).take (xs.length - 0) := by
    unfold cutG
    congr 1
    simp [HT.sIx]
    omega
  rw [h, List.drop_zero, Nat.sub_zero, List.take_left]
/-- the program's step of a watch -/
theorem next_place_ok {ws : List WR} {bad : List Int} {k : Nat} {r : WR} (hk : ws[k]? = some r) (sh : List Str) (R : Sl → List Sl → Prop) (h : R (.v (.int (nextW r sh : Nat))) [.u, .u, .u]) : fw m_next_place [.v (wtD ws bad), .v (.int (k : Nat)), .v (strsD sh)] R := by
  have g1 := wt_at hk
  refine u_next_place ?_
  unfold b_next_place
  walk_at "fxs"
  refine uop_cutT ?_
  rw [cut_last]
  walk_at "fxs"
  refine wp_forL (fun i ρ => (r.ms.take i).find? (fun p => inSh p.1 sh) = none ∧ ∃ z1 z2, ρ = [.v (wtD ws bad), .v (.int (k : Nat)), .v (strsD sh), .v (wrD r), z1, z2]) ⟨rfl, _, _, rfl⟩ ?_ ?_
  · rintro i x ρ hx ⟨hf, z1, z2, rfl⟩
    rw [List.getElem?_map] at hx
    obtain ⟨p, hp, rfl⟩ := Option.map_eq_some_iff.mp hx
    refine ⟨_, rfl, ?_⟩
    walk_at "fxs"
    refine bop_is (in_sh p.1 sh) ?_
    walk_at "fxs"
    refine ⟨fun hc => ?_, fun hc => ?_⟩
    · have e : nextW r sh = p.2 := by unfold nextW; rw [find_hit hp hf hc]; rfl
      rw [e] at h
      walk_at "fxs"
      exact h
    · walk_at "fxs"
      exact ⟨by rw [find_snoc hp hf, if_neg (by rw [hc]; decide)], _, _, rfl⟩
  · rintro ρ ⟨hf, z1, z2, rfl⟩
    rw [List.length_map, List.take_length] at hf
    have e : nextW r sh = r.df := by unfold nextW; rw [hf]; rfl
    rw [e] at h
    walk_at "fxs"
    refine bop_ixT (atI_last _ _) ?_
    walk_at "fxs"
    exact h
/-- the law's own -/
theorem watch_step_ok {ws : List WR} {bad : List Int} {k : Nat} {r : WR} (hk : ws[k]? = some r) (sh : List Str) (R : Sl → List Sl → Prop) (h : R (.v (.int (nextW r sh : Nat))) [.u, .u, .u]) : fw m__law_watch_step [.v (wtD ws bad), .v (.int (k : Nat)), .v (strsD sh)] R := by
  have g1 := wt_at hk
  refine u__law_watch_step ?_
  unfold b__law_watch_step
  walk_at "fxs"
  refine wp_forL (fun i ρ => (i ≤ r.ms.length ∧ (r.ms.take i).find? (fun p => inSh p.1 sh) = none) ∧ ∃ z1 z2, ρ = [.v (wtD ws bad), .v (.int (k : Nat)), .v (strsD sh), z1, z2]) ⟨⟨Nat.zero_le _, rfl⟩, _, _, rfl⟩ ?_ ?_
  · rintro i x ρ hx ⟨⟨hi, hf⟩, z1, z2, rfl⟩
    by_cases hlt : i < r.ms.length
    · rw [List.getElem?_append_left (by rw [List.length_map]; exact hlt), List.getElem?_map] at hx
      obtain ⟨p, hp, rfl⟩ := Option.map_eq_some_iff.mp hx
      refine ⟨_, rfl, ?_⟩
      walk_at "fxd"
      refine bop_is (in_sh p.1 sh) ?_
      walk_at "fxs"
      refine ⟨fun hc => ?_, fun hc => ?_⟩
      · have e : nextW r sh = p.2 := by unfold nextW; rw [find_hit hp hf hc]; rfl
        rw [e] at h
        walk_at "fxs"
        exact h
      · walk_at "fxs"
        exact ⟨⟨hlt, by rw [find_snoc hp hf, if_neg (by rw [hc]; decide)]⟩, _, _, rfl⟩
    · have e : i = r.ms.length := by omega
      subst e
      rw [List.getElem?_append_right (by rw [List.length_map]; exact Nat.le_refl _), List.length_map, Nat.sub_self] at hx
      cases hx
      rw [List.take_length] at hf
      have e : nextW r sh = r.df := by unfold nextW; rw [hf]; rfl
      rw [e] at h
      refine ⟨_, rfl, ?_⟩
      walk_at "fxd"
      exact h
  · rintro ρ ⟨⟨hi, _⟩, _⟩
    rw [List.length_append, List.length_map] at hi
    exact absurd hi (by show ¬ r.ms.length + 1 ≤ _; omega)
/-! pairs, and dicts of them -/
def pairD (q : Int × Int) : D := .tuple [.int q.1, .int q.2]
theorem eqv_pair (a b : Int × Int) : PyData.eqv (pairD a) (pairD b) = decide (a = b) := by
  have e := eqv_ints [a.1, a.2] [b.1, b.2]
  refine e.trans ?_
  rw [Bool.eq_iff_iff, decide_eq_true_iff, decide_eq_true_iff]
  constructor
  · intro h
    injection h with h1 h2
    injection h2 with h2 _
    exact Prod.ext h1 h2
  · rintro rfl; rfl
theorem keyT_pair (q : Int × Int) : keyT (pairD q) = true := rfl
/-- the keys of a dict of pairs -/
structure KnOk (kvs : List (D × D)) (S : List (Int × Int)) : Prop where
  ks : ∀ e ∈ kvs, ∃ q, e.1 = pairD q
  has : ∀ q, hasD kvs (pairD q) = decide (q ∈ S)
  len : kvs.length ≤ S.length
theorem KnOk.nil : KnOk [] [] := ⟨fun e h => (by cases h), fun q => rfl, Nat.le_refl _⟩
theorem KnOk.fit {kvs : List (D × D)} {S : List (Int × Int)} (h : KnOk kvs S) (q : Int × Int) : keyFit kvs (pairD q) = true := by
  show (keyT (pairD q) && kvs.all fun e => keyT e.1) = true
  rw [keyT_pair, Bool.true_and]
  exact List.all_eq_true.mpr fun e he => by
    obtain ⟨p, hp⟩ := h.ks e he
    rw [hp]; exact keyT_pair p
theorem KnOk.put {kvs : List (D × D)} {S : List (Int × Int)} (h : KnOk kvs S) (q : Int × Int) (v : D) : KnOk (putD kvs (pairD q) v) (S ++ [q]) := by
  refine ⟨fun e he => ?_, fun p => ?_, ?_⟩
  · unfold putD at he
    split at he
    · obtain ⟨x, hx, rfl⟩ := List.mem_map.mp he
      obtain ⟨p, hp⟩ := h.ks x hx
      split
      · exact ⟨p, hp⟩
      · exact ⟨p, hp⟩
    · rcases List.mem_append.mp he with z | z
      · exact h.ks e z
      · rw [List.mem_singleton.mp z]; exact ⟨q, rfl⟩
  · have hp := h.has p
    unfold putD
    split
    · rename_i hh
      rw [h.has q] at hh
      have hq : q ∈ S := of_decide_eq_true hh
      have e1 : (hasD (kvs.map fun e => if PyData.eqv e.1 (pairD q) = true then (e.1, v) else e) (pairD p)) = hasD kvs (pairD p) := by
        unfold hasD
        rw [List.any_map]
        congr 1
        funext e
        show PyData.eqv (if PyData.eqv e.1 (pairD q) = true then (e.1, v) else e).1 (pairD p) = _
        split <;> rfl
      rw [e1, hp]
      congr 1
      rw [List.mem_append, List.mem_singleton]
      exact propext ⟨.inl, fun z => z.elim id fun y => by rw [y]; exact hq⟩
    · have e1 : hasD (kvs ++ [(pairD q, v)]) (pairD p) = (hasD kvs (pairD p) || decide (q = p)) := by
        unfold hasD
        rw [List.any_append]
        show (_ || (PyData.eqv (pairD q) (pairD p) || false)) = _
        rw [eqv_pair, Bool.or_false]
      rw [e1, hp, Bool.eq_iff_iff, Bool.or_eq_true, decide_eq_true_iff, decide_eq_true_iff, decide_eq_true_iff, List.mem_append, List.mem_singleton]
      exact ⟨fun z => z.imp id Eq.symm, fun z => z.imp id Eq.symm⟩
  · have := putD_len kvs (pairD q) v
    have := h.len
    rw [List.length_append, List.length_singleton]
    omega
theorem KnOk.isin {kvs : List (D × D)} {S : List (Int × Int)} (h : KnOk kvs S) (q : Int × Int) : inD (pairD q) (.dict kvs) = some (.bool (decide (q ∈ S))) := by
  show (if keyFit kvs (pairD q) then some (hasD kvs (pairD q)) else none).map PyData.bool = _
  rw [if_pos (h.fit q), h.has]; rfl
theorem KnOk.notin {kvs : List (D × D)} {S : List (Int × Int)} (h : KnOk kvs S) (q : Int × Int) : notInD (pairD q) (.dict kvs) = some (.bool (!decide (q ∈ S))) := by
  show (if keyFit kvs (pairD q) then some (hasD kvs (pairD q)) else none).map (fun b => PyData.bool (!b)) = _
  rw [if_pos (h.fit q), h.has]; rfl
end
section
variable {B : Int} {rows : List (List Br)} {ws : List WR} {bad : List Int}
theorem row_at {k : Nat} {r : List Br} (h : rows[k]? = some r) : atI (rows.map rowD) (k : Int) = some (rowD r) := atI_of (by rw [List.getElem?_map, h]; rfl)
def Fine (rows : List (List Br)) (ws : List WR) (bad : List Int) (P : List (Int × Int)) (q : Int × Int) : Prop :=
  ∃ (s k : Nat) (r : List Br) (w : WR), q = ((s : Int), (k : Int)) ∧ rows[s]? = some r ∧ ws[k]? = some w ∧ inBad q.2 bad = false ∧ ∀ b ∈ r, ((b.to : Int), ((nextW w b.sh : Nat) : Int)) ∈ P
def Closed (rows : List (List Br)) (ws : List WR) (bad : List Int) (P : List (Int × Int)) : Prop := (0, 0) ∈ P ∧ ∀ q ∈ P, Fine rows ws bad P q
noncomputable def clsB (rows : List (List Br)) (ws : List WR) (bad : List Int) (P : List (Int × Int)) : Bool := @decide (Closed rows ws bad P) (Classical.propDecidable _)
theorem clsB_t {P : List (Int × Int)} (h : Closed rows ws bad P) : clsB rows ws bad P = true := by unfold clsB; exact @decide_eq_true _ (Classical.propDecidable _) h
theorem clsB_f {P : List (Int × Int)} (h : ¬ Closed rows ws bad P) : clsB rows ws bad P = false := by unfold clsB; exact @decide_eq_false _ (Classical.propDecidable _) h
def prsD (P : List (Int × Int)) : D := .tuple (P.map pairD)
theorem isdec {p : Prop} [Decidable p] (h : p) : decide p = true := decide_eq_true h
theorem judge_holds_ok {P : List (Int × Int)} (hl : rows.length ≤ 100) (hw : ws.length ≤ 100) (hP : P.length ≤ 1000) (R : Sl → List Sl → Prop) (h : R (.v (.bool (clsB rows ws bad P))) [.u, .u, .u]) : fw m_judge_holds [.v (chD B rows), .v (wtD ws bad), .v (prsD P)] R := by
  refine u_judge_holds ?_
  unfold b_judge_holds
  walk_at "fxs"
  refine wp_dc ?_
  walk_at "fxs"
  refine wp_dcT (fun i kvs ρ => KnOk kvs (P.take i) ∧ ρ = [.v (chD B rows), .v (wtD ws bad), .v (prsD P), .u, .u, .u, .u, .u, .u, .u]) ⟨KnOk.nil, rfl⟩ ?_ ?_
  · rintro i x kvs ρ hx ⟨hk, rfl⟩
    rw [List.getElem?_map] at hx
    obtain ⟨q, hq, rfl⟩ := Option.map_eq_some_iff.mp hx
    have hlen := hk.len
    rw [List.length_take] at hlen
    refine ⟨_, rfl, ?_⟩
    walk_at "fxs"
    refine ⟨hk.fit q, by rw [sizeLine_eq]; omega, ?_, rfl⟩
    rw [List.take_add_one, hq]
    exact hk.put q _
  rintro kvs ρ ⟨hk, rfl⟩
  rw [List.length_map, List.take_length] at hk
  walk_at "fxs"
  refine wp_forL (fun i ρ => (∀ (j : Nat) (q : Int × Int), j < i → P[j]? = some q → Fine rows ws bad P q) ∧ ∃ z4 z5 z6 z7 z8, ρ = [.v (chD B rows), .v (wtD ws bad), .v (prsD P), .o (.dd kvs), z4, z5, z6, z7, z8, .u]) ⟨(fun j q hj => absurd hj (Nat.not_lt_zero _)), _, _, _, _, _, rfl⟩ ?_ ?_
  · rintro i x ρ hx ⟨hI, z4, z5, z6, z7, z8, rfl⟩
    rw [List.getElem?_map] at hx
    obtain ⟨q, hq, rfl⟩ := Option.map_eq_some_iff.mp hx
    obtain ⟨s, k⟩ := q
    have bd : ¬ Fine rows ws bad P (s, k) → clsB rows ws bad P = false := fun hn => clsB_f fun f => hn (f.2 _ (List.mem_of_getElem? hq))
    refine ⟨_, rfl, ?_⟩
    walk_at "fxs"
    by_cases h0 : 0 ≤ s
    · refine wd_t (decide_eq_true h0) ?_
      walk_at "fxs"
      rw [List.length_map]
      by_cases h1 : s < (rows.length : Int)
      · refine wd_f (show (!decide (s < (rows.length : Int))) = false by rw [decide_eq_true h1]; rfl) ?_
        walk_at "fxs"
        by_cases h2 : 0 ≤ k
        · refine wd_t (decide_eq_true h2) ?_
          walk_at "fxs"
          rw [List.length_map]
          by_cases h3 : k < (ws.length : Int)
          · refine wd_f (show (!decide (k < (ws.length : Int))) = false by rw [decide_eq_true h3]; rfl) ?_
            walk_at "fxs"
            refine bop_is (in_ints k bad) ?_
            walk_at "fxs"
            refine ⟨fun hc => ?_, fun hc => ?_⟩
            · rw [bd fun ⟨s', k', r, w, e, _, _, g, _⟩ => by rw [show inBad k bad = true from hc] at g; cases g] at h
              walk_at "fxs"
              exact h
            · obtain ⟨sn, rfl⟩ := Int.eq_ofNat_of_zero_le h0
              obtain ⟨kn, rfl⟩ := Int.eq_ofNat_of_zero_le h2
              obtain ⟨r, hr⟩ : ∃ r, rows[sn]? = some r := ⟨_, List.getElem?_eq_getElem (by omega)⟩
              obtain ⟨w, hw'⟩ : ∃ w, ws[kn]? = some w := ⟨_, List.getElem?_eq_getElem (by omega)⟩
              have g1 := row_at hr
              walk_at "fxs"
              refine wp_forL (fun j ρ => (∀ (jj : Nat) (b : Br), jj < j → r[jj]? = some b → ((b.to : Int), ((nextW w b.sh : Nat) : Int)) ∈ P) ∧ ∃ z6 z7 z8, ρ = [.v (chD B rows), .v (wtD ws bad), .v (prsD P), .o (.dd kvs), .v (.int (sn : Nat)), .v (.int (kn : Nat)), z6, z7, z8, .u]) ⟨(fun jj b hj => absurd hj (Nat.not_lt_zero _)), _, _, _, rfl⟩ ?_ ?_
              · rintro j y ρ hy ⟨hJ, z6, z7, z8, rfl⟩
                rw [List.getElem?_map] at hy
                obtain ⟨b, hb, rfl⟩ := Option.map_eq_some_iff.mp hy
                refine ⟨_, rfl, ?_⟩
                walk_at "fxs"
                refine next_place_ok hw' b.sh _ ?_
                walk_at "nf"; walk_at "fxs"
                refine bop_is (hk.notin ((b.to : Int), ((nextW w b.sh : Nat) : Int))) ?_
                walk_at "fxs"
                refine ⟨fun hc2 => ?_, fun hc2 => ?_⟩
                · rw [bd fun ⟨s', k', r', w', e, q1, q2, _, q4⟩ => by
                    injection e with e1 e2
                    have e1 : sn = s' := by omega
                    have e2 : kn = k' := by omega
                    subst e1 e2
                    rw [hr] at q1; cases q1
                    rw [hw'] at q2; cases q2
                    have := q4 b (List.mem_of_getElem? hb)
                    rw [decide_eq_true this] at hc2
                    cases hc2] at h
                  walk_at "fxs"
                  exact h
                · walk_at "fxs"
                  refine ⟨fun jj b' hj hb' => ?_, _, _, _, rfl⟩
                  by_cases e : jj = j
                  · subst e
                    rw [hb] at hb'; cases hb'
                    simpa using hc2
                  · exact hJ jj b' (by omega) hb'
              · rintro ρ ⟨hJ, z6, z7, z8, rfl⟩
                rw [List.length_map] at hJ
                refine ⟨fun j q hj hq' => ?_, _, _, _, _, _, rfl⟩
                by_cases e : j = i
                · subst e
                  rw [hq] at hq'; cases hq'
                  refine ⟨sn, kn, r, w, rfl, hr, hw', hc, fun b hb => ?_⟩
                  obtain ⟨jj, hjj⟩ := List.mem_iff_getElem?.mp hb
                  exact hJ jj b (List.getElem?_eq_some_iff.mp hjj).1 hjj
                · exact hI j q (by omega) hq'
          · refine wd_t (show (!decide (k < (ws.length : Int))) = true by rw [decide_eq_false h3]; rfl) ?_
            rw [bd fun ⟨s', k', r, w, e, _, g, _⟩ => by cases e; have := (List.getElem?_eq_some_iff.mp g).1; omega] at h
            walk_at "fxd"
            exact h
        · refine wd_f (decide_eq_false h2) ?_
          rw [bd fun ⟨s', k', r, w, e, g, _⟩ => by cases e; omega] at h
          walk_at "fxd"
          exact h
      · refine wd_t (show (!decide (s < (rows.length : Int))) = true by rw [decide_eq_false h1]; rfl) ?_
        rw [bd fun ⟨s', k', r, w, e, g, _⟩ => by cases e; have := (List.getElem?_eq_some_iff.mp g).1; omega] at h
        walk_at "fxd"
        exact h
    · refine wd_f (decide_eq_false h0) ?_
      rw [bd fun ⟨s', k', r, w, e, g, _⟩ => by cases e; omega] at h
      walk_at "fxd"
      exact h
  · rintro ρ ⟨hI, z4, z5, z6, z7, z8, rfl⟩
    rw [List.length_map] at hI
    walk_at "fxs"
    refine bop_is (hk.isin (0, 0)) ?_
    walk_at "fxs"
    by_cases h0 : ((0 : Int), (0 : Int)) ∈ P
    · rw [clsB_t ⟨h0, fun q hq => by
        obtain ⟨j, hj⟩ := List.mem_iff_getElem?.mp hq
        exact hI j q (List.getElem?_eq_some_iff.mp hj).1 hj⟩] at h
      rw [decide_eq_true h0]
      exact h
    · rw [clsB_f fun f => h0 f.1] at h
      rw [decide_eq_false h0]
      exact h
theorem law_closed_ok {P : List (Int × Int)} (hl : rows.length ≤ 100) (hw : ws.length ≤ 100) (hP : P.length ≤ 1000) (R : Sl → List Sl → Prop) (h : R (.v (.bool (clsB rows ws bad P))) [.u, .u, .u]) : fw m__law_closed [.v (chD B rows), .v (wtD ws bad), .v (prsD P)] R := by
  refine u__law_closed ?_
  unfold b__law_closed
  walk_at "fxs"
  refine wp_forL (fun i ρ => ∃ kvs z4, KnOk kvs (P.take i) ∧ ρ = [.v (chD B rows), .v (wtD ws bad), .v (prsD P), .o (.dd kvs), z4, .u, .u, .u, .u, .u]) ⟨[], _, KnOk.nil, rfl⟩ ?_ ?_
  · rintro i x ρ hx ⟨kvs, z4, hk, rfl⟩
    rw [List.getElem?_map] at hx
    obtain ⟨q, hq, rfl⟩ := Option.map_eq_some_iff.mp hx
    have hlen := hk.len
    rw [List.length_take] at hlen
    refine ⟨_, rfl, ?_⟩
    walk_at "fxs"
    refine wp_putD rfl (hk.fit q) (by rw [sizeLine_eq]; omega) ?_
    walk_at "fxs"
    refine ⟨_, _, ?_, rfl⟩
    rw [List.take_add_one, hq]
    exact hk.put q _
  rintro ρ ⟨kvs, z4, hk, rfl⟩
  rw [List.length_map, List.take_length] at hk
  walk_at "fxs"
  refine bop_is (hk.notin (0, 0)) ?_
  walk_at "fxs"
  by_cases h00 : ((0 : Int), (0 : Int)) ∈ P
  · refine wd_f (show (!decide (((0 : Int), (0 : Int)) ∈ P)) = false by rw [decide_eq_true h00]; rfl) ?_
    walk_at "fxs"
    refine wp_forL (fun i ρ => (∀ (j : Nat) (q : Int × Int), j < i → P[j]? = some q → Fine rows ws bad P q) ∧ ∃ z5 z6 z7 z8 z9, ρ = [.v (chD B rows), .v (wtD ws bad), .v (prsD P), .o (.dd kvs), z4, z5, z6, z7, z8, z9]) ⟨(fun j q hj => absurd hj (Nat.not_lt_zero _)), _, _, _, _, _, rfl⟩ ?_ ?_
    · rintro i x ρ hx ⟨hI, z5, z6, z7, z8, z9, rfl⟩
      rw [List.getElem?_map] at hx
      obtain ⟨q, hq, rfl⟩ := Option.map_eq_some_iff.mp hx
      obtain ⟨s, k⟩ := q
      have bd : ¬ Fine rows ws bad P (s, k) → clsB rows ws bad P = false := fun hn => clsB_f fun f => hn (f.2 _ (List.mem_of_getElem? hq))
      refine ⟨_, rfl, ?_⟩
      walk_at "fxs"
      by_cases h0 : 0 ≤ s
      · refine wd_t (decide_eq_true h0) ?_
        walk_at "fxs"
        rw [List.length_map]
        by_cases h1 : s < (rows.length : Int)
        · refine wd_f (show (!decide (s < (rows.length : Int))) = false by rw [decide_eq_true h1]; rfl) ?_
          walk_at "fxs"
          by_cases h2 : 0 ≤ k
          · refine wd_t (decide_eq_true h2) ?_
            walk_at "fxs"
            rw [List.length_map]
            by_cases h3 : k < (ws.length : Int)
            · refine wd_f (show (!decide (k < (ws.length : Int))) = false by rw [decide_eq_true h3]; rfl) ?_
              walk_at "fxs"
              refine bop_is (in_ints k bad) ?_
              walk_at "fxs"
              refine ⟨fun hc => ?_, fun hc => ?_⟩
              · rw [bd fun ⟨s', k', r, w, e, _, _, g, _⟩ => by rw [show inBad k bad = true from hc] at g; cases g] at h
                walk_at "fxs"
                exact h
              · obtain ⟨sn, rfl⟩ := Int.eq_ofNat_of_zero_le h0
                obtain ⟨kn, rfl⟩ := Int.eq_ofNat_of_zero_le h2
                obtain ⟨r, hr⟩ : ∃ r, rows[sn]? = some r := ⟨_, List.getElem?_eq_getElem (by omega)⟩
                obtain ⟨w, hw'⟩ : ∃ w, ws[kn]? = some w := ⟨_, List.getElem?_eq_getElem (by omega)⟩
                have g1 := row_at hr
                walk_at "fxs"
                refine wp_forL (fun j ρ => (∀ (jj : Nat) (b : Br), jj < j → r[jj]? = some b → ((b.to : Int), ((nextW w b.sh : Nat) : Int)) ∈ P) ∧ ∃ z7 z8 z9, ρ = [.v (chD B rows), .v (wtD ws bad), .v (prsD P), .o (.dd kvs), z4, .v (.int (sn : Nat)), .v (.int (kn : Nat)), z7, z8, z9]) ⟨(fun jj b hj => absurd hj (Nat.not_lt_zero _)), _, _, _, rfl⟩ ?_ ?_
                · rintro j y ρ hy ⟨hJ, z7, z8, z9, rfl⟩
                  rw [List.getElem?_map] at hy
                  obtain ⟨b, hb, rfl⟩ := Option.map_eq_some_iff.mp hy
                  refine ⟨_, rfl, ?_⟩
                  walk_at "fxs"
                  refine watch_step_ok hw' b.sh _ ?_
                  walk_at "nf"; walk_at "fxs"
                  refine bop_is (hk.notin ((b.to : Int), ((nextW w b.sh : Nat) : Int))) ?_
                  walk_at "fxs"
                  refine ⟨fun hc2 => ?_, fun hc2 => ?_⟩
                  · rw [bd fun ⟨s', k', r', w', e, q1, q2, _, q4⟩ => by
                      injection e with e1 e2
                      have e1 : sn = s' := by omega
                      have e2 : kn = k' := by omega
                      subst e1 e2
                      rw [hr] at q1; cases q1
                      rw [hw'] at q2; cases q2
                      have := q4 b (List.mem_of_getElem? hb)
                      rw [decide_eq_true this] at hc2
                      cases hc2] at h
                    walk_at "fxs"
                    exact h
                  · walk_at "fxs"
                    refine ⟨fun jj b' hj hb' => ?_, _, _, _, rfl⟩
                    by_cases e : jj = j
                    · subst e
                      rw [hb] at hb'; cases hb'
                      simpa using hc2
                    · exact hJ jj b' (by omega) hb'
                · rintro ρ ⟨hJ, z7, z8, z9, rfl⟩
                  rw [List.length_map] at hJ
                  refine ⟨fun j q hj hq' => ?_, _, _, _, _, _, rfl⟩
                  by_cases e : j = i
                  · subst e
                    rw [hq] at hq'; cases hq'
                    refine ⟨sn, kn, r, w, rfl, hr, hw', hc, fun b hb => ?_⟩
                    obtain ⟨jj, hjj⟩ := List.mem_iff_getElem?.mp hb
                    exact hJ jj b (List.getElem?_eq_some_iff.mp hjj).1 hjj
                  · exact hI j q (by omega) hq'
            · refine wd_t (show (!decide (k < (ws.length : Int))) = true by rw [decide_eq_false h3]; rfl) ?_
              rw [bd fun ⟨s', k', r, w, e, _, g, _⟩ => by cases e; have := (List.getElem?_eq_some_iff.mp g).1; omega] at h
              walk_at "fxd"
              exact h
          · refine wd_f (decide_eq_false h2) ?_
            rw [bd fun ⟨s', k', r, w, e, g, _⟩ => by cases e; omega] at h
            walk_at "fxd"
            exact h
        · refine wd_t (show (!decide (s < (rows.length : Int))) = true by rw [decide_eq_false h1]; rfl) ?_
          rw [bd fun ⟨s', k', r, w, e, g, _⟩ => by cases e; have := (List.getElem?_eq_some_iff.mp g).1; omega] at h
          walk_at "fxd"
          exact h
      · refine wd_f (decide_eq_false h0) ?_
        rw [bd fun ⟨s', k', r, w, e, g, _⟩ => by cases e; omega] at h
        walk_at "fxd"
        exact h
    · rintro ρ ⟨hI, z5, z6, z7, z8, z9, rfl⟩
      rw [List.length_map] at hI
      walk_at "fxs"
      rw [clsB_t ⟨h00, fun q hq => by
        obtain ⟨j, hj⟩ := List.mem_iff_getElem?.mp hq
        exact hI j q (List.getElem?_eq_some_iff.mp hj).1 hj⟩] at h
      exact h
  · refine wd_t (show (!decide (((0 : Int), (0 : Int)) ∈ P)) = true by rw [decide_eq_false h00]; rfl) ?_
    rw [clsB_f fun f => h00 f.1] at h
    walk_at "fxs"
    exact h
end
theorem filt_pos {α : Type} {p : α → Bool} {r : List α} {t : Nat} {b : α} (hb : r[t]? = some b) (hp : p b = true) : (r.take (t + 1)).filter p = (r.take t).filter p ++ [b] := by
  rw [List.take_add_one, hb, List.filter_append]
  simp [hp]
theorem filt_neg {α : Type} {p : α → Bool} {r : List α} {t : Nat} {b : α} (hb : r[t]? = some b) (hp : p b = false) : (r.take (t + 1)).filter p = (r.take t).filter p := by
  rw [List.take_add_one, hb, List.filter_append]
  simp [hp]
section
variable {B : Int} {rows : List (List Br)} {ws : List WR} {bad : List Int}
def optB : Option Br → D
  | some x => brD x
  | none => .none
def findB (r : List Br) (blk : List Int) : Option Br := r.find? fun x => decide (x.ds = blk)
def blkD (bs : List (List Int)) : D := .tuple (bs.map intsD)
def brsD (l : List Br) : List D := l.map brD
theorem branch_with_ok (r : List Br) (blk : List Int) (R : Sl → List Sl → Prop) (h : R (.v (optB (findB r blk))) [.u, .u]) : fw m_branch_with [.v (rowD r), .v (intsD blk)] R := by
  refine u_branch_with ?_
  unfold b_branch_with
  walk_at "fxs"
  refine wp_forL (fun i ρ => (r.take i).find? (fun x => decide (x.ds = blk)) = none ∧ ∃ z, ρ = [.v (rowD r), .v (intsD blk), z]) ⟨rfl, _, rfl⟩ ?_ ?_
  · rintro i x ρ hx ⟨hf, z, rfl⟩
    rw [List.getElem?_map] at hx
    obtain ⟨b, hb, rfl⟩ := Option.map_eq_some_iff.mp hx
    refine ⟨_, rfl, ?_⟩
    walk_at "fxs"
    refine bop_eq_intsD ?_
    walk_at "fxs"
    refine ⟨fun hc => ?_, fun hc => ?_⟩
    · have e : findB r blk = some b := find_hit hb hf hc
      rw [e] at h
      walk_at "fxs"
      exact h
    · walk_at "fxs"
      exact ⟨by rw [find_snoc hb hf, if_neg (by rw [hc]; decide)], _, rfl⟩
  · rintro ρ ⟨hf, z, rfl⟩
    rw [List.length_map, List.take_length] at hf
    rw [show findB r blk = none from hf] at h
    walk_at "fxs"
    exact h
/-- the walk along blocks: the state and the branches -/
def stepS (rows : List (List Br)) (o : Option (Nat × List Br)) (blk : List Int) : Option (Nat × List Br) := o.bind fun x => (findB (rows.getD x.1 []) blk).map fun b => (b.to, x.2 ++ [b])
def walkS (rows : List (List Br)) (bs : List (List Int)) : Option (Nat × List Br) := bs.foldl (stepS rows) (some (0, []))
theorem walkS_snoc (bs : List (List Int)) (b : List Int) : walkS rows (bs ++ [b]) = stepS rows (walkS rows bs) b := by unfold walkS; rw [List.foldl_append]; rfl
theorem step_none : ∀ bs : List (List Int), bs.foldl (stepS rows) none = none
  | [] => rfl
  | b :: bs => step_none bs
theorem walkS_none {bs : List (List Int)} {i : Nat} {b : List Int} (hb : bs[i]? = some b) (h : stepS rows (walkS rows (bs.take i)) b = none) : walkS rows bs = none := by
  have e : bs = bs.take (i + 1) ++ bs.drop (i + 1) := (List.take_append_drop ..).symm
  have e2 : bs.take (i + 1) = bs.take i ++ [b] := by rw [List.take_add_one, hb]; rfl
  rw [e2] at e
  have h1 : walkS rows (bs.take i ++ [b]) = none := by rw [walkS_snoc]; exact h
  rw [e]
  unfold walkS at h1 ⊢
  rw [List.foldl_append, h1]
  exact step_none _
def wgo (ws : List WR) (bad : List Int) (x : Nat × Bool) (b : Br) : Nat × Bool := (nextW (ws.getD x.1 wr0) b.sh, x.2 || inBad (nextW (ws.getD x.1 wr0) b.sh : Nat) bad)
def fellG (ws : List WR) (bad : List Int) (l : List Br) : Nat × Bool := l.foldl (wgo ws bad) (0, inBad 0 bad)
theorem fell_snoc (l : List Br) (b : Br) : fellG ws bad (l ++ [b]) = wgo ws bad (fellG ws bad l) b := by unfold fellG; rw [List.foldl_append]; rfl
theorem fell_lt (hw : WtOk ws bad) (l : List Br) : (fellG ws bad l).1 < ws.length := by
  suffices ∀ (l : List Br) (x : Nat × Bool), x.1 < ws.length → (l.foldl (wgo ws bad) x).1 < ws.length from this l _ hw.ne
  intro l
  induction l with
  | nil => intro x h; exact h
  | cons b l ih =>
    intro x h
    refine ih _ ?_
    show nextW (ws.getD x.1 wr0) b.sh < _
    rw [List.getD_eq_getElem?_getD, List.getElem?_eq_getElem h]
    exact hw.next (List.getElem_mem h) _
def brkB (rows : List (List Br)) (ws : List WR) (bad : List Int) (bs : List (List Int)) : Bool := match walkS rows bs with
  | some x => (fellG ws bad x.2).2
  | none => false
theorem walk_lt (h : ChOk B rows) {bs : List (List Int)} {x : Nat × List Br} (e : walkS rows bs = some x) : x.1 < rows.length ∧ x.2.length = bs.length := by
  suffices ∀ (bs : List (List Int)) (x y : Nat × List Br), x.1 < rows.length → bs.foldl (stepS rows) (some x) = some y → y.1 < rows.length ∧ y.2.length = x.2.length + bs.length by
    have := this bs _ _ (show ((0, []) : Nat × List Br).1 < rows.length from List.length_pos_iff.mpr h.ne) e
    exact ⟨this.1, by rw [this.2]; exact Nat.zero_add _⟩
  intro bs
  induction bs with
  | nil => intro x y hx e; cases e; exact ⟨hx, rfl⟩
  | cons b bs ih =>
    intro x y hx e
    have e : bs.foldl (stepS rows) ((findB (rows.getD x.1 []) b).map fun c => (c.to, x.2 ++ [c])) = some y := e
    cases hf : findB (rows.getD x.1 []) b with
    | none => rw [hf] at e; rw [show (none : Option Br).map (fun c => (c.to, x.2 ++ [c])) = none from rfl, step_none] at e; cases e
    | some c =>
      rw [hf] at e
      have hm : c ∈ rows.getD x.1 [] := List.mem_of_find?_eq_some hf
      have hr : rows.getD x.1 [] ∈ rows := by rw [List.getD_eq_getElem?_getD, List.getElem?_eq_getElem hx]; exact List.getElem_mem hx
      have := ih _ y (show (c.to, x.2 ++ [c]).1 < rows.length from h.to _ hr c hm) e
      refine ⟨this.1, this.2.trans ?_⟩
      rw [List.length_append, List.length_cons, List.length_cons]
      show x.2.length + 1 + bs.length = x.2.length + (bs.length + 1)
      omega
theorem branches_along_ok (hC : ChOk B rows) {bs : List (List Int)} (hbs : bs.length ≤ 1000) (R : Sl → List Sl → Prop) (h : R (.v (match walkS rows bs with | some x => .list (brsD x.2) | none => .none)) [.u, .u, .u]) : fw m_branches_along [.v (chD B rows), .v (.int 0), .v (blkD bs)] R := by
  refine u_branches_along ?_
  unfold b_branches_along
  walk_at "fxs"
  refine wp_forL (fun i ρ => ∃ x z5 z6, walkS rows (bs.take i) = some x ∧ ρ = [.v (chD B rows), .v (.int 0), .v (blkD bs), .o (.lst (brsD x.2)), .v (.int (x.1 : Nat)), z5, z6]) ⟨(0, []), _, _, rfl, rfl⟩ ?_ ?_
  · rintro i x ρ hx ⟨⟨s, l⟩, z5, z6, hw, rfl⟩
    rw [List.getElem?_map] at hx
    obtain ⟨b, hb, rfl⟩ := Option.map_eq_some_iff.mp hx
    obtain ⟨hs, hll⟩ := walk_lt hC hw
    have hs : s < rows.length := hs
    have hll : l.length = (bs.take i).length := hll
    rw [List.length_take] at hll
    obtain ⟨r, hr⟩ : ∃ r, rows[s]? = some r := ⟨_, List.getElem?_eq_getElem hs⟩
    have g1 := row_at hr
    have gd : rows.getD s [] = r := by rw [List.getD_eq_getElem?_getD, hr]; rfl
    refine ⟨_, rfl, ?_⟩
    walk_at "fxs"
    refine branch_with_ok r b _ ?_
    walk_at "nf"; walk_at "fxs"
    cases hf : findB r b with
    | none =>
      have : walkS rows bs = none := walkS_none hb (by rw [hw]; show (findB (rows.getD s []) b).map _ = none; rw [gd, hf]; rfl)
      rw [this] at h
      walk_at "fxd"
      exact h
    | some c =>
      walk_at "fxd"
      refine wp_push rfl (by rw [sizeLine_eq]; unfold brsD; rw [List.length_map]; omega) ?_
      walk_at "fxs"
      refine ⟨(c.to, l ++ [c]), _, _, ?_, by show [_, _, _, _, _, _, _] = [_, _, _, Sl.o (.lst ((l ++ [c]).map brD)), _, _, _]; rw [List.map_append]; rfl⟩
      rw [List.take_add_one, hb]
      show walkS rows (bs.take i ++ [b]) = _
      rw [walkS_snoc, hw]
      show (findB (rows.getD s []) b).map _ = _
      rw [gd, hf]
      rfl
  · rintro ρ ⟨x, z5, z6, hw, rfl⟩
    rw [List.length_map, List.take_length] at hw
    rw [hw] at h
    walk_at "fxs"
    exact h
theorem judge_breaks_ok (hC : ChOk B rows) (hW : WtOk ws bad) {bs : List (List Int)} (hbs : bs.length ≤ 1000) (R : Sl → List Sl → Prop) (h : R (.v (.bool (brkB rows ws bad bs))) [.u, .u, .u]) : fw m_judge_breaks [.v (chD B rows), .v (wtD ws bad), .v (blkD bs)] R := by
  refine u_judge_breaks ?_
  unfold b_judge_breaks
  walk_at "fxs"
  refine branches_along_ok hC hbs _ ?_
  unfold brkB at h
  cases hw : walkS rows bs with
  | none =>
    rw [hw] at h
    walk_at "nf"; walk_at "fxd"
    exact h
  | some x =>
    rw [hw] at h
    obtain ⟨s, l⟩ := x
    walk_at "nf"; walk_at "fxd"
    refine bop_is (in_ints 0 bad) ?_
    walk_at "fxs"
    refine wp_forL (fun i ρ => ∃ z6 z7 z8, ρ = [.v (chD B rows), .v (wtD ws bad), .v (blkD bs), .v (.list (brsD l)), .v (.int ((fellG ws bad (l.take i)).1 : Nat)), .v (.bool (fellG ws bad (l.take i)).2), z6, z7, z8]) ⟨_, _, _, rfl⟩ ?_ ?_
    · rintro i x ρ hx ⟨z6, z7, z8, rfl⟩
      unfold brsD at hx
      rw [List.getElem?_map] at hx
      obtain ⟨b, hb, rfl⟩ := Option.map_eq_some_iff.mp hx
      have hk := fell_lt hW (l.take i)
      have hkw : ws[(fellG ws bad (l.take i)).1]? = some (ws[(fellG ws bad (l.take i)).1]'hk) := List.getElem?_eq_getElem hk
      have es : fellG ws bad (l.take (i + 1)) = wgo ws bad (fellG ws bad (l.take i)) b := by rw [List.take_add_one, hb]; exact fell_snoc _ _
      have ew : ws.getD (fellG ws bad (l.take i)).1 wr0 = ws[(fellG ws bad (l.take i)).1]'hk := by rw [List.getD_eq_getElem?_getD, hkw]; rfl
      refine ⟨_, rfl, ?_⟩
      walk_at "fxs"
      refine next_place_ok hkw b.sh _ ?_
      walk_at "nf"; walk_at "fxs"
      refine bop_is (in_ints _ bad) ?_
      walk_at "fxs"
      rw [es]
      unfold wgo
      rw [ew]
      refine ⟨fun hc => ?_, fun hc => ?_⟩
      · walk_at "fxs"
        refine ⟨.v (intsD b.ds), .v (strsD b.sh), .v (.int (b.to : Nat)), ?_⟩
        rw [show inBad (nextW (ws[(fellG ws bad (l.take i)).1]'hk) b.sh : Nat) bad = true from hc, Bool.or_true]
        rfl
      · walk_at "fxs"
        refine ⟨.v (intsD b.ds), .v (strsD b.sh), .v (.int (b.to : Nat)), ?_⟩
        rw [show inBad (nextW (ws[(fellG ws bad (l.take i)).1]'hk) b.sh : Nat) bad = false from hc, Bool.or_false]
        rfl
    · rintro ρ ⟨z6, z7, z8, rfl⟩
      rw [show (brsD l).length = l.length from List.length_map _, List.take_length]
      walk_at "fxs"
      exact h
theorem law_broken_ok (hC : ChOk B rows) (hW : WtOk ws bad) {bs : List (List Int)} (hbs : bs.length ≤ 1000) (R : Sl → List Sl → Prop) (h : R (.v (.bool (brkB rows ws bad bs))) [.u, .u, .u]) : fw m__law_broken_by [.v (chD B rows), .v (wtD ws bad), .v (blkD bs)] R := by
  unfold brkB at h
  refine u__law_broken_by ?_
  unfold b__law_broken_by
  walk_at "fxs"
  refine bop_is (in_ints 0 bad) ?_
  walk_at "fxs"
  refine wp_forL (fun i ρ => ∃ x z6 z7, walkS rows (bs.take i) = some x ∧ ρ = [.v (chD B rows), .v (wtD ws bad), .v (blkD bs), .v (.int (x.1 : Nat)), .v (.int ((fellG ws bad x.2).1 : Nat)), .v (.bool (fellG ws bad x.2).2), z6, z7, .u]) ⟨(0, []), _, _, rfl, rfl⟩ ?_ ?_
  · rintro i x ρ hx ⟨⟨s, l⟩, z6, z7, hw, rfl⟩
    rw [List.getElem?_map] at hx
    obtain ⟨b, hb, rfl⟩ := Option.map_eq_some_iff.mp hx
    obtain ⟨hs, hll⟩ := walk_lt hC hw
    have hs : s < rows.length := hs
    obtain ⟨r, hr⟩ : ∃ r, rows[s]? = some r := ⟨_, List.getElem?_eq_getElem hs⟩
    have hrl := hC.rl r (List.mem_of_getElem? hr)
    have g1 := row_at hr
    have gd : rows.getD s [] = r := by rw [List.getD_eq_getElem?_getD, hr]; rfl
    refine ⟨_, rfl, ?_⟩
    walk_at "fxs"
    refine wp_lcL (fun j acc ρ => acc = ((r.take j).filter fun x => decide (x.ds = b)).map brD ∧ ρ = [.v (chD B rows), .v (wtD ws bad), .v (blkD bs), .v (.int (s : Nat)), .v (.int ((fellG ws bad l).1 : Nat)), .v (.bool (fellG ws bad l).2), .v (intsD b), z7, .u]) ⟨rfl, rfl⟩ ?_ ?_
    · rintro j y acc ρ hy ⟨rfl, rfl⟩
      rw [List.getElem?_map] at hy
      obtain ⟨c, hc', rfl⟩ := Option.map_eq_some_iff.mp hy
      refine ⟨_, rfl, ?_⟩
      walk_at "fxs"
      refine bop_eq_intsD ?_
      walk_at "fxs"
      refine ⟨fun hc => ?_, fun hc => ?_⟩
      · walk_at "fxs"
        refine ⟨?_, rfl⟩
        rw [filt_pos hc' hc, List.map_append]
        rfl
      · refine ⟨?_, rfl⟩
        rw [filt_neg hc' hc]
    rintro acc ρ ⟨rfl, rfl⟩
    rw [show (r.map brD).length = r.length from List.length_map _, List.take_length]
    have hfl : (r.filter fun x => decide (x.ds = b)).length ≤ r.length := List.length_filter_le _ _
    refine ⟨lenFit (by rw [List.length_map]; omega), ?_⟩
    have hfind : findB r b = (r.filter fun x => decide (x.ds = b)).head? := by unfold findB; rw [List.head?_filter]
    walk_at "fxs"
    cases hfl2 : r.filter fun x => decide (x.ds = b) with
    | nil =>
      rw [hfl2] at hfind
      have : walkS rows bs = none := walkS_none hb (by rw [hw]; show (findB (rows.getD s []) b).map _ = none; rw [gd, hfind]; rfl)
      rw [this] at h
      walk_at "fxd"
      exact h
    | cons c cs =>
      rw [hfl2] at hfind
      have hfind : findB r b = some c := hfind
      have hk := fell_lt hW l
      have hkw : ws[(fellG ws bad l).1]? = some (ws[(fellG ws bad l).1]'hk) := List.getElem?_eq_getElem hk
      have ew : ws.getD (fellG ws bad l).1 wr0 = ws[(fellG ws bad l).1]'hk := by rw [List.getD_eq_getElem?_getD, hkw]; rfl
      refine wd_f (decide_eq_false (by rw [List.map_cons, List.length_cons]; omega)) ?_
      walk_at "fxs"
      refine bop_ixL (at_head _ _) ?_
      walk_at "fxs"
      refine watch_step_ok hkw c.sh _ ?_
      walk_at "nf"; walk_at "fxs"
      refine bop_ixL (at_head _ _) ?_
      walk_at "fxs"
      have hnx : walkS rows (bs.take (i + 1)) = some (c.to, l ++ [c]) := by
        rw [List.take_add_one, hb]
        show walkS rows (bs.take i ++ [b]) = _
        rw [walkS_snoc, hw]
        show (findB (rows.getD s []) b).map _ = _
        rw [gd, hfind]
        rfl
      have es : fellG ws bad (l ++ [c]) = (nextW (ws[(fellG ws bad l).1]'hk) c.sh, (fellG ws bad l).2 || inBad (nextW (ws[(fellG ws bad l).1]'hk) c.sh : Nat) bad) := by rw [fell_snoc]; unfold wgo; rw [ew]
      have fin : ∀ t : Bool, t = ((fellG ws bad l).2 || inBad (nextW (ws[(fellG ws bad l).1]'hk) c.sh : Nat) bad) → ∃ (x : Nat × List Br) (z6 z7 : Sl), walkS rows (bs.take (i + 1)) = some x ∧ [.v (chD B rows), .v (wtD ws bad), .v (blkD bs), .v (.int (c.to : Nat)), .v (.int (nextW (ws[(fellG ws bad l).1]'hk) c.sh : Nat)), .v (.bool t), .v (intsD b), .v (.list ((c :: cs).map brD)), .u] = [.v (chD B rows), .v (wtD ws bad), .v (blkD bs), .v (.int (x.1 : Nat)), .v (.int ((fellG ws bad x.2).1 : Nat)), .v (.bool (fellG ws bad x.2).2), z6, z7, Sl.u] := fun t ht => ⟨(c.to, l ++ [c]), .v (intsD b), .v (.list ((c :: cs).map brD)), hnx, by show _ = [_, _, _, Sl.v (.int (c.to : Nat)), Sl.v (.int ((fellG ws bad (l ++ [c])).1 : Nat)), Sl.v (.bool (fellG ws bad (l ++ [c])).2), _, _, _]; rw [es, ht]⟩
      refine ⟨fun hc => ?_, fun hc => ?_⟩
      · walk_at "fxs"
        exact fin true (by rw [hc]; rfl)
      · walk_at "fxs"
        refine bop_is (in_ints _ bad) ?_
        walk_at "fxs"
        exact fin _ (by rw [hc]; rfl)
  · rintro ρ ⟨x, z6, z7, hw, rfl⟩
    rw [List.length_map, List.take_length] at hw
    rw [hw] at h
    walk_at "fxs"
    exact h
end
theorem begin_ok (ns : List Int) (hl : ns.length ≤ 63) (R : Sl → List Sl → Prop) (h : ∀ b, Dst b → R (.o b) [.s ns]) : fw m__law_begin [.s ns] R := by
  refine u__law_begin ?_
  unfold b__law_begin
  walk_at "fxs"
  walk_at "nf"
  refine wp_lcT (fun i acc ρ => ρ = [.s ns, .u] ∧ acc = (ns.take i).map PyData.int) ⟨rfl, rfl⟩ ?_ ?_
  · rintro i x acc ρ hx - ⟨rfl, rfl⟩
    rw [List.getElem?_map] at hx
    obtain ⟨n, hn, rfl⟩ := Option.map_eq_some_iff.mp hx
    refine ⟨_, rfl, ?_⟩
    walk_at "fxs"
    refine ⟨rfl, ?_⟩
    rw [List.take_add_one, hn, List.map_append]
    rfl
  · rintro acc ρ hacc ⟨rfl, rfl⟩
    refine ⟨?_, ?_⟩
    · rw [hacc, List.length_map]; exact decide_eq_true (by show ns.length ≤ 2 ^ 24; omega)
    · walk_at "fxs"
      refine h _ ⟨ns.take (ns.map PyData.int).length, 0, 0, 7, rfl, by decide, by decide, by decide⟩
theorem draw_ok (b : Own) (hb : Dst b) (n : Int) (h0 : 0 < n) (hn : n < 2 ^ 100) (R : Sl → List Sl → Prop) (h : ∀ r b', 0 ≤ r → r < n → Dst b' → R (.v (.int r)) [.o b', .u]) : fw m__law_draw [.o b, .v (.int n)] R := by
  obtain ⟨cells, i, f, s, rfl, hi, hf, hs⟩ := hb
  refine u__law_draw ?_
  unfold b__law_draw
  have dn : divFit n = true := Bd.div (k := 100) (by unfold Bd; omega) h0 (by decide)
  have p6 : (0 : Int) < 1 * 2 ^ (6000 : Int).toNat := by rw [Int.one_mul]; exact Int.pow_pos (by decide)
  have out : ∀ a : Int, 0 ≤ a % n ∧ a % n < n := fun a => ⟨Int.emod_nonneg _ (Int.ne_of_gt h0), Int.emod_lt_of_pos _ h0⟩
  walk_at "fxs"
  constructor
  · intro hc
    walk_at "fxs"
    exact h _ _ (out _).1 (out _).2 ⟨cells, i, f / n, s, rfl, hi, Int.ediv_nonneg hf (Int.le_of_lt h0), hs⟩
  · intro hc
    walk_at "fxj"
    refine wp_cut (fun ρ => ∃ (z : Int) (x : Sl), 0 ≤ z ∧ ρ = [.o (.lst [.list (cells.map .int), .int i, .int f, .int s]), .v (.int n), .u, .v (.int z), x]) ?_ ?_
    · walk_at "fxs"
      constructor
      · intro hlt
        have hlt : i < (cells.map PyData.int).length := of_decide_eq_true hlt
        rw [List.length_map] at hlt
        obtain ⟨j, rfl⟩ := Int.eq_ofNat_of_zero_le hi
        have hj : j < cells.length := by omega
        have hg : atI (cells.map PyData.int) (j : Int) = some (.int cells[j]) := atI_of (by rw [List.getElem?_map, List.getElem?_eq_getElem hj]; rfl)
        walk_at "fxs"
        refine ⟨_, _, ?_, rfl⟩
        split <;> omega
      · intro _
        walk_at "fxs"
        exact ⟨0, _, by decide, rfl⟩
    · rintro ρ ⟨z, x, hz, rfl⟩
      walk_at "fxs"
      constructor
      · intro _
        walk_at "fxs"
        exact h _ _ (out _).1 (out _).2 ⟨cells, _, _, s, rfl, by omega, Int.ediv_nonneg (Int.emod_nonneg _ (Int.ne_of_gt p6)) (Int.le_of_lt h0), hs⟩
      · intro _
        walk_at "fxs"
        exact h _ _ (out _).1 (out _).2 ⟨cells, _, f, _, rfl, by omega, hf, Int.emod_nonneg _ (by decide)⟩
theorem rare_ok (b : Own) (hb : Dst b) (n : Int) (h0 : 0 < n) (hn : n < 2 ^ 100) (R : Sl → List Sl → Prop) (h : ∀ t b', Dst b' → R (.v (.bool t)) [.o b', .u]) : fw m__law_rare [.o b, .v (.int n)] R := by
  refine u__law_rare ?_
  unfold b__law_rare
  walk_at "fxs"
  refine draw_ok _ hb _ h0 hn _ fun r b h1 h2 hb => ?_
  walk_at "nf"
  walk_at "fxs"
  exact h _ _ hb
theorem pick_ok (b : Own) (hb : Dst b) (xs : List D) (h0 : xs ≠ []) (hn : xs.length < 2 ^ 100) (R : Sl → List Sl → Prop) (h : ∀ x b', x ∈ xs → Dst b' → R (.v x) [.o b', .u]) : fw m__law_pick [.o b, .v (.list xs)] R := by
  refine u__law_pick ?_
  unfold b__law_pick
  walk_at "fxs"
  have h1 : 0 < xs.length := List.length_pos_iff.mpr h0
  refine draw_ok _ hb _ (by omega) (by omega) _ fun r b h1 h2 hb => ?_
  walk_at "nf"
  obtain ⟨j, rfl⟩ := Int.eq_ofNat_of_zero_le h1
  have hj : j < xs.length := by omega
  have hg : atI xs (j : Int) = some xs[j] := atI_of (List.getElem?_eq_getElem hj)
  walk_at "fxs"
  exact h _ _ (List.getElem_mem hj) hb
def poolT : Str := (Str.ofString "a b2 sum left r k0 carry z9z full tail n m8 aa busy cnt p t4 even2 ab1 head u v2 w lowest high mid ") ++ (Str.ofString "s t e f g h i j k x y q7 deep turn gate l5 next1 o c0 d two zz1 near far9 last ring2 ") ++ (Str.ofString "aaaaaaa8 b c1 top2 net3 row col7 v")
def poolL : List Str := Txt.split poolT (Str.ofString " ")
theorem pool_len : poolL.length = 60 := by decide +kernel
theorem pool_str : ∀ s ∈ poolL, PyData.strOk s = true := by
  have h : poolL.all (fun s => PyData.strOk s) = true := by decide +kernel
  exact fun s hs => (List.all_eq_true.mp h) s hs
theorem pool_ok (R : Sl → List Sl → Prop) (h : R (.o (.lst (poolL.map PyData.str))) []) : fw m__law_pool [] R := by
  refine u__law_pool ?_
  unfold b__law_pool
  refine wp_seq (wp_asgN (wp_c ?_))
  refine wp_seq (wp_asgN (wp_bin (wp_ref rfl (wp_val (wp_c (bop_add_ss (by decide +kernel) ?_))))))
  refine wp_rtN (wp_bin (wp_val (wp_bin (wp_ref rfl (wp_val (wp_c (bop_add_ss (by decide +kernel) (wp_val (wp_c ?_)))))))))
  refine bop_is (z := .lst (poolL.map PyData.str)) ?_ (defK_o h)
  show (if ((Str.ofString " ").length == 0) = false ∧ poolT.length + 2 ≤ sizeLine then some (Own.lst ((Txt.split poolT (Str.ofString " ")).map PyData.str)) else none) = _
  rw [if_pos]
  · rfl
  · exact ⟨by decide +kernel, by decide +kernel⟩
theorem erase_mem {α : Type} {l : List α} {i : Nat} {x : α} (h : x ∈ l.eraseIdx i) : x ∈ l := List.mem_of_mem_eraseIdx h
theorem pop_ok (b : Own) (hb : Dst b) (xs : List D) (h0 : xs ≠ []) (hn : xs.length < 2 ^ 60) (R : Sl → List Sl → Prop) (h : ∀ x b' ys, x ∈ xs → Dst b' → (∀ y ∈ ys, y ∈ xs) → ys.length + 1 = xs.length → R (.v x) [.o b', .o (.lst ys)]) : fw m__law_pop [.o b, .o (.lst xs)] R := by
  refine u__law_pop ?_
  unfold b__law_pop
  have h1 : 0 < xs.length := List.length_pos_iff.mpr h0
  walk_at "fxs"
  refine draw_ok _ hb _ (by omega) (by omega) _ fun r b r1 r2 hb => ?_
  walk_at "nf"
  walk_at "fxs"
  obtain ⟨j, rfl⟩ := Int.eq_ofNat_of_zero_le r1
  have hj : j < xs.length := by omega
  refine wp_popL (j := j) (y := xs[j]) rfl (by omega) (by omega) (seqIndex_of (by omega) (by omega)) (List.getElem?_eq_getElem hj) ?_
  walk_at "fxs"
  exact h _ _ _ (List.getElem_mem hj) hb (fun y hy => erase_mem hy) (by rw [List.length_eraseIdx_of_lt hj]; omega)
theorem shuffledO_ok (b : Own) (hb : Dst b) (xs : List D) (hn : xs.length ≤ 1000) (R : Sl → List Sl → Prop) (h : ∀ ys b', ys.length = xs.length → (∀ y ∈ ys, y ∈ xs) → Dst b' → R (.o (.lst ys)) [.o b', .u]) : fw m__law_shuffled [.o b, .v (.list xs)] R := by
  refine u__law_shuffled ?_
  unfold b__law_shuffled
  walk_at "fxs"
  refine wp_forL (fun i ρ => ∃ (b : Own) (ls fs : List D) (z : Sl), Dst b ∧ i + ls.length = xs.length ∧ fs.length = i ∧ (∀ y ∈ ls, y ∈ xs) ∧ (∀ y ∈ fs, y ∈ xs) ∧ ρ = [.o b, .v (.list xs), .o (.lst ls), .o (.lst fs), z]) ⟨b, xs, [], _, hb, by omega, rfl, fun y hy => hy, (fun y hy => by cases hy), rfl⟩ ?_ ?_
  · rintro i x ρ hx ⟨b, ls, fs, z, hb, h1, h2, h3, h4, rfl⟩
    obtain ⟨hi, rfl⟩ := rngL_get hx
    have hi : i < xs.length := hi
    refine ⟨_, rfl, ?_⟩
    walk_at "fxs"
    refine draw_ok _ hb _ (by omega) (by omega) _ fun r b r1 r2 hb => ?_
    walk_at "nf"
    walk_at "fxs"
    obtain ⟨j, rfl⟩ := Int.eq_ofNat_of_zero_le r1
    have hj : j < ls.length := by omega
    refine wp_popL (j := j) (y := ls[j]) rfl (by omega) (by omega) (seqIndex_of (by omega) (by omega)) (List.getElem?_eq_getElem hj) ?_
    walk_at "fxs"
    refine wp_push rfl (by rw [sizeLine_eq]; omega) ?_
    walk_at "fxs"
    refine ⟨b, _, _, _, hb, ?_, ?_, fun y hy => h3 y (erase_mem hy), ?_, rfl⟩
    · rw [List.length_eraseIdx_of_lt hj]; omega
    · rw [List.length_append, h2]; rfl
    · intro y hy
      rcases List.mem_append.mp hy with z | z
      · exact h4 y z
      · rw [List.mem_singleton.mp z]; exact h3 _ (List.getElem_mem hj)
  · rintro ρ ⟨b, ls, fs, z, hb, h1, h2, h3, h4, rfl⟩
    walk_at "fxs"
    rw [rngL_len] at h1 h2
    exact h _ _ (by rw [h2]; rfl) h4 hb
theorem ixN_nat {n k : Nat} (h : k < n) (hn : n < 2 ^ 60) : ixN n (k : Int) = some k := by
  unfold ixN
  rw [if_pos (by omega), if_pos (by omega), Int.toNat_natCast]
theorem alike_ints : ∀ a b : List Int, PySem.W.alikeAll (a.map PyData.int) (b.map PyData.int) = true
  | [], _ => by simp [PySem.W.alikeAll]
  | _ :: _, [] => by simp [PySem.W.alikeAll]
  | x :: a, y :: b => by
    rw [List.map_cons, List.map_cons]
    unfold PySem.W.alikeAll
    rw [alike_ints a b]
    simp [PySem.W.alike]
/-- rows of ints that can be sorted: one at most, or none empty -/
theorem sortFit_ints {ws : List (List Int)} (hl : ws.length ≤ 100000) (h : ws.length < 2 ∨ ∀ w ∈ ws, w ≠ []) : sortFit (ws.map intsD) = true := by
  unfold sortFit sortKindB
  rw [Bool.and_eq_true, Bool.and_eq_true, Bool.and_eq_true]
  refine ⟨⟨⟨?_, ?_⟩, ?_⟩, ?_⟩
  · rw [List.all_eq_true]
    intro d hd
    obtain ⟨w, _, rfl⟩ := List.mem_map.mp hd
    rw [(intsD_shp w).shaped (by decide)]; rfl
  · rw [List.all_eq_true]
    intro d hd
    rw [List.all_eq_true]
    intro e he
    obtain ⟨w, _, rfl⟩ := List.mem_map.mp hd
    obtain ⟨v, _, rfl⟩ := List.mem_map.mp he
    unfold intsD PySem.W.alike
    exact alike_ints w v
  · rw [Bool.or_eq_true, Bool.or_eq_true]
    rcases h with h | h
    · exact .inl (.inl (decide_eq_true (by rw [List.length_map]; exact h)))
    · refine .inl (.inr ?_)
      rw [List.all_eq_true]
      intro d hd
      obtain ⟨w, hw, rfl⟩ := List.mem_map.mp hd
      cases w with
      | nil => exact absurd rfl (h _ hw)
      | cons x w => rfl
  · exact decide_eq_true (by rw [sizeLine_eq, List.length_map]; omega)
theorem sort_ints (ws : List (List Int)) : ∃ vs : List (List Int), vs.Perm ws ∧ sortD (ws.map intsD) = vs.map intsD := by
  refine ⟨ws.mergeSort (fun a b => PySem.W.dataLe false id (intsD a) (intsD b)), List.mergeSort_perm _ _, ?_⟩
  unfold sortD
  exact (List.map_mergeSort (f := intsD) (r := fun a b => PySem.W.dataLe false id (intsD a) (intsD b)) (s := PySem.W.dataLe false id) (l := ws) (fun a _ b _ => rfl)).symm
theorem Wset.kind {B : Int} {ws : List (List Int)} (h : Wset B ws) : ws.length < 2 ∨ ∀ w ∈ ws, w ≠ [] := by
  by_cases hm : [] ∈ ws
  · left
    match ws, h, hm with
    | [], _, _ => exact Nat.zero_lt_two
    | [a], _, _ => exact Nat.one_lt_two
    | a :: b :: r, h, hm =>
      exfalso
      have e1 := h.pf [] hm a (by simp) List.nil_prefix
      have e2 := h.pf [] hm b (by simp) List.nil_prefix
      have := h.nd
      rw [← e1, ← e2] at this
      simp at this
  · right
    intro w hw e
    exact hm (e ▸ hw)
theorem map_erase {α β : Type} (f : α → β) : ∀ (l : List α) (j : Nat), (l.eraseIdx j).map f = (l.map f).eraseIdx j
  | [], _ => rfl
  | a :: l, 0 => rfl
  | a :: l, j + 1 => by
    rw [List.eraseIdx_cons_succ, List.map_cons, List.map_cons, List.eraseIdx_cons_succ, map_erase f l j]
theorem bop_cat {xs ys : List D} {K : Own → Prop} (hz : xs.length + ys.length ≤ sizeLine) (h : K (.lst (xs ++ ys))) : bop catO (some (.list xs)) (some (.list ys)) K := bop_is (show (if fitS (xs.length + ys.length) then some (Own.lst (xs ++ ys)) else none) = _ by rw [if_pos (show fitS (xs.length + ys.length) = true from decide_eq_true hz)]) h
theorem uop_sort {xs : List D} {K : Own → Prop} (hf : sortFit xs = true) (h : K (.lst (sortD xs))) : uop sortO (some (.list xs)) K := uop_is (show (if sortFit xs then some (Own.lst (sortD xs)) else none) = _ by rw [if_pos hf]) h
theorem words_ok (b : Own) (hb : Dst b) (B : Int) (h2 : 2 ≤ B) (h6 : B ≤ 6) (n : Nat) (hn : n ≤ 4) (R : Sl → List Sl → Prop) (h : ∀ ws b', Wset B ws → ws.length ≤ 1 + 5 * n → Dst b' → R (.v (.list (ws.map intsD))) [.o b', .u, .u]) : fw m__law_words [.o b, .v (.int B), .v (.int (n : Nat))] R := by
  refine u__law_words ?_
  unfold b__law_words
  walk_at "fxs"
  refine wp_forL (fun i ρ => ∃ (b : Own) (ws : List (List Int)) (z1 z2 z3 : Sl), Dst b ∧ Wset B ws ∧ ws.length ≤ 1 + 5 * i ∧ ρ = [.o b, .v (.int B), .v (.int (n : Nat)), .o (.lst (ws.map intsD)), z1, z2, z3, .u]) ⟨b, [[]], _, _, _, hb, Wset.start B, by simp, rfl⟩ ?_ ?_
  · rintro i x ρ hx ⟨b, ws, z1, z2, z3, hb, hw, hl, rfl⟩
    obtain ⟨hi, rfl⟩ := rngL_get hx
    have hpos := List.length_pos_iff.mpr hw.ne
    refine ⟨_, rfl, ?_⟩
    walk_at "fxs"
    rw [List.length_map]
    refine draw_ok _ hb _ (by omega) (by omega) _ fun r b r1 r2 hb => ?_
    walk_at "nf"; walk_at "fxs"
    obtain ⟨j, rfl⟩ := Int.eq_ofNat_of_zero_le r1
    have hj : j < ws.length := by omega
    have hg : (ws.map intsD)[j]? = some (intsD ws[j]) := by rw [List.getElem?_map, List.getElem?_eq_getElem hj]; rfl
    refine bop_ixL (atI_of hg) ?_
    walk_at "fxs"
    rw [List.length_map]
    refine ⟨fun hc => ?_, fun hc => ?_⟩
    · have hc := of_decide_eq_true hc
      walk_at "fxs"
      refine wp_popL (j := j) (y := intsD ws[j]) rfl (by omega) (by omega) (seqIndex_of (by omega) (by rw [List.length_map]; omega)) hg ?_
      walk_at "fxs"
      refine wp_lcT (fun t acc ρ => acc = ((List.range t).map fun (d : Nat) => intsD (ws[j] ++ [(d : Int)])) ∧ ρ = [.o b, .v (.int B), .v (.int (n : Nat)), .o (.lst ((ws.map intsD).eraseIdx j)), .v (.int (0 + i)), .v (.int (j : Nat)), .v (intsD ws[j]), .u]) ⟨rfl, rfl⟩ ?_ ?_
      · rintro t y acc ρ hy - ⟨rfl, rfl⟩
        obtain ⟨ht, rfl⟩ := rngL_get hy
        refine ⟨_, rfl, ?_⟩
        walk_at "fxs"
        refine bop_add_tt (by rw [sizeLine_eq, List.length_map, List.length_singleton]; omega) ?_
        walk_at "fxs"
        refine ⟨?_, rfl⟩
        rw [List.range_succ, List.map_append, show (0 + t : Int) = (t : Nat) by omega]
        show _ ++ [PyData.tuple (ws[j].map PyData.int ++ [PyData.int (t : Nat)])] = _ ++ [intsD (ws[j] ++ [(t : Int)])]
        unfold intsD
        rw [List.map_append]; rfl
      · rintro acc ρ hacc ⟨rfl, rfl⟩
        rw [rngL_len]
        refine ⟨lenFit (by rw [List.length_map, List.length_range]; omega), ?_⟩
        walk_at "fxs"
        have e : (ws.map intsD).eraseIdx j ++ ((List.range B.toNat).map fun (d : Nat) => intsD (ws[j] ++ [(d : Int)])) = (ws.eraseIdx j ++ (digs B).map fun d => ws[j] ++ [d]).map intsD := by
          rw [List.map_append, map_erase, digs, List.map_map, List.map_map]; rfl
        have hle : (ws.eraseIdx j).length + 1 = ws.length := by rw [List.length_eraseIdx_of_lt hj]; omega
        refine bop_cat (by rw [sizeLine_eq, ← map_erase, List.length_map, List.length_map, List.length_range]; omega) ?_
        rw [e]
        walk_at "fxs"
        refine ⟨b, _, _, _, _, hb, hw.open hj (by omega) (by omega), ?_, rfl⟩
        rw [List.length_append, List.length_map]
        have : (digs B).length ≤ 6 := by unfold digs; rw [List.length_map, List.length_range]; omega
        omega
    · walk_at "fxs"
      exact ⟨b, ws, _, _, _, hb, hw, by omega, rfl⟩
  · rintro ρ ⟨b, ws, z1, z2, z3, hb, hw, hl, rfl⟩
    rw [rngL_len] at hl
    walk_at "fxs"
    refine uop_sort (sortFit_ints (by omega) hw.kind) ?_
    walk_at "fxs"
    obtain ⟨vs, p, e⟩ := sort_ints ws
    rw [e]
    exact h vs b (hw.perm p) (by rw [p.length_eq]; omega) hb
structure RowOk (B : Int) (n : Nat) (r : List Br) : Prop where
  ws : Wset B (r.map Br.ds)
  rl : r.length ≤ 40
  to : ∀ b ∈ r, b.to < n
  sh : ∀ b ∈ r, b.sh.length ≤ 10 ∧ ∀ s ∈ b.sh, PyData.strOk s = true
theorem ChOk.of {B : Int} {rows : List (List Br)} (h2 : 2 ≤ B) (h6 : B ≤ 6) (h1 : 1 ≤ rows.length) (hl : rows.length ≤ 40) (h : ∀ r ∈ rows, RowOk B rows.length r) : ChOk B rows :=
  ⟨h2, h6, List.length_pos_iff.mp h1, hl, fun r hr => (h r hr).ws, fun r hr => (h r hr).rl, fun r hr => (h r hr).to, fun r hr => (h r hr).sh⟩
theorem wide_shown_ok (b : Own) (hb : Dst b) (marks : List Str) (h0 : marks ≠ []) (hml : marks.length < 2 ^ 60) (hm : ∀ s ∈ marks, PyData.strOk s = true) (R : Sl → List Sl → Prop) (h : ∀ sh b', sh.length ≤ 10 → (∀ s ∈ sh, PyData.strOk s = true) → Dst b' → R (.v (strsD sh)) [.o b', .u]) : fw m__law_wide_shown [.o b, .v (.list (marks.map PyData.str))] R := by
  refine u__law_wide_shown ?_
  unfold b__law_wide_shown
  walk_at "fxs"
  refine pick_ok _ hb _ (by simp) (by decide) _ fun x b hx hb => ?_
  have key : ∃ n : Nat, x = .int (n : Nat) ∧ n ≤ 6 := by
    simp only [List.mem_cons, List.not_mem_nil, or_false] at hx
    rcases hx with rfl | rfl | rfl | rfl | rfl | rfl | rfl | rfl | rfl
    · exact ⟨0, rfl, by decide⟩
    · exact ⟨0, rfl, by decide⟩
    · exact ⟨1, rfl, by decide⟩
    · exact ⟨1, rfl, by decide⟩
    · exact ⟨1, rfl, by decide⟩
    · exact ⟨2, rfl, by decide⟩
    · exact ⟨2, rfl, by decide⟩
    · exact ⟨3, rfl, by decide⟩
    · exact ⟨6, rfl, by decide⟩
  obtain ⟨n, rfl, hn⟩ := key
  walk_at "nf"; walk_at "fxs"
  refine wp_lcT (fun i acc ρ => ∃ (b : Own) (sh : List Str), Dst b ∧ sh.length = i ∧ (∀ s ∈ sh, PyData.strOk s = true) ∧ acc = sh.map .str ∧ ρ = [.o b, .v (.list (marks.map PyData.str)), .u]) ⟨b, [], hb, rfl, (fun s hs => by cases hs), rfl, rfl⟩ ?_ ?_
  · rintro i y acc ρ hy - ⟨b, sh, hb, hl, hs, rfl, rfl⟩
    refine ⟨_, rfl, ?_⟩
    walk_at "fxs"
    refine pick_ok _ hb _ (by simpa using h0) (by rw [List.length_map]; omega) _ fun x b hx hb => ?_
    obtain ⟨s, hs', rfl⟩ := List.mem_map.mp hx
    walk_at "nf"; walk_at "fxs"
    refine ⟨b, sh ++ [s], hb, by rw [List.length_append, hl]; rfl, fun t ht => ?_, by rw [List.map_append]; rfl, rfl⟩
    rcases List.mem_append.mp ht with ht | ht
    · exact hs t ht
    · rw [List.mem_singleton.mp ht]; exact hm s hs'
  · rintro acc ρ hacc ⟨b, sh, hb, hl, hs, rfl, rfl⟩
    rw [rngL_len] at hl
    refine ⟨lenFit (by rw [List.length_map]; omega), ?_⟩
    walk_at "fxs"
    exact h sh b (by omega) hs hb
theorem row_snoc {B : Int} {n : Nat} {ws : List (List Int)} {rs : List Br} {i : Nat} {w : List Int} (hw : ws[i]? = some w) (h1 : rs.map Br.ds = ws.take i) (h2 : ∀ b ∈ rs, b.to < n ∧ b.sh.length ≤ 10 ∧ ∀ s ∈ b.sh, PyData.strOk s = true) (c : Br) (hc : c.ds = w) (c1 : c.to < n) (c2 : c.sh.length ≤ 10) (c3 : ∀ s ∈ c.sh, PyData.strOk s = true) :
    (rs ++ [c]).map Br.ds = ws.take (i + 1) ∧ ∀ b ∈ rs ++ [c], b.to < n ∧ b.sh.length ≤ 10 ∧ ∀ s ∈ b.sh, PyData.strOk s = true := by
  refine ⟨by rw [List.map_append, h1, List.take_add_one, hw, ← hc]; rfl, fun b hb => ?_⟩
  rcases List.mem_append.mp hb with hb | hb
  · exact h2 b hb
  · rw [List.mem_singleton.mp hb]; exact ⟨c1, c2, c3⟩
theorem row_end {B : Int} {n : Nat} {ws : List (List Int)} {rs : List Br} (hws : Wset B ws) (hl : ws.length ≤ 20) (h1 : rs.map Br.ds = ws.take ws.length) (h2 : ∀ b ∈ rs, b.to < n ∧ b.sh.length ≤ 10 ∧ ∀ s ∈ b.sh, PyData.strOk s = true) : RowOk B n rs := by
  rw [List.take_length] at h1
  have : rs.length = ws.length := by rw [← h1, List.length_map]
  exact ⟨by rw [h1]; exact hws, by omega, fun b hb => (h2 b hb).1, fun b hb => (h2 b hb).2⟩
theorem wide_chain_ok (b : Own) (hb : Dst b) (B : Int) (h2 : 2 ≤ B) (h6 : B ≤ 6) (n : Nat) (h1 : 1 ≤ n) (hn : n ≤ 40) (marks : List Str) (h0 : marks ≠ []) (hml : marks.length < 2 ^ 60) (hm : ∀ s ∈ marks, PyData.strOk s = true) (R : Sl → List Sl → Prop) (h : ∀ rows b', ChOk B rows → rows.length = n → Dst b' → R (.v (chD B rows)) [.o b', .u, .u, .u]) : fw m__law_wide_chain [.o b, .v (.int B), .v (.int (n : Nat)), .v (.list (marks.map PyData.str))] R := by
  refine u__law_wide_chain ?_
  unfold b__law_wide_chain
  walk_at "fxs"
  refine wp_forL (fun i ρ => ∃ (b : Own) (rows : List (List Br)) (z1 z2 z3 : Sl), Dst b ∧ rows.length = i ∧ (∀ r ∈ rows, RowOk B n r) ∧ ρ = [.o b, .v (.int B), .v (.int (n : Nat)), .v (.list (marks.map PyData.str)), .o (.lst (rows.map rowD)), z1, z2, z3]) ⟨b, [], _, _, _, hb, rfl, (fun r hr => by cases hr), rfl⟩ ?_ ?_
  · rintro i x ρ hx ⟨b, rows, z1, z2, z3, hb, hl, hr, rfl⟩
    obtain ⟨hi, rfl⟩ := rngL_get hx
    refine ⟨_, rfl, ?_⟩
    walk_at "fxs"
    refine draw_ok _ hb _ (by decide) (by decide) _ fun k b r1 r2 hb => ?_
    walk_at "nf"; walk_at "fxs"
    obtain ⟨k, rfl⟩ := Int.eq_ofNat_of_zero_le r1
    refine words_ok _ hb B h2 h6 k (by omega) _ fun ws b hws hwl hb => ?_
    walk_at "nf"; walk_at "fxs"
    refine wp_forL (fun j ρ => ∃ (b : Own) (rs : List Br) (z3 : Sl), Dst b ∧ rs.map Br.ds = ws.take j ∧ (∀ b ∈ rs, b.to < n ∧ b.sh.length ≤ 10 ∧ ∀ s ∈ b.sh, PyData.strOk s = true) ∧ ρ = [.o b, .v (.int B), .v (.int (n : Nat)), .v (.list (marks.map PyData.str)), .o (.lst (rows.map rowD)), .v (.int (0 + i)), .o (.lst (rs.map brD)), z3]) ⟨b, [], _, hb, rfl, (fun r hr => by cases hr), rfl⟩ ?_ ?_
    · rintro j y ρ hy ⟨b, rs, z3, hb, g1, g2, rfl⟩
      rw [List.getElem?_map] at hy
      obtain ⟨w, hw, rfl⟩ := Option.map_eq_some_iff.mp hy
      have hjl := (List.getElem?_eq_some_iff.mp hw).1
      have hrsl : rs.length ≤ 20 := by have := congrArg List.length g1; rw [List.length_map, List.length_take] at this; omega
      refine ⟨_, rfl, ?_⟩
      walk_at "fxs"
      refine wide_shown_ok _ hb marks h0 hml hm _ fun sh b s1 s2 hb => ?_
      walk_at "nf"; walk_at "fxs"
      refine draw_ok _ hb _ (by omega) (by omega) _ fun t b t1 t2 hb => ?_
      walk_at "nf"; walk_at "fxs"
      obtain ⟨t, rfl⟩ := Int.eq_ofNat_of_zero_le t1
      refine wp_push rfl (by rw [sizeLine_eq, List.length_map]; omega) ?_
      walk_at "fxs"
      obtain ⟨q1, q2⟩ := row_snoc (B := B) (n := n) hw g1 g2 ⟨w, sh, t⟩ rfl (show t < n by omega) s1 s2
      exact ⟨b, _, .v (intsD w), hb, q1, q2, by rw [List.map_append]; rfl⟩
    · rintro ρ ⟨b, rs, z3, hb, g1, g2, rfl⟩
      rw [List.length_map] at g1
      walk_at "fxs"
      refine wp_push rfl (by rw [sizeLine_eq, List.length_map]; omega) ?_
      walk_at "fxs"
      refine ⟨b, rows ++ [rs], .v (.int (0 + i)), .o (.lst (rs.map brD)), z3, hb, by rw [List.length_append, hl]; rfl, fun r hr' => ?_, by rw [List.map_append]; rfl⟩
      rcases List.mem_append.mp hr' with hr' | hr'
      · exact hr r hr'
      · rw [List.mem_singleton.mp hr']; exact row_end hws (by omega) g1 g2
  · rintro ρ ⟨b, rows, z1, z2, z3, hb, hl, hr, rfl⟩
    rw [rngL_len, Int.toNat_natCast] at hl
    walk_at "fxs"
    exact h rows b (ChOk.of h2 h6 (by omega) (by omega) (by rw [hl]; exact hr)) hl hb
local macro_rules | `(tactic| walk_at "wd2") => `(tactic| first
  | ((with_reducible show bop neD _ _ _); first | refine bop_is (ne_ww (by decide +kernel) (by decide +kernel) false (by decide +kernel)) ?_ | refine bop_is (ne_ww (by decide +kernel) (by decide +kernel) true (by decide +kernel)) ?_ | fail)
  | fail)
local macro_rules | `(tactic| walk_at "fxd") => `(tactic| repeat (first | walk_at "fx" | walk_at "wd" | walk_at "wd2" | fail))
section
variable {B : Int} {rows : List (List Br)} {ws : List WR} {bad : List Int}
/-- a row of a watch drawn so far -/
structure WrOk (n : Nat) (r : WR) : Prop where
  ml : r.ms.length ≤ 10
  to : (∀ p ∈ r.ms, p.2 < n) ∧ r.df < n
theorem WtOk.of (h1 : 0 < ws.length) (h6 : ws.length ≤ 6) (h : ∀ r ∈ ws, WrOk ws.length r) (hb : bad.length ≤ 12) : WtOk ws bad := ⟨h1, h6, fun r hr => (h r hr).ml, fun r hr => (h r hr).to, hb⟩
theorem drawn_watch_ok (b : Own) (hb : Dst b) (marks : List Str) (hm1 : 1 ≤ marks.length) (hm : marks.length ≤ 9) (n : Nat) (h1 : 1 ≤ n) (h6 : n ≤ 6) (R : Sl → List Sl → Prop) (h : ∀ ws bad b', WtOk ws bad → Dst b' → R (.v (wtD ws bad)) [.o b', .u, .u]) : fw m__law_drawn_watch [.o b, .v (.list (marks.map PyData.str)), .v (.int (n : Nat))] R := by
  refine u__law_drawn_watch ?_
  unfold b__law_drawn_watch
  walk_at "fxs"
  refine wp_forL (fun i ρ => ∃ (b : Own) (ws : List WR) (z4 z5 z6 z7 z8 : Sl), Dst b ∧ ws.length = i ∧ (∀ r ∈ ws, WrOk n r) ∧ ρ = [.o b, .v (.list (marks.map PyData.str)), .v (.int (n : Nat)), .o (.lst (ws.map wrD)), z4, z5, z6, z7, z8, .u, .u]) ⟨b, [], _, _, _, _, _, hb, rfl, (fun r hr => by cases hr), rfl⟩ ?_ ?_
  · rintro i x ρ hx ⟨b, ws, z4, z5, z6, z7, z8, hb, hwl, hws, rfl⟩
    obtain ⟨hi, rfl⟩ := rngL_get hx
    refine ⟨_, rfl, ?_⟩
    walk_at "fxj"
    refine wp_cut (fun ρ => ∃ (b : Own) (z4 z8 : Sl) (m : Int), Dst b ∧ 1 ≤ m ∧ m ≤ (marks.length : Int) + 1 ∧ ρ = [.o b, .v (.list (marks.map PyData.str)), .v (.int (n : Nat)), .o (.lst (ws.map wrD)), z4, .o (.lst (marks.map PyData.str)), .o (.lst []), .v (.int m), z8, .u, .u]) ?_ ?_
    · walk_at "fxs"
      refine rare_ok _ hb _ (by decide) (by decide) _ fun t b hb => ?_
      walk_at "nf"; walk_at "fxs"
      rw [List.length_map]
      refine ⟨fun _ => ?_, fun _ => ?_⟩
      · walk_at "fxs"
        exact ⟨b, _, _, _, hb, by omega, Int.le_refl _, by rw [List.length_map]; rfl⟩
      · walk_at "fxs"
        exact ⟨b, _, _, _, hb, by split <;> omega, by split <;> omega, rfl⟩
    rintro ρ ⟨b, z4, z8, m, hb, m1, m2, rfl⟩
    walk_at "fxs"
    refine draw_ok _ hb _ (by omega) (by omega) _ fun q b q1 q2 hb => ?_
    walk_at "nf"; walk_at "fxs"
    refine wp_forL (fun j ρ => j ≤ marks.length ∧ ∃ (b : Own) (ms : List (Str × Nat)) (left : List Str) (z8 : Sl), Dst b ∧ ms.length = j ∧ left.length + j = marks.length ∧ (∀ p ∈ ms, p.2 < n) ∧ ρ = [.o b, .v (.list (marks.map PyData.str)), .v (.int (n : Nat)), .o (.lst (ws.map wrD)), z4, .o (.lst (left.map PyData.str)), .o (.lst (ms.map mkD)), .v (.int m), z8, .u, .u]) ⟨Nat.zero_le _, b, [], marks, _, hb, rfl, rfl, (fun p hp => by cases hp), rfl⟩ ?_ ?_
    · rintro j y ρ hy ⟨hj, b, ms, left, z8, hb, hml, hll, hms, rfl⟩
      obtain ⟨hj2, rfl⟩ := rngL_get hy
      have hj2 : (j : Int) < q := by omega
      refine ⟨_, rfl, ?_⟩
      walk_at "fxs"
      refine pop_ok _ hb _ (by intro e; rw [List.map_eq_nil_iff] at e; rw [e] at hll; have : 0 + j = marks.length := hll; omega) (by rw [List.length_map]; omega) _ fun x b zs hx hb hz hzl => ?_
      walk_at "nf"
      obtain ⟨s, hs, rfl⟩ := List.mem_map.mp hx
      obtain ⟨ts, rfl⟩ : ∃ ts : List Str, zs = ts.map PyData.str := by
        clear hzl
        induction zs with
        | nil => exact ⟨[], rfl⟩
        | cons z zs ih =>
          obtain ⟨ts, rfl⟩ := ih fun y hy => hz y (List.mem_cons_of_mem _ hy)
          obtain ⟨t, _, rfl⟩ := List.mem_map.mp (hz z List.mem_cons_self)
          exact ⟨t :: ts, rfl⟩
      rw [List.length_map, List.length_map] at hzl
      walk_at "fxs"
      refine draw_ok _ hb _ (by omega) (by omega) _ fun t b t1 t2 hb => ?_
      walk_at "nf"; walk_at "fxs"
      obtain ⟨t, rfl⟩ := Int.eq_ofNat_of_zero_le t1
      refine wp_push rfl (by rw [sizeLine_eq, List.length_map]; omega) ?_
      walk_at "fxs"
      refine ⟨by omega, b, ms ++ [(s, t)], ts, _, hb, by rw [List.length_append, hml]; rfl, by omega, fun p hp => ?_, by rw [List.map_append]; rfl⟩
      rcases List.mem_append.mp hp with e | e
      · exact hms p e
      · rw [List.mem_singleton.mp e]; show t < n; omega
    · rintro ρ ⟨hj, b, ms, left, z8, hb, hml, hll, hms, rfl⟩
      walk_at "fxs"
      refine draw_ok _ hb _ (by omega) (by omega) _ fun t b t1 t2 hb => ?_
      walk_at "nf"; walk_at "fxs"
      obtain ⟨t, rfl⟩ := Int.eq_ofNat_of_zero_le t1
      refine bop_add_tt (by rw [sizeLine_eq, List.length_map, List.length_singleton]; omega) ?_
      walk_at "fxs"
      refine wp_push rfl (by rw [sizeLine_eq, List.length_map]; omega) ?_
      walk_at "fxs"
      refine ⟨b, ws ++ [⟨ms, t⟩], _, _, _, _, _, hb, by rw [List.length_append, hwl]; rfl, fun r hr => ?_, by rw [List.map_append]; rfl⟩
      rcases List.mem_append.mp hr with e | e
      · exact hws r e
      · rw [List.mem_singleton.mp e]; exact ⟨by show ms.length ≤ 10; omega, hms, by show t < n; omega⟩
  · rintro ρ ⟨b, ws, z4, z5, z6, z7, z8, hb, hwl, hws, rfl⟩
    rw [rngL_len, Int.toNat_natCast] at hwl
    walk_at "fxs"
    refine draw_ok _ hb _ (by decide) (by decide) _ fun sh b sh1 sh2 hb => ?_
    walk_at "nf"; walk_at "fxs"
    refine wp_lcL (fun j acc ρ => ∃ (b : Own) (bd : List Int), Dst b ∧ bd.length ≤ j ∧ acc = bd.map PyData.int ∧ ρ = [.o b, .v (.list (marks.map PyData.str)), .v (.int (n : Nat)), .o (.lst (ws.map wrD)), .u, z5, z6, z7, z8, .v (.int (2 + sh)), .u]) ⟨b, [], hb, Nat.zero_le _, rfl, rfl⟩ ?_ ?_
    · rintro j y acc ρ hy ⟨b, bd, hb, hbl, rfl, rfl⟩
      obtain ⟨hj, rfl⟩ := rngL_get hy
      refine ⟨_, rfl, ?_⟩
      walk_at "fxs"
      refine draw_ok _ hb _ (by omega) (by omega) _ fun t b t1 t2 hb => ?_
      walk_at "nf"; walk_at "fxs"
      refine ⟨fun _ => ?_, fun _ => ?_⟩
      · walk_at "fxs"
        exact ⟨b, bd ++ [0 + (j : Int)], hb, by rw [List.length_append, List.length_singleton]; omega, by rw [List.map_append]; rfl, rfl⟩
      · exact ⟨b, bd, hb, by omega, rfl, rfl⟩
    · rintro acc ρ ⟨b, bd, hb, hbl, rfl, rfl⟩
      rw [rngL_len, Int.toNat_natCast] at hbl
      refine ⟨lenFit (by rw [List.length_map]; omega), ?_⟩
      walk_at "fxs"
      exact h ws bd b (WtOk.of (by omega) (by omega) (by rw [hwl]; exact hws) (by omega)) hb
end
section
theorem some_watch_ok (b : Own) (hb : Dst b) (marks : List Str) (hm2 : 2 ≤ marks.length) (hm : marks.length ≤ 8) (R : Sl → List Sl → Prop) (h : ∀ ws bad b', WtOk ws bad → Dst b' → R (.v (wtD ws bad)) [.o b', .u, .u]) : fw m__law_some_watch [.o b, .v (.list (marks.map PyData.str)), .v (.int 4)] R := by
  obtain ⟨one, other, more, rfl⟩ : ∃ one other more, marks = one :: other :: more := by
    match marks, hm2 with
    | one :: other :: more, _ => exact ⟨one, other, more, rfl⟩
  refine u__law_some_watch ?_
  unfold b__law_some_watch
  walk_at "fxs"
  refine draw_ok _ hb _ (by decide) (by decide) _ fun way b w1 w2 hb => ?_
  walk_at "nf"; walk_at "fxs"
  refine bop_ixL (at_head _ _) ?_
  walk_at "fxs"
  refine bop_ixL (atI_of (n := 1) rfl) ?_
  walk_at "fxs"
  refine ⟨fun _ => ?_, fun _ => ?_⟩
  · walk_at "fxs"
    refine h [⟨[(one, 1)], 0⟩, ⟨[], 1⟩] [1] b (WtOk.of (Nat.zero_lt_succ _) (by show 2 ≤ 6; decide) (fun r hr => ?_) (by decide)) hb
    simp only [List.mem_cons, List.not_mem_nil, or_false] at hr
    rcases hr with rfl | rfl
    · exact ⟨by show 1 ≤ 10; decide, fun p hp => by rw [List.mem_singleton.mp hp]; exact (by decide : 1 < 2), (by decide : 0 < 2)⟩
    · exact ⟨by decide, (fun p hp => by cases hp), (by decide : 1 < 2)⟩
  walk_at "fxs"
  refine ⟨fun _ => ?_, fun _ => ?_⟩
  · walk_at "fxs"
    refine draw_ok _ hb _ (by decide) (by decide) _ fun n b n1 n2 hb => ?_
    walk_at "nf"; walk_at "fxs"
    obtain ⟨n, rfl⟩ := Int.eq_ofNat_of_zero_le n1
    have hn : n < 4 := by omega
    refine wp_lcT (fun j acc ρ => acc = ((List.range j).map fun (k : Nat) => wrD ⟨[(other, 0)], k + 2⟩) ∧ ρ = [.o b, .v (.list ((one :: other :: more).map PyData.str)), .v (.int 4), .v (.int way), .v (.str one), .v (.str other), .v (.int (1 + (n : Nat))), .u, .u]) ⟨rfl, rfl⟩ ?_ ?_
    · rintro j y acc ρ hy - ⟨rfl, rfl⟩
      obtain ⟨hj, rfl⟩ := rngL_get hy
      refine ⟨_, rfl, ?_⟩
      walk_at "fxs"
      refine ⟨?_, rfl⟩
      rw [List.range_succ, List.map_append]
      show _ = _ ++ [PyData.tuple [.tuple [.str other, .int 0], .tuple [.none, .int ((j + 2 : Nat) : Int)]]]
      rw [show ((j + 2 : Nat) : Int) = 0 + (j : Int) + 2 by omega]
    · rintro acc ρ hacc ⟨rfl, rfl⟩
      rw [rngL_len]
      have e1 : (1 + (n : Int)).toNat = n + 1 := by omega
      rw [e1]
      refine ⟨lenFit (by rw [List.length_map, List.length_range]; omega), ?_⟩
      walk_at "fxs"
      refine bop_add_tt (by rw [sizeLine_eq, List.length_map, List.length_range, List.length_singleton]; omega) ?_
      walk_at "fxs"
      refine bop_add_tt (by rw [sizeLine_eq, List.length_append, List.length_map, List.length_range, List.length_singleton, List.length_singleton]; omega) ?_
      walk_at "fxs"
      have key := h (⟨[(one, 1)], 0⟩ :: ((List.range (n + 1)).map fun (k : Nat) => (⟨[(other, 0)], k + 2⟩ : WR)) ++ [⟨[], n + 2⟩]) [((n + 2 : Nat) : Int)] b (WtOk.of (by simp) (by simp; omega) (fun r hr => ?_) (by show 1 ≤ 12; decide)) hb
      · unfold wtD at key
        rw [List.map_append, List.map_cons, List.map_map] at key
        rw [show (1 : Int) + (n : Nat) + 1 = ((n + 2 : Nat) : Int) by omega]
        exact key
      · simp only [List.length_append, List.length_cons, List.length_map, List.length_range, List.length_nil]
        rcases List.mem_append.mp hr with e | e
        · rcases List.mem_cons.mp e with e | e
          · rw [e]; exact ⟨by show 1 ≤ 10; decide, fun p hp => by rw [List.mem_singleton.mp hp]; show 1 < _; omega, by show 0 < _; omega⟩
          · obtain ⟨k, hk, rfl⟩ := List.mem_map.mp e
            have := List.mem_range.mp hk
            exact ⟨by show 1 ≤ 10; decide, fun p hp => by rw [List.mem_singleton.mp hp]; show 0 < _; omega, by show k + 2 < _; omega⟩
        · rw [List.mem_singleton.mp e]; exact ⟨by show 0 ≤ 10; decide, (fun p hp => by cases hp), by show n + 2 < _; omega⟩
  walk_at "fxs"
  refine ⟨fun _ => ?_, fun _ => ?_⟩
  · walk_at "fxs"
    refine h [⟨[(other, 1), (one, 2)], 0⟩, ⟨[], 1⟩, ⟨[], 2⟩] [2] b (WtOk.of (Nat.zero_lt_succ _) (by show 3 ≤ 6; decide) (fun r hr => ?_) (by decide)) hb
    simp only [List.mem_cons, List.not_mem_nil, or_false] at hr
    rcases hr with rfl | rfl | rfl
    · refine ⟨by show 2 ≤ 10; decide, fun p hp => ?_, (by decide : 0 < 3)⟩
      simp only [List.mem_cons, List.not_mem_nil, or_false] at hp
      rcases hp with rfl | rfl
      · exact (by decide : 1 < 3)
      · exact (by decide : 2 < 3)
    · exact ⟨by decide, (fun p hp => by cases hp), (by decide : 1 < 3)⟩
    · exact ⟨by decide, (fun p hp => by cases hp), (by decide : 2 < 3)⟩
  · walk_at "fxs"
    refine bop_add_ll (by rw [sizeLine_eq, List.length_map, List.length_singleton]; omega) ?_
    walk_at "fxs"
    refine draw_ok _ hb _ (by decide) (by decide) _ fun n b n1 n2 hb => ?_
    walk_at "nf"; walk_at "fxs"
    obtain ⟨n, rfl⟩ := Int.eq_ofNat_of_zero_le n1
    have key := drawn_watch_ok b hb ((one :: other :: more) ++ [Str.ofString "zz"]) (by rw [List.length_append]; show 1 ≤ _ + 1; omega) (by rw [List.length_append]; show _ + 1 ≤ 9; omega) (1 + n) (by omega) (by omega)
    rw [List.map_append, Int.natCast_add 1 n] at key
    refine key _ fun ws bad b hw hb => ?_
    walk_at "nf"; walk_at "fxs"
    exact h ws bad b hw hb
end
section
theorem ladder_ok (b : Own) (hb : Dst b) (B : Int) (h2 : 2 ≤ B) (h6 : B ≤ 6) (n : Nat) (h1 : 1 ≤ n) (hn : n ≤ 40) (marks : List Str) (hm1 : 2 ≤ marks.length) (hml : marks.length ≤ 8) (hm : ∀ s ∈ marks, PyData.strOk s = true) (R : Sl → List Sl → Prop) (h : ∀ rows b', ChOk B rows → rows.length = n → Dst b' → R (.v (chD B rows)) [.o b', .u, .u, .u]) : fw m__law_ladder [.o b, .v (.int B), .v (.int (n : Nat)), .v (.list (marks.map PyData.str))] R := by
  obtain ⟨m0, more, rfl⟩ : ∃ m0 more, marks = m0 :: more := by
    match marks, hm1 with
    | m0 :: more, _ => exact ⟨m0, more, rfl⟩
  have hz : PyData.strOk (Str.ofString "zz") = true := by decide +kernel
  refine u__law_ladder ?_
  unfold b__law_ladder
  walk_at "fxs"
  refine wp_forL (fun i ρ => ∃ (b : Own) (rows : List (List Br)) (z5 z6 z7 z8 z9 z10 z11 : Sl), Dst b ∧ rows.length = i ∧ (∀ r ∈ rows, RowOk B n r) ∧ ρ = [.o b, .v (.int B), .v (.int (n : Nat)), .v (.list ((m0 :: more).map PyData.str)), .o (.lst (rows.map rowD)), z5, z6, z7, z8, z9, z10, z11]) ⟨b, [], _, _, _, _, _, _, _, hb, rfl, (fun r hr => by cases hr), rfl⟩ ?_ ?_
  · rintro i x ρ hx ⟨b, rows, z5, z6, z7, z8, z9, z10, z11, hb, hl, hr, rfl⟩
    obtain ⟨hi, rfl⟩ := rngL_get hx
    rw [Int.zero_add]
    refine ⟨_, rfl, ?_⟩
    walk_at "fxs"
    refine draw_ok _ hb _ (by decide) (by decide) _ fun k b r1 r2 hb => ?_
    walk_at "nf"; walk_at "fxs"
    obtain ⟨k, rfl⟩ := Int.eq_ofNat_of_zero_le r1
    have key := words_ok b hb B h2 h6 (1 + k) (by omega)
    rw [Int.natCast_add 1 k] at key
    refine key _ fun ws b hws hwl hb => ?_
    clear key
    walk_at "nf"; walk_at "fxs"
    have hpos := List.length_pos_iff.mpr hws.ne
    rw [List.length_map]
    refine draw_ok _ hb _ (by omega) (by omega) _ fun up b u1 u2 hb => ?_
    walk_at "nf"; walk_at "fxs"
    rw [List.length_map]
    walk_at "fxs"
    refine wp_forL (fun j ρ => ∃ (b : Own) (rs : List Br) (z9 z10 z11 : Sl), Dst b ∧ rs.map Br.ds = ws.take j ∧ (∀ b ∈ rs, b.to < n ∧ b.sh.length ≤ 10 ∧ ∀ s ∈ b.sh, PyData.strOk s = true) ∧ ρ = [.o b, .v (.int B), .v (.int (n : Nat)), .v (.list ((m0 :: more).map PyData.str)), .o (.lst (rows.map rowD)), .v (.int (i : Nat)), .v (.list (ws.map intsD)), .v (.int up), .o (.lst (rs.map brD)), z9, z10, z11]) ⟨b, [], _, _, _, hb, rfl, (fun r hr => by cases hr), rfl⟩ ?_ ?_
    · rintro j y ρ hy ⟨b, rs, z9, z10, z11, hb, g1, g2, rfl⟩
      obtain ⟨hj, rfl⟩ := rngL_get hy
      rw [Int.zero_add]
      have hjl : j < ws.length := by omega
      obtain ⟨w, hw⟩ : ∃ w, ws[j]? = some w := ⟨_, List.getElem?_eq_getElem hjl⟩
      have gw : atI (ws.map intsD) (j : Int) = some (intsD w) := atI_of (by rw [List.getElem?_map, hw]; rfl)
      have hrsl : rs.length ≤ 20 := by have := congrArg List.length g1; rw [List.length_map, List.length_take] at this; omega
      refine ⟨_, rfl, ?_⟩
      walk_at "fxs"
      refine draw_ok _ hb _ (by omega) (by omega) _ fun t b t1 t2 hb => ?_
      walk_at "nf"
      obtain ⟨t, rfl⟩ := Int.eq_ofNat_of_zero_le t1
      walk_at "fxj"
      refine wp_cut (fun ρ => ∃ (b : Own) (sh : List Str) (t : Nat), Dst b ∧ t < n ∧ sh.length ≤ 10 ∧ (∀ s ∈ sh, PyData.strOk s = true) ∧ ρ = [.o b, .v (.int B), .v (.int (n : Nat)), .v (.list ((m0 :: more).map PyData.str)), .o (.lst (rows.map rowD)), .v (.int (i : Nat)), .v (.list (ws.map intsD)), .v (.int up), .o (.lst (rs.map brD)), .v (.int (j : Nat)), .v (strsD sh), .v (.int (t : Nat))]) ?_ ?_
      · have up' : ∀ b, Dst b → wp (seqM (asgM (min2M (binM addD (refM 5) (valM (cM (.int 1)))) (binM subD (refM 2) (valM (cM (.int 1))))) (nameT 11)) (iteM (tstM (binM eqD (refM 5) (valM (binM subD (refM 2) (valM (cM (.int 1))))))) (asgM (tupM (consM (binM ixD (refM 3) (valM (cM (.int 0)))) (nilM))) (nameT 10)) (skipM))) [.o b, .v (.int B), .v (.int (n : Nat)), .v (.list ((m0 :: more).map PyData.str)), .o (.lst (rows.map rowD)), .v (.int (i : Nat)), .v (.list (ws.map intsD)), .v (.int up), .o (.lst (rs.map brD)), .v (.int (j : Nat)), .v (.tuple []), .v (.int (t : Nat))] (fun f ρ => f = .nx ∧ ∃ (b : Own) (sh : List Str) (t : Nat), Dst b ∧ t < n ∧ sh.length ≤ 10 ∧ (∀ s ∈ sh, PyData.strOk s = true) ∧ ρ = [.o b, .v (.int B), .v (.int (n : Nat)), .v (.list ((m0 :: more).map PyData.str)), .o (.lst (rows.map rowD)), .v (.int (i : Nat)), .v (.list (ws.map intsD)), .v (.int up), .o (.lst (rs.map brD)), .v (.int (j : Nat)), .v (strsD sh), .v (.int (t : Nat))]) := fun b hb => by
          have e : (if (n : Int) - 1 < (i : Int) + 1 then (n : Int) - 1 else (i : Int) + 1) = ((min (i + 1) (n - 1) : Nat) : Int) := by split <;> omega
          walk_at "fxs"
          rw [e]
          refine ⟨fun _ => ?_, fun _ => ?_⟩
          · walk_at "fxs"
            refine bop_ixL (at_head _ _) ?_
            walk_at "fxs"
            exact ⟨rfl, b, [m0], min (i + 1) (n - 1), hb, by omega, by show 1 ≤ 10; decide, fun s hs => by rw [List.mem_singleton.mp hs]; exact hm m0 List.mem_cons_self, rfl⟩
          · walk_at "fxs"
            exact ⟨rfl, b, [], min (i + 1) (n - 1), hb, by omega, Nat.zero_le _, (fun s hs => by cases hs), rfl⟩
        walk_at "fxs"
        refine ⟨fun _ => ⟨fun _ => ?_, fun z => (by cases z)⟩, fun _ => ?_⟩
        · refine wp_mono (up' b hb) ?_
          rintro f ρ ⟨rfl, hP⟩
          exact hP
        · walk_at "fxs"
          refine draw_ok _ hb _ (by decide) (by decide) _ fun q b q1 q2 hb => ?_
          walk_at "nf"; walk_at "fxs"
          refine ⟨fun _ => ?_, fun _ => ?_⟩
          · refine wp_mono (up' b hb) ?_
            rintro f ρ ⟨rfl, hP⟩
            exact hP
          · walk_at "fxs"
            refine draw_ok _ hb _ (by decide) (by decide) _ fun q b q1 q2 hb => ?_
            walk_at "nf"; walk_at "fxs"
            refine ⟨fun _ => ?_, fun _ => ?_⟩
            · walk_at "fxs"
              rw [show ((1 : Int)) = ((1 : Nat) : Int) from rfl]
              refine uop_cutL ?_
              rw [cutG_from]
              walk_at "fxs"
              refine bop_add_ll (by rw [sizeLine_eq, List.length_drop, List.length_map, List.length_singleton]; omega) ?_
              walk_at "fxs"
              refine pick_ok _ hb _ (by simp) (by rw [List.length_append, List.length_drop, List.length_map, List.length_singleton]; omega) _ fun x b hx hb => ?_
              obtain ⟨s, rfl, hs⟩ : ∃ s : Str, x = .str s ∧ PyData.strOk s = true := by
                rcases List.mem_append.mp hx with e | e
                · obtain ⟨s, hs, rfl⟩ := List.mem_map.mp (List.mem_of_mem_drop e)
                  exact ⟨s, rfl, hm s hs⟩
                · exact ⟨_, List.mem_singleton.mp e, hz⟩
              walk_at "nf"; walk_at "fxs"
              exact ⟨b, [s], t, hb, by omega, by show 1 ≤ 10; decide, fun z hz => by rw [List.mem_singleton.mp hz]; exact hs, rfl⟩
            · walk_at "fxs"
              exact ⟨b, [], t, hb, by omega, Nat.zero_le _, (fun s hs => by cases hs), rfl⟩
      · rintro ρ ⟨b, sh, t, hb, ht, s1, s2, rfl⟩
        walk_at "fxs"
        refine wp_push rfl (by rw [sizeLine_eq, List.length_map]; omega) ?_
        walk_at "fxs"
        obtain ⟨q1, q2⟩ := row_snoc (B := B) (n := n) hw g1 g2 ⟨w, sh, t⟩ rfl ht s1 s2
        exact ⟨b, _, _, _, _, hb, q1, q2, by rw [List.map_append]; rfl⟩
    · rintro ρ ⟨b, rs, z9, z10, z11, hb, g1, g2, rfl⟩
      rw [rngL_len, Int.toNat_natCast] at g1
      walk_at "fxs"
      refine wp_push rfl (by rw [sizeLine_eq, List.length_map]; omega) ?_
      walk_at "fxs"
      refine ⟨b, rows ++ [rs], _, _, _, _, _, _, _, hb, by rw [List.length_append, hl]; rfl, fun r hr' => ?_, by rw [List.map_append]; rfl⟩
      rcases List.mem_append.mp hr' with hr' | hr'
      · exact hr r hr'
      · rw [List.mem_singleton.mp hr']; exact row_end hws (by omega) g1 g2
  · rintro ρ ⟨b, rows, z5, z6, z7, z8, z9, z10, z11, hb, hl, hr, rfl⟩
    rw [rngL_len, Int.toNat_natCast] at hl
    walk_at "fxs"
    exact h rows b (ChOk.of h2 h6 (by omega) (by omega) (by rw [hl]; exact hr)) hl hb
theorem some_chain_ok (b : Own) (hb : Dst b) (marks : List Str) (hm1 : 2 ≤ marks.length) (hml : marks.length ≤ 8) (hm : ∀ s ∈ marks, PyData.strOk s = true) (R : Sl → List Sl → Prop) (h : ∀ B rows b', ChOk B rows → rows.length ≤ 20 → Dst b' → R (.v (chD B rows)) [.o b', .u, .u]) : fw m__law_some_chain [.o b, .v (.list (marks.map PyData.str)), .v (.int 20)] R := by
  have hm0 : marks ≠ [] := fun e => by rw [e] at hm1; exact absurd hm1 (by decide)
  refine u__law_some_chain ?_
  unfold b__law_some_chain
  walk_at "fxs"
  refine draw_ok _ hb _ (by decide) (by decide) _ fun bs b b1 b2 hb => ?_
  walk_at "nf"; walk_at "fxj"
  refine wp_cut (fun ρ => ∃ (b : Own) (B : Int), Dst b ∧ 2 ≤ B ∧ B ≤ 6 ∧ ρ = [.o b, .v (.list (marks.map PyData.str)), .v (.int 20), .v (.int B), .u]) ?_ ?_
  · walk_at "fxs"
    refine rare_ok _ hb _ (by decide) (by decide) _ fun t b hb => ?_
    walk_at "nf"; walk_at "fxs"
    refine ⟨fun _ => ?_, fun _ => ?_⟩
    · walk_at "fxs"
      exact ⟨b, 6, hb, by decide, by decide, rfl⟩
    · walk_at "fxs"
      exact ⟨b, 2 + bs, hb, by omega, by omega, rfl⟩
  rintro ρ ⟨b, B, hb, h2, h6, rfl⟩
  walk_at "fxj"
  refine draw_ok _ hb _ (by decide) (by decide) _ fun st b s1 s2 hb => ?_
  walk_at "nf"; walk_at "fxj"
  obtain ⟨st, rfl⟩ := Int.eq_ofNat_of_zero_le s1
  refine wp_cut (fun ρ => ∃ (b : Own) (n : Nat), Dst b ∧ 1 ≤ n ∧ n ≤ 20 ∧ ρ = [.o b, .v (.list (marks.map PyData.str)), .v (.int 20), .v (.int B), .v (.int (n : Nat))]) ?_ ?_
  · walk_at "fxs"
    refine rare_ok _ hb _ (by decide) (by decide) _ fun t b hb => ?_
    walk_at "nf"; walk_at "fxs"
    refine ⟨fun _ => ?_, fun _ => ?_⟩
    · walk_at "fxs"
      exact ⟨b, 20, hb, by decide, by decide, rfl⟩
    · walk_at "fxs"
      exact ⟨b, 1 + st, hb, by omega, by omega, by rw [Int.natCast_add 1 st]; rfl⟩
  rintro ρ ⟨b, n, hb, n1, n2, rfl⟩
  walk_at "fxs"
  refine draw_ok _ hb _ (by decide) (by decide) _ fun q b q1 q2 hb => ?_
  walk_at "nf"; walk_at "fxs"
  refine ⟨fun _ => ?_, fun _ => ?_⟩
  · walk_at "fxs"
    refine ladder_ok b hb B h2 h6 n n1 (by omega) marks hm1 hml hm _ fun rows b hc hl hb => ?_
    walk_at "nf"; walk_at "fxs"
    exact h B rows b hc (by omega) hb
  · walk_at "fxs"
    refine wide_chain_ok b hb B h2 h6 n n1 (by omega) marks hm0 (by omega) hm _ fun rows b hc hl hb => ?_
    walk_at "nf"; walk_at "fxs"
    exact h B rows b hc (by omega) hb
end
section
variable {B : Int} {rows : List (List Br)} {ws : List WR} {bad : List Int}
theorem nd_lt : ∀ (n : Nat) (l : List Nat), l.Nodup → (∀ x ∈ l, x < n) → l.length ≤ n
  | 0, l, _, h => by
    cases l with
    | nil => exact Nat.le_refl _
    | cons x l => exact absurd (h x List.mem_cons_self) (Nat.not_lt_zero _)
  | n + 1, l, nd, h => by
    by_cases hn : n ∈ l
    · have := nd_lt n (l.erase n) (nd.erase n) fun x hx => by
        have hx' := (nd.mem_erase_iff).mp hx
        have := h x hx'.2
        have := hx'.1
        omega
      rw [List.length_erase_of_mem hn] at this
      omega
    · have := nd_lt n l nd fun x hx => by
        have := h x hx
        have : x ≠ n := fun e => hn (e ▸ hx)
        omega
      omega
/-- pairs in a grid -/
def InG (n m : Nat) (q : Nat × Nat) : Prop := q.1 < n ∧ q.2 < m
theorem grid_len {n m : Nat} {S : List (Nat × Nat)} (nd : S.Nodup) (h : ∀ q ∈ S, InG n m q) : S.length ≤ n * m := by
  have key := nd_lt (n * m) (S.map fun q => q.1 * m + q.2) ?_ ?_
  · rwa [List.length_map] at key
  · refine List.pairwise_map.mpr (List.Pairwise.imp_of_mem ?_ nd)
    intro a b ha hb hne e
    apply hne
    obtain ⟨a1, a2⟩ := h a ha
    obtain ⟨b1, b2⟩ := h b hb
    have hm : 0 < m := by omega
    have e1 : a.1 = b.1 := by
      have x1 : (a.1 * m + a.2) / m = a.1 := by rw [Nat.mul_comm, Nat.mul_add_div hm, Nat.div_eq_of_lt a2, Nat.add_zero]
      have x2 : (b.1 * m + b.2) / m = b.1 := by rw [Nat.mul_comm, Nat.mul_add_div hm, Nat.div_eq_of_lt b2, Nat.add_zero]
      rw [← x1, ← x2, e]
    have e2 : a.2 = b.2 := by rw [e1] at e; omega
    exact Prod.ext e1 e2
  · intro x hx
    obtain ⟨q, hq, rfl⟩ := List.mem_map.mp hx
    obtain ⟨a1, a2⟩ := h q hq
    calc q.1 * m + q.2 < q.1 * m + m := by omega
      _ = (q.1 + 1) * m := by rw [Nat.add_mul, Nat.one_mul]
      _ ≤ n * m := Nat.mul_le_mul_right _ a1
def prI (q : Nat × Nat) : Int × Int := ((q.1 : Int), (q.2 : Int))
theorem prI_inj {a b : Nat × Nat} (h : prI a = prI b) : a = b := by
  injection h with h1 h2
  exact Prod.ext (by omega) (by omega)
theorem prI_mem {S : List (Nat × Nat)} {q : Nat × Nat} : prI q ∈ S.map prI ↔ q ∈ S := by
  constructor
  · intro h
    obtain ⟨p, hp, e⟩ := List.mem_map.mp h
    rw [← prI_inj e]; exact hp
  · exact fun h => List.mem_map_of_mem h
structure MetOk (n m : Nat) (S : List (Nat × Nat)) (kvs : List (D × D)) : Prop where
  nd : S.Nodup
  ing : ∀ q ∈ S, InG n m q
  kn : KnOk kvs (S.map prI)
def addS (S : List (Nat × Nat)) (q : Nat × Nat) : List (Nat × Nat) := if q ∈ S then S else S ++ [q]
theorem addS_le (S : List (Nat × Nat)) (q : Nat × Nat) : S.length ≤ (addS S q).length := by
  unfold addS
  split
  · exact Nat.le_refl _
  · rw [List.length_append]; omega
/-- a pair is put, if it is not there -/
theorem add_ok {n m : Nat} (hn : n ≤ 40) (hm : m ≤ 6) {S : List (Nat × Nat)} {kvs : List (D × D)} (h : MetOk n m S kvs) {q : Nat × Nat} (hq : InG n m q) {c w st z6 z7 z8 z9 z10 z11 : Sl} {Q : Fl → Rho → Prop}
    (hQ : ∀ kvs', MetOk n m (addS S q) kvs' → Q .nx [c, w, st, .o (.lst ((addS S q).map fun q => pairD (prI q))), .o (.dd kvs'), .v (pairD (prI q)), z6, z7, z8, z9, z10, z11]) :
    wp (iteM (tstM (binM notInD (refM 5) (refM 4))) (seqM (setItM 4 (cM (.bool true)) (getM 5)) (dropM (appM 3 (getM 5)))) skipM) [c, w, st, .o (.lst (S.map fun q => pairD (prI q))), .o (.dd kvs), .v (pairD (prI q)), z6, z7, z8, z9, z10, z11] Q := by
  have hl := grid_len h.nd h.ing
  have h240 : n * m ≤ 40 * 6 := Nat.mul_le_mul hn hm
  have hkl := h.kn.len
  rw [List.length_map] at hkl
  walk_at "fxs"
  refine bop_is (h.kn.notin (prI q)) ?_
  walk_at "fxs"
  unfold addS at hQ
  by_cases hin : q ∈ S
  · rw [decide_eq_true (prI_mem.mpr hin)]
    rw [if_pos hin] at hQ
    refine wd_f rfl ?_
    walk_at "fxs"
    exact hQ kvs h
  · rw [decide_eq_false fun z => hin (prI_mem.mp z)]
    rw [if_neg hin] at hQ
    refine wd_t rfl ?_
    walk_at "fxs"
    refine wp_putD rfl (h.kn.fit _) (by rw [sizeLine_eq]; omega) ?_
    walk_at "fxs"
    refine wp_push rfl (by rw [sizeLine_eq, List.length_map]; omega) ?_
    walk_at "fxs"
    have key := hQ (putD kvs (pairD (prI q)) (.bool true)) ⟨List.nodup_append.mpr ⟨h.nd, List.pairwise_singleton _ _, fun a ha b hb e => hin (by rw [List.mem_singleton.mp hb] at e; rw [← e]; exact ha)⟩, fun p hp => by
      rcases List.mem_append.mp hp with e | e
      · exact h.ing p e
      · rw [List.mem_singleton.mp e]; exact hq, by rw [List.map_append]; exact h.kn.put _ _⟩
    rw [List.map_append] at key
    exact key
theorem met_pairs_ok (hC : ChOk B rows) (hW : WtOk ws bad) {st : List (Nat × Nat)} (h0 : st ≠ []) (hst : ∀ q ∈ st, InG rows.length ws.length q) (R : Sl → List Sl → Prop) (h : ∀ S : List (Nat × Nat), S ≠ [] → S.Nodup → (∀ q ∈ S, InG rows.length ws.length q) → R (.o (.lst (S.map fun q => pairD (prI q)))) [.u, .u, .u]) :
    fw m__law_met_pairs [.v (chD B rows), .v (wtD ws bad), .v (.list (st.map fun q => pairD (prI q)))] R := by
  have hn := hC.len
  have hm := hW.len
  refine u__law_met_pairs ?_
  unfold b__law_met_pairs
  walk_at "fxs"
  refine wp_forL (fun i ρ => ∃ S kvs z5, MetOk rows.length ws.length S kvs ∧ (0 < i → S ≠ []) ∧ ρ = [.v (chD B rows), .v (wtD ws bad), .v (.list (st.map fun q => pairD (prI q))), .o (.lst (S.map fun q => pairD (prI q))), .o (.dd kvs), z5, .u, .u, .u, .u, .u, .u]) ⟨[], [], _, ⟨List.nodup_nil, (fun q hq => by cases hq), KnOk.nil⟩, fun z => absurd z (Nat.lt_irrefl _), rfl⟩ ?_ ?_
  · rintro i x ρ hx ⟨S, kvs, z5, hS, _, rfl⟩
    rw [List.getElem?_map] at hx
    obtain ⟨q, hq, rfl⟩ := Option.map_eq_some_iff.mp hx
    refine ⟨_, rfl, ?_⟩
    refine add_ok hn hm hS (hst q (List.mem_of_getElem? hq)) fun kvs' hS' => ?_
    refine lopK_nx ⟨_, kvs', _, hS', fun _ e => ?_, rfl⟩
    unfold addS at e
    split at e
    · rename_i hin; rw [e] at hin; cases hin
    · cases S <;> cases e
  rintro ρ ⟨S, kvs, z5, hS, hne, rfl⟩
  have hne : S ≠ [] := hne (by rw [List.length_map]; exact List.length_pos_iff.mpr h0)
  walk_at "fxs"
  refine wp_while (fun n ρ => ∃ S kvs k z5 z7 z8 z9 z10 z11, MetOk rows.length ws.length S kvs ∧ S ≠ [] ∧ k ≤ S.length ∧ n = 241 - k ∧ ρ = [.v (chD B rows), .v (wtD ws bad), .v (.list (st.map fun q => pairD (prI q))), .o (.lst (S.map fun q => pairD (prI q))), .o (.dd kvs), z5, .v (.int (k : Nat)), z7, z8, z9, z10, z11]) 241 ⟨S, kvs, 0, _, _, _, _, _, _, hS, hne, Nat.zero_le _, rfl, rfl⟩ ?_
  clear hS hne
  rintro n ρ ⟨S, kvs, k, z5, z7, z8, z9, z10, z11, hS, hne, hk, rfl, rfl⟩
  have hl := grid_len hS.nd hS.ing
  have h240 : rows.length * ws.length ≤ 40 * 6 := Nat.mul_le_mul hn hm
  walk_at "fxs"
  rw [List.length_map]
  refine ⟨fun hlt => ?_, fun hge => ?_⟩
  · have hlt := of_decide_eq_true hlt
    have hkl : k < S.length := by omega
    obtain ⟨s, hr⟩ : ∃ q, S[k]? = some q := ⟨_, List.getElem?_eq_getElem hkl⟩
    obtain ⟨s, kk⟩ := s
    obtain ⟨i1, i2⟩ := hS.ing _ (List.mem_of_getElem? hr)
    obtain ⟨r, hrow⟩ : ∃ r, rows[s]? = some r := ⟨_, List.getElem?_eq_getElem i1⟩
    obtain ⟨w, hw⟩ : ∃ w, ws[kk]? = some w := ⟨_, List.getElem?_eq_getElem i2⟩
    have g0 : atI (S.map fun q => pairD (prI q)) (k : Int) = some (pairD (prI (s, kk))) := atI_of (by rw [List.getElem?_map, hr]; rfl)
    have g1 := row_at hrow
    walk_at "fxs"
    refine ⟨_, rfl, ?_⟩
    walk_at "fxs"
    refine wp_forL (fun j ρ => ∃ S' kvs' z5 z9 z10 z11, MetOk rows.length ws.length S' kvs' ∧ S' ≠ [] ∧ S.length ≤ S'.length ∧ ρ = [.v (chD B rows), .v (wtD ws bad), .v (.list (st.map fun q => pairD (prI q))), .o (.lst (S'.map fun q => pairD (prI q))), .o (.dd kvs'), z5, .v (.int (k : Nat)), .v (.int (s : Nat)), .v (.int (kk : Nat)), z9, z10, z11]) ⟨S, kvs, _, _, _, _, hS, hne, Nat.le_refl _, rfl⟩ ?_ ?_
    · rintro j y ρ hy ⟨S', kvs', z5, z9, z10, z11, hS', hne', hle, rfl⟩
      rw [List.getElem?_map] at hy
      obtain ⟨b, hb, rfl⟩ := Option.map_eq_some_iff.mp hy
      refine ⟨_, rfl, ?_⟩
      refine wp_cut (fun ρ => ρ = [.v (chD B rows), .v (wtD ws bad), .v (.list (st.map fun q => pairD (prI q))), .o (.lst (S'.map fun q => pairD (prI q))), .o (.dd kvs'), .v (pairD (prI (b.to, nextW w b.sh))), .v (.int (k : Nat)), .v (.int (s : Nat)), .v (.int (kk : Nat)), .v (intsD b.ds), .v (strsD b.sh), .v (.int (b.to : Nat))]) ?_ ?_
      · walk_at "fxs"
        refine watch_step_ok hw b.sh _ ?_
        walk_at "nf"; walk_at "fxs"
        rfl
      · rintro ρ rfl
        refine add_ok hn hm hS' (q := (b.to, nextW w b.sh)) ⟨hC.to r (List.mem_of_getElem? hrow) b (List.mem_of_getElem? hb), hW.next (List.mem_of_getElem? hw) b.sh⟩ fun kvs'' hS'' => ?_
        refine lopK_nx ⟨_, kvs'', _, _, _, _, hS'', fun e => ?_, Nat.le_trans hle (addS_le _ _), rfl⟩
        have := addS_le S' (b.to, nextW w b.sh)
        rw [e] at this
        exact hne' (List.length_eq_zero_iff.mp (Nat.le_zero.mp this))
    · rintro ρ ⟨S', kvs', z5, z9, z10, z11, hS', hne', hle, rfl⟩
      walk_at "fxs"
      exact ⟨241 - (k + 1), by omega, S', kvs', k + 1, _, _, _, _, _, _, hS', hne', by omega, rfl, rfl⟩
  · have hge := of_decide_eq_false hge
    walk_at "fxs"
    exact h S hne hS.nd hS.ing
end
section
variable {B : Int} {rows : List (List Br)} {ws : List WR} {bad : List Int}
theorem notin_intsL (i : Int) (l : List Int) : notInD (.int i) (.list (l.map PyData.int)) = some (.bool (!l.any fun z => decide (z = i))) := by
  show ((intsOf (l.map PyData.int)).map fun zs => zs.any fun z => decide (z = i)).map (fun b => PyData.bool (!b)) = _
  rw [intsOf_map]
  rfl
theorem InG.zero (hC : ChOk B rows) (hW : WtOk ws bad) : InG rows.length ws.length (0, 0) := ⟨List.length_pos_iff.mpr hC.ne, hW.ne⟩
theorem spared_ok (b : Own) (hb : Dst b) (hC : ChOk B rows) (hW : WtOk ws bad) (R : Sl → List Sl → Prop) (h : ∀ bad' b', WtOk ws bad' → Dst b' → R (.v (wtD ws bad')) [.o b', .u, .u]) : fw m__law_spared [.o b, .v (chD B rows), .v (wtD ws bad)] R := by
  refine u__law_spared ?_
  unfold b__law_spared
  walk_at "fxs"
  refine draw_ok _ hb _ (by decide) (by decide) _ fun q b q1 q2 hb => ?_
  walk_at "nf"; walk_at "fxs"
  refine ⟨fun _ => ?_, fun _ => ?_⟩
  · walk_at "fxs"
    exact h bad b hW hb
  · walk_at "fxs"
    refine met_pairs_ok hC hW (st := [(0, 0)]) (by simp) (fun q hq => by rw [List.mem_singleton.mp hq]; exact InG.zero hC hW) _ fun S hS0 hS1 hS2 => ?_
    have hSl := grid_len hS1 hS2
    have h240 : rows.length * ws.length ≤ 40 * 6 := Nat.mul_le_mul hC.len hW.len
    walk_at "nf"; walk_at "fxs"
    refine wp_lcT (fun i acc ρ => acc = ((S.map fun q => ((q.2 : Nat) : Int)).take i).map PyData.int ∧ ρ = [.o b, .v (chD B rows), .v (wtD ws bad), .u, .u, .u]) ⟨rfl, rfl⟩ ?_ ?_
    · rintro i x acc ρ hx - ⟨rfl, rfl⟩
      rw [List.getElem?_map] at hx
      obtain ⟨q, hq, rfl⟩ := Option.map_eq_some_iff.mp hx
      refine ⟨_, rfl, ?_⟩
      walk_at "fxs"
      refine ⟨?_, rfl⟩
      rw [List.take_add_one, List.getElem?_map, hq, List.map_append]
      rfl
    rintro acc ρ hacc ⟨rfl, rfl⟩
    refine ⟨lenFit (by rw [List.length_map, List.length_take, List.length_map, List.length_map]; omega), ?_⟩
    generalize (S.map fun q => ((q.2 : Nat) : Int)).take _ = mt
    walk_at "fxs"
    refine wp_lcL (fun j acc ρ => ∃ bd : List Int, bd.length ≤ j ∧ acc = bd.map PyData.int ∧ ρ = [.o b, .v (chD B rows), .v (wtD ws bad), .v (.list (mt.map PyData.int)), .u, .u]) ⟨[], Nat.le_refl _, rfl, rfl⟩ ?_ ?_
    · rintro j y acc ρ hy ⟨bd, hbl, rfl, rfl⟩
      rw [List.getElem?_map] at hy
      obtain ⟨z, hz, rfl⟩ := Option.map_eq_some_iff.mp hy
      refine ⟨_, rfl, ?_⟩
      walk_at "fxs"
      refine bop_is (notin_intsL z mt) ?_
      walk_at "fxs"
      refine ⟨fun _ => ?_, fun _ => ?_⟩
      · walk_at "fxs"
        exact ⟨bd ++ [z], by rw [List.length_append, List.length_singleton]; omega, by rw [List.map_append]; rfl, rfl⟩
      · exact ⟨bd, by omega, rfl, rfl⟩
    · rintro acc ρ ⟨bd, hbl, rfl, rfl⟩
      rw [List.length_map] at hbl
      have := hW.bl
      refine ⟨lenFit (by rw [List.length_map]; omega), ?_⟩
      walk_at "fxs"
      exact h bd b ⟨hW.ne, hW.len, hW.ml, hW.to, by omega⟩ hb
/-! a drawn table -/
def TbSt (rows : List (List Br)) (ws : List WR) (B : Int) (bad : List Int) (n : Nat) (z9 : Sl) (ρ : Rho) : Prop := ∃ (b : Own) (P : List (Int × Int)) (z5 z6 z8 : Sl), Dst b ∧ P ≠ [] ∧ P.length ≤ n ∧ ρ = [.o b, .v (chD B rows), .v (wtD ws bad), .v (.int (rows.length : Nat)), .v (.int (ws.length : Nat)), z5, z6, .o (.lst (P.map pairD)), z8, z9, .u]
theorem pairs_of {l ys : List D} {P : List (Int × Int)} (hl : l = P.map pairD) (hys : ∀ y ∈ ys, y ∈ l) : ∃ P' : List (Int × Int), ys = P'.map pairD := by
  induction ys with
  | nil => exact ⟨[], rfl⟩
  | cons y ys ih =>
    obtain ⟨P', rfl⟩ := ih fun z hz => hys z (List.mem_cons_of_mem _ hz)
    have := hys y List.mem_cons_self
    rw [hl] at this
    obtain ⟨q, _, rfl⟩ := List.mem_map.mp this
    exact ⟨q :: P', rfl⟩
theorem table_ok (b : Own) (hb : Dst b) (hC : ChOk B rows) (hW : WtOk ws bad) (R : Sl → List Sl → Prop) (h : ∀ P b', P.length ≤ 1000 → Dst b' → R (.v (prsD P)) [.o b', .u, .u]) : fw m__law_table [.o b, .v (chD B rows), .v (wtD ws bad)] R := by
  have hn := hC.len
  have hm := hW.len
  have hn0 := List.length_pos_iff.mpr hC.ne
  have hm0 := hW.ne
  have h240 : rows.length * ws.length ≤ 40 * 6 := Nat.mul_le_mul hn hm
  refine u__law_table ?_
  unfold b__law_table
  walk_at "fxs"
  rw [List.length_map, List.length_map]
  refine draw_ok _ hb _ (by omega) (by omega) _ fun d1 b e1 e2 hb => ?_
  walk_at "nf"; walk_at "fxs"
  refine draw_ok _ hb _ (by omega) (by omega) _ fun d2 b f1 f2 hb => ?_
  obtain ⟨d1, rfl⟩ := Int.eq_ofNat_of_zero_le e1
  obtain ⟨d2, rfl⟩ := Int.eq_ofNat_of_zero_le f1
  walk_at "nf"; walk_at "fxs"
  refine pick_ok _ hb _ (by simp) (by show 4 < 2 ^ 100; decide) _ fun x b hx hb => ?_
  obtain ⟨st, hst0, hst, rfl⟩ : ∃ st : List (Nat × Nat), st ≠ [] ∧ (∀ q ∈ st, InG rows.length ws.length q) ∧ x = .list (st.map fun q => pairD (prI q)) := by
    have hz : InG rows.length ws.length (0, 0) := InG.zero hC hW
    have hd : InG rows.length ws.length (d1, d2) := ⟨by show d1 < _; omega, by show d2 < _; omega⟩
    simp only [List.mem_cons, List.not_mem_nil, or_false] at hx
    rcases hx with rfl | rfl | rfl | rfl
    · exact ⟨[(0, 0)], by simp, fun q hq => by rw [List.mem_singleton.mp hq]; exact hz, rfl⟩
    · exact ⟨[(0, 0)], by simp, fun q hq => by rw [List.mem_singleton.mp hq]; exact hz, rfl⟩
    · refine ⟨[(0, 0), (d1, d2)], by simp, fun q hq => ?_, rfl⟩
      simp only [List.mem_cons, List.not_mem_nil, or_false] at hq
      rcases hq with rfl | rfl
      · exact hz
      · exact hd
    · exact ⟨[(d1, d2)], by simp, fun q hq => by rw [List.mem_singleton.mp hq]; exact hd, rfl⟩
  walk_at "nf"; walk_at "fxs"
  refine met_pairs_ok hC hW hst0 hst _ fun S hS0 hS1 hS2 => ?_
  have hSl := grid_len hS1 hS2
  walk_at "nf"; walk_at "fxj"
  refine wp_cut (TbSt rows ws B bad 240 .u) ?_ ?_
  · walk_at "fxs"
    refine draw_ok _ hb _ (by decide) (by decide) _ fun q b q1 q2 hb => ?_
    walk_at "nf"; walk_at "fxs"
    refine ⟨fun _ => ?_, fun _ => ?_⟩
    · walk_at "fxs"
      refine wp_forL (fun i ρ => ∃ (P : List (Int × Int)) (z8 : Sl), P.length = i * ws.length ∧ ρ = [.o b, .v (chD B rows), .v (wtD ws bad), .v (.int (rows.length : Nat)), .v (.int (ws.length : Nat)), .v (pairD (prI (d1, d2))), .v (.list (st.map fun q => pairD (prI q))), .o (.lst (P.map pairD)), z8, .u, .u]) ⟨[], _, by rw [Nat.zero_mul]; rfl, rfl⟩ ?_ ?_
      · rintro i x ρ hx ⟨P, z8, hPl, rfl⟩
        obtain ⟨hi, rfl⟩ := rngL_get hx
        have hi : i < rows.length := by omega
        have hi2 : (i + 1) * ws.length ≤ rows.length * ws.length := Nat.mul_le_mul_right _ hi
        have hi3 : (i + 1) * ws.length = i * ws.length + ws.length := by rw [Nat.add_mul, Nat.one_mul]
        refine ⟨_, rfl, ?_⟩
        walk_at "fxs"
        refine wp_lcT (fun j acc ρ => acc = ((List.range j).map fun (k : Nat) => pairD (0 + (i : Int), 0 + (k : Int))) ∧ ρ = [.o b, .v (chD B rows), .v (wtD ws bad), .v (.int (rows.length : Nat)), .v (.int (ws.length : Nat)), .v (pairD (prI (d1, d2))), .v (.list (st.map fun q => pairD (prI q))), .o (.lst (P.map pairD)), .v (.int (0 + (i : Int))), .u, .u]) ⟨rfl, rfl⟩ ?_ ?_
        · rintro j y acc ρ hy - ⟨rfl, rfl⟩
          obtain ⟨hj, rfl⟩ := rngL_get hy
          refine ⟨_, rfl, ?_⟩
          walk_at "fxs"
          refine ⟨?_, rfl⟩
          rw [List.range_succ, List.map_append]
          rfl
        · rintro acc ρ hacc ⟨rfl, rfl⟩
          rw [rngL_len, Int.toNat_natCast]
          refine ⟨lenFit (by rw [List.length_map, List.length_range]; omega), ?_⟩
          walk_at "fxs"
          refine bop_cat (by rw [sizeLine_eq, List.length_map, List.length_map, List.length_range]; omega) ?_
          walk_at "fxs"
          refine ⟨P ++ (List.range ws.length).map fun (k : Nat) => (0 + (i : Int), 0 + (k : Int)), .v (.int (0 + (i : Int))), by rw [List.length_append, List.length_map, List.length_range]; omega, ?_⟩
          rw [List.map_append, List.map_map]
          rfl
      · rintro ρ ⟨P, z8, hPl, rfl⟩
        rw [rngL_len, Int.toNat_natCast] at hPl
        have hpos : 0 < rows.length * ws.length := Nat.mul_pos hn0 hm0
        exact ⟨b, P, _, _, _, hb, fun e => by rw [e] at hPl; have : 0 = rows.length * ws.length := hPl; omega, by omega, rfl⟩
    · walk_at "fxs"
      refine ⟨b, S.map prI, .v (pairD (prI (d1, d2))), .v (.list (st.map fun q => pairD (prI q))), .u, hb, fun e => hS0 (List.map_eq_nil_iff.mp e), by rw [List.length_map]; omega, ?_⟩
      rw [List.map_map]
      rfl
  rintro ρ ⟨b, P, z5, z6, z8, hb, hP0, hPl, rfl⟩
  walk_at "fxj"
  refine wp_cut (TbSt rows ws B bad 240 .u) ?_ ?_
  · walk_at "fxs"
    refine draw_ok _ hb _ (by decide) (by decide) _ fun q b q1 q2 hb => ?_
    walk_at "nf"; walk_at "fxs"
    refine ⟨fun _ => ?_, fun _ => ?_⟩
    · walk_at "fxs"
      refine shuffledO_ok _ hb _ (by rw [List.length_map]; omega) _ fun ys b hyl hy hb => ?_
      obtain ⟨P', rfl⟩ := pairs_of rfl hy
      rw [List.length_map, List.length_map] at hyl
      walk_at "nf"; walk_at "fxs"
      exact ⟨b, P', _, _, _, hb, fun e => hP0 (List.length_eq_zero_iff.mp (by rw [← hyl, e]; rfl)), by omega, rfl⟩
    · walk_at "fxs"
      exact ⟨b, P, _, _, _, hb, hP0, hPl, rfl⟩
  clear hP0 hPl
  rintro ρ ⟨b, P, z5, z6, z8, hb, hP0, hPl, rfl⟩
  walk_at "fxj"
  refine draw_ok _ hb _ (by decide) (by decide) _ fun way b w1 w2 hb => ?_
  walk_at "nf"; walk_at "fxj"
  refine wp_cut (TbSt rows ws B bad 242 (.v (.int way))) ?_ ?_
  · walk_at "fxs"
    refine ⟨fun _ => ?_, fun _ => ?_⟩
    · walk_at "fxs"
      rw [show ((2 : Int)) = ((2 : Nat) : Int) from rfl]
      refine uop_cutL ?_
      rw [cutG_to]
      walk_at "fxs"
      refine bop_cat (by rw [sizeLine_eq, List.length_take, List.length_map]; omega) ?_
      walk_at "fxs"
      refine ⟨b, P ++ P.take 2, z5, z6, z8, hb, fun e => hP0 (List.append_eq_nil_iff.mp e).1, by rw [List.length_append, List.length_take]; omega, ?_⟩
      rw [List.map_append, List.map_take]
      rfl
    · walk_at "fxs"
      exact ⟨b, P, _, _, _, hb, hP0, by omega, rfl⟩
  clear hP0 hPl
  rintro ρ ⟨b, P, z5, z6, z8, hb, hP0, hPl, rfl⟩
  walk_at "fxj"
  refine wp_cut (fun ρ => ∃ (b : Own) (P : List (Int × Int)) (z5 z6 z8 : Sl), Dst b ∧ P.length ≤ 242 ∧ ρ = [.o b, .v (chD B rows), .v (wtD ws bad), .v (.int (rows.length : Nat)), .v (.int (ws.length : Nat)), z5, z6, .o (.lst (P.map pairD)), z8, .v (.int way), .u]) ?_ ?_
  · walk_at "fxs"
    refine ⟨fun _ => ?_, fun _ => ?_⟩
    · have hp1 := List.length_pos_iff.mpr hP0
      walk_at "fxs"
      rw [List.length_map]
      refine draw_ok _ hb _ (by omega) (by omega) _ fun q b q1 q2 hb => ?_
      walk_at "nf"; walk_at "fxs"
      obtain ⟨q, rfl⟩ := Int.eq_ofNat_of_zero_le q1
      have hq : q < P.length := by omega
      refine wp_popL (j := q) (y := pairD P[q]) rfl (by omega) (by omega) (seqIndex_of (by omega) (by rw [List.length_map]; omega)) (by rw [List.getElem?_map, List.getElem?_eq_getElem hq]; rfl) ?_
      walk_at "fxs"
      refine ⟨b, P.eraseIdx q, z5, z6, z8, hb, by have := List.length_eraseIdx_le (l := P) (i := q); omega, ?_⟩
      rw [map_erase]
      rfl
    · walk_at "fxs"
      exact ⟨b, P, _, _, _, hb, hPl, rfl⟩
  clear hP0 hPl
  have app : ∀ (n : Nat) (q : Int × Int) (b : Own) (P : List (Int × Int)) (z5 z6 z8 : Sl), n ≤ 300 → Dst b → P.length ≤ n → ∃ (b' : Own) (P' : List (Int × Int)) (z5' z6' z8' : Sl), Dst b' ∧ P'.length ≤ n + 1 ∧ [.o b, .v (chD B rows), .v (wtD ws bad), .v (.int (rows.length : Nat)), .v (.int (ws.length : Nat)), z5, z6, .o (.lst (P.map pairD ++ [pairD q])), z8, .v (.int way), Sl.u] = [.o b', .v (chD B rows), .v (wtD ws bad), .v (.int (rows.length : Nat)), .v (.int (ws.length : Nat)), z5', z6', .o (.lst (P'.map pairD)), z8', .v (.int way), .u] := fun n q b P z5 z6 z8 hn hb hP => ⟨b, P ++ [q], z5, z6, z8, hb, by rw [List.length_append, List.length_singleton]; omega, by rw [List.map_append]; rfl⟩
  rintro ρ ⟨b, P, z5, z6, z8, hb, hPl, rfl⟩
  walk_at "fxj"
  refine wp_cut (fun ρ => ∃ (b : Own) (P : List (Int × Int)) (z5 z6 z8 : Sl), Dst b ∧ P.length ≤ 243 ∧ ρ = [.o b, .v (chD B rows), .v (wtD ws bad), .v (.int (rows.length : Nat)), .v (.int (ws.length : Nat)), z5, z6, .o (.lst (P.map pairD)), z8, .v (.int way), .u]) ?_ ?_
  · walk_at "fxs"
    refine ⟨fun _ => ?_, fun _ => ?_⟩
    · walk_at "fxs"
      refine pick_ok _ hb _ (by simp) (by show 4 < 2 ^ 100; decide) _ fun x b hx hb => ?_
      obtain ⟨xi, rfl⟩ : ∃ xi : Int, x = .int xi := by
        simp only [List.mem_cons, List.not_mem_nil, or_false] at hx
        rcases hx with rfl | rfl | rfl | rfl <;> exact ⟨_, rfl⟩
      walk_at "nf"; walk_at "fxs"
      refine draw_ok _ hb _ (by omega) (by omega) _ fun q b q1 q2 hb => ?_
      walk_at "nf"; walk_at "fxs"
      refine wp_push rfl (by rw [sizeLine_eq, List.length_map]; omega) ?_
      walk_at "fxs"
      exact app 242 (xi, q) b P _ _ _ (by decide) hb hPl
    · walk_at "fxs"
      exact ⟨b, P, _, _, _, hb, by omega, rfl⟩
  clear hPl
  rintro ρ ⟨b, P, z5, z6, z8, hb, hPl, rfl⟩
  walk_at "fxj"
  refine wp_cut (fun ρ => ∃ (b : Own) (P : List (Int × Int)) (z5 z6 z8 : Sl), Dst b ∧ P.length ≤ 244 ∧ ρ = [.o b, .v (chD B rows), .v (wtD ws bad), .v (.int (rows.length : Nat)), .v (.int (ws.length : Nat)), z5, z6, .o (.lst (P.map pairD)), z8, .v (.int way), .u]) ?_ ?_
  · walk_at "fxs"
    refine ⟨fun _ => ?_, fun _ => ?_⟩
    · walk_at "fxs"
      refine draw_ok _ hb _ (by omega) (by omega) _ fun q b q1 q2 hb => ?_
      walk_at "nf"; walk_at "fxs"
      refine pick_ok _ hb _ (by simp) (by show 4 < 2 ^ 100; decide) _ fun x b hx hb => ?_
      obtain ⟨xi, rfl⟩ : ∃ xi : Int, x = .int xi := by
        simp only [List.mem_cons, List.not_mem_nil, or_false] at hx
        rcases hx with rfl | rfl | rfl | rfl <;> exact ⟨_, rfl⟩
      walk_at "nf"; walk_at "fxs"
      refine wp_push rfl (by rw [sizeLine_eq, List.length_map]; omega) ?_
      walk_at "fxs"
      exact app 243 (q, xi) b P _ _ _ (by decide) hb hPl
    · walk_at "fxs"
      exact ⟨b, P, _, _, _, hb, by omega, rfl⟩
  clear hPl
  rintro ρ ⟨b, P, z5, z6, z8, hb, hPl, rfl⟩
  walk_at "fxj"
  refine wp_cut (fun ρ => ∃ (b : Own) (P : List (Int × Int)) (z5 z6 z8 : Sl), Dst b ∧ P.length ≤ 245 ∧ ρ = [.o b, .v (chD B rows), .v (wtD ws bad), .v (.int (rows.length : Nat)), .v (.int (ws.length : Nat)), z5, z6, .o (.lst (P.map pairD)), z8, .v (.int way), .u]) ?_ ?_
  · walk_at "fxs"
    refine ⟨fun _ => ?_, fun _ => ?_⟩
    · walk_at "fxs"
      refine draw_ok _ hb _ (by omega) (by omega) _ fun q b q1 q2 hb => ?_
      walk_at "nf"; walk_at "fxs"
      refine draw_ok _ hb _ (by omega) (by omega) _ fun q' b q1' q2' hb => ?_
      walk_at "nf"; walk_at "fxs"
      refine wp_push rfl (by rw [sizeLine_eq, List.length_map]; omega) ?_
      walk_at "fxs"
      exact app 244 (q, q') b P _ _ _ (by decide) hb hPl
    · walk_at "fxs"
      exact ⟨b, P, _, _, _, hb, by omega, rfl⟩
  clear hPl
  rintro ρ ⟨b, P, z5, z6, z8, hb, hPl, rfl⟩
  walk_at "fxj"
  refine wp_cut (fun ρ => ∃ (b : Own) (P : List (Int × Int)) (z5 z6 z8 : Sl), Dst b ∧ P.length ≤ 245 ∧ ρ = [.o b, .v (chD B rows), .v (wtD ws bad), .v (.int (rows.length : Nat)), .v (.int (ws.length : Nat)), z5, z6, .o (.lst (P.map pairD)), z8, .v (.int way), .u]) ?_ ?_
  · walk_at "fxs"
    refine ⟨fun _ => ?_, fun _ => ?_⟩
    · walk_at "fxs"
      rw [List.length_map]
      refine draw_ok _ hb _ (by omega) (by omega) _ fun q b q1 q2 hb => ?_
      obtain ⟨q, rfl⟩ := Int.eq_ofNat_of_zero_le q1
      walk_at "nf"; walk_at "fxs"
      refine uop_is (z := .lst (cutG (P.map pairD) none (some (q : Int)))) rfl ?_
      rw [cutG_to]
      walk_at "fxs"
      refine ⟨b, P.take q, z5, z6, z8, hb, by rw [List.length_take]; omega, ?_⟩
      rw [List.map_take]
      rfl
    · walk_at "fxs"
      exact ⟨b, P, _, _, _, hb, hPl, rfl⟩
  clear hPl
  rintro ρ ⟨b, P, z5, z6, z8, hb, hPl, rfl⟩
  walk_at "fxs"
  exact h P b (by omega) hb
end
theorem pickT_ok (b : Own) (hb : Dst b) (xs : List D) (h0 : xs ≠ []) (hn : xs.length < 2 ^ 100) (R : Sl → List Sl → Prop) (h : ∀ x b', x ∈ xs → Dst b' → R (.v x) [.o b', .u]) : fw m__law_pick [.o b, .v (.tuple xs)] R := by
  refine u__law_pick ?_
  unfold b__law_pick
  walk_at "fxs"
  have h1 : 0 < xs.length := List.length_pos_iff.mpr h0
  refine draw_ok _ hb _ (by omega) (by omega) _ fun r b h1 h2 hb => ?_
  walk_at "nf"
  obtain ⟨j, rfl⟩ := Int.eq_ofNat_of_zero_le h1
  have hj : j < xs.length := by omega
  have hg : atI xs (j : Int) = some xs[j] := atI_of (List.getElem?_eq_getElem hj)
  walk_at "fxs"
  exact h _ _ (List.getElem_mem hj) hb
section
variable {B : Int} {rows : List (List Br)}
theorem cutG_map {α β : Type} (f : α → β) (xs : List α) (lo hi : Option Int) : cutG (xs.map f) lo hi = (cutG xs lo hi).map f := by
  unfold cutG
  rw [List.length_map, List.map_take, List.map_drop]
theorem cutG_le {α : Type} (xs : List α) (lo hi : Option Int) : (cutG xs lo hi).length ≤ xs.length := by
  unfold cutG
  rw [List.length_take, List.length_drop]
  omega
theorem cutG_mem {α : Type} {xs : List α} {lo hi : Option Int} {x : α} (h : x ∈ cutG xs lo hi) : x ∈ xs := by
  unfold cutG at h
  exact List.mem_of_mem_drop (List.mem_of_mem_take h)
def BlSt (rows : List (List Br)) (B : Int) (n m : Nat) (wd : List Int) (k way : Int) (ρ : Rho) : Prop := ∃ (b : Own) (bs : List (List Int)) (z2 z4 z5 z6 : Sl), Dst b ∧ bs.length ≤ n ∧ (∀ w ∈ bs, w.length ≤ m) ∧ ρ = [.o b, .v (chD B rows), z2, .o (.lst (bs.map intsD)), z4, z5, z6, .v (.int way), .v (.int k), .v (intsD wd)]
theorem blocks_ok (b : Own) (hb : Dst b) (hC : ChOk B rows) (R : Sl → List Sl → Prop) (h : ∀ bs b', bs.length ≤ 1000 → Dst b' → R (.v (blkD bs)) [.o b', .u]) : fw m__law_blocks [.o b, .v (chD B rows)] R := by
  have h2 := hC.b2
  have h6 := hC.b6
  refine u__law_blocks ?_
  unfold b__law_blocks
  walk_at "fxs"
  refine draw_ok _ hb _ (by decide) (by decide) _ fun st b s1 s2 hb => ?_
  walk_at "nf"; walk_at "fxs"
  refine rare_ok _ hb _ (by decide) (by decide) _ fun t b hb => ?_
  walk_at "nf"; walk_at "fxs"
  have hst : st + 60 * (if t = true then 1 else 0) < 70 := by split <;> omega
  have hst0 : 0 ≤ st + 60 * (if t = true then 1 else 0) := by split <;> omega
  generalize st + 60 * (if t = true then 1 else 0) = m at hst hst0
  refine wp_forL (fun i ρ => ∃ (b : Own) (bs : List (List Int)) (s : Nat) (z4 z5 z6 : Sl), Dst b ∧ bs.length = i ∧ (∀ w ∈ bs, w.length ≤ 5) ∧ s < rows.length ∧ ρ = [.o b, .v (chD B rows), .v (.int (s : Nat)), .o (.lst (bs.map intsD)), z4, z5, z6, .u, .u, .u]) ⟨b, [], 0, _, _, _, hb, rfl, (fun w hw => by cases hw), List.length_pos_iff.mpr hC.ne, rfl⟩ ?_ ?_
  · rintro i x ρ hx ⟨b, bs, s, z4, z5, z6, hb, hl, hbw, hs, rfl⟩
    obtain ⟨hi, rfl⟩ := rngL_get hx
    have hi : (i : Int) < 70 := by omega
    obtain ⟨r, hr⟩ : ∃ r, rows[s]? = some r := ⟨_, List.getElem?_eq_getElem hs⟩
    have hrm := List.mem_of_getElem? hr
    have hrl := hC.rl r hrm
    have hr0 : r ≠ [] := fun e => by have := (hC.ws r hrm).ne; rw [e] at this; exact this rfl
    have g1 := row_at hr
    refine ⟨_, rfl, ?_⟩
    walk_at "fxs"
    refine pickT_ok _ hb _ (fun e => hr0 (List.map_eq_nil_iff.mp e)) (by rw [List.length_map]; omega) _ fun x b hx hb => ?_
    obtain ⟨c, hc, rfl⟩ := List.mem_map.mp hx
    walk_at "nf"; walk_at "fxs"
    refine ⟨_, rfl, ?_⟩
    walk_at "fxs"
    refine wp_push rfl (by rw [sizeLine_eq, List.length_map]; omega) ?_
    walk_at "fxs"
    refine ⟨b, bs ++ [c.ds], c.to, _, _, _, hb, by rw [List.length_append, hl]; rfl, fun w hw => ?_, hC.to r hrm c hc, by rw [List.map_append]; rfl⟩
    rcases List.mem_append.mp hw with e | e
    · exact hbw w e
    · rw [List.mem_singleton.mp e]
      have := (hC.ws r hrm).len c.ds (List.mem_map_of_mem hc)
      omega
  rintro ρ ⟨b, bs, s, z4, z5, z6, hb, hl, hbw, hs, rfl⟩
  rw [rngL_len] at hl
  have hl : bs.length ≤ 70 := by omega
  walk_at "fxs"
  refine draw_ok _ hb _ (by decide) (by decide) _ fun way b w1 w2 hb => ?_
  walk_at "nf"; walk_at "fxs"
  rw [List.length_map]
  refine draw_ok _ hb _ (by omega) (by omega) _ fun k b k1 k2 hb => ?_
  walk_at "nf"; walk_at "fxs"
  obtain ⟨k, rfl⟩ := Int.eq_ofNat_of_zero_le k1
  refine draw_ok _ hb _ (by decide) (by decide) _ fun nw b n1 n2 hb => ?_
  walk_at "nf"; walk_at "fxs"
  refine wp_lcT (fun j acc ρ => ∃ (b : Own) (wd : List Int), Dst b ∧ wd.length = j ∧ acc = wd.map PyData.int ∧ ρ = [.o b, .v (chD B rows), .v (.int (s : Nat)), .o (.lst (bs.map intsD)), .u, z5, z6, .v (.int way), .v (.int (k : Nat)), .u]) ⟨b, [], hb, rfl, rfl, rfl⟩ ?_ ?_
  · rintro j y acc ρ hy - ⟨b, wd, hb, hwl, rfl, rfl⟩
    refine ⟨_, rfl, ?_⟩
    walk_at "fxs"
    refine draw_ok _ hb _ (by omega) (by omega) _ fun q b q1 q2 hb => ?_
    walk_at "nf"; walk_at "fxs"
    exact ⟨b, wd ++ [q], hb, by rw [List.length_append, hwl]; rfl, by rw [List.map_append]; rfl, rfl⟩
  rintro acc ρ hacc ⟨b, wd, hb, hwl, rfl, rfl⟩
  rw [rngL_len] at hwl
  have hwd : wd.length ≤ 5 := by omega
  refine ⟨lenFit (by rw [List.length_map]; omega), ?_⟩
  walk_at "fxj"
  have C : ∀ {lo hi : Option Int} {bs : List (List Int)} {K : D → Prop}, K (.list ((cutG bs lo hi).map intsD)) → uop (fun x => slD x lo hi) (some (.list (bs.map intsD))) K := fun {lo hi bs K} q => uop_cutL (by rw [cutG_map]; exact q)
  refine wp_cut (BlSt rows B 141 5 wd (k : Nat) way) ?_ ?_
  · walk_at "fxs"
    refine ⟨fun _ => ?_, fun _ => ?_⟩
    · walk_at "fxs"
      refine C ?_
      have l1 := cutG_le bs none (some (k : Int))
      walk_at "fxs"
      refine bop_add_ll (by rw [sizeLine_eq, List.length_map, List.length_singleton]; omega) ?_
      walk_at "fxs"
      refine C ?_
      have l2 := cutG_le bs (some ((k : Int) + 1)) none
      walk_at "fxs"
      refine bop_cat (by rw [sizeLine_eq, List.length_append, List.length_map, List.length_map, List.length_singleton]; omega) ?_
      walk_at "fxs"
      exact ⟨b, cutG bs none (some (k : Int)) ++ [wd] ++ cutG bs (some ((k : Int) + 1)) none, .v (.int (s : Nat)), .u, z5, z6, hb, by rw [List.length_append, List.length_append, List.length_singleton]; omega, fun w hw => (List.mem_append.mp hw).elim (fun e => (List.mem_append.mp e).elim (fun e => hbw w (cutG_mem e)) fun e => by rw [List.mem_singleton.mp e]; exact hwd) fun e => hbw w (cutG_mem e), by rw [List.map_append, List.map_append]; rfl⟩
    · walk_at "fxs"
      exact ⟨b, bs, _, _, _, _, hb, by omega, hbw, rfl⟩
  clear hl hbw
  rintro ρ ⟨b, bs, z2, z4, z5, z6, hb, hl, hbw, rfl⟩
  walk_at "fxj"
  refine wp_cut (BlSt rows B 282 5 wd (k : Nat) way) ?_ ?_
  · walk_at "fxs"
    refine ⟨fun _ => ?_, fun _ => ?_⟩
    · walk_at "fxs"
      refine C ?_
      have l1 := cutG_le bs none (some (k : Int))
      walk_at "fxs"
      refine C ?_
      have l2 := cutG_le bs (some ((k : Int) + 1)) none
      walk_at "fxs"
      refine bop_cat (by rw [sizeLine_eq, List.length_map, List.length_map]; omega) ?_
      walk_at "fxs"
      exact ⟨b, cutG bs none (some (k : Int)) ++ cutG bs (some ((k : Int) + 1)) none, z2, z4, z5, z6, hb, by rw [List.length_append]; omega, fun w hw => (List.mem_append.mp hw).elim (fun e => hbw w (cutG_mem e)) fun e => hbw w (cutG_mem e), by rw [List.map_append]; rfl⟩
    · walk_at "fxs"
      exact ⟨b, bs, _, _, _, _, hb, by omega, hbw, rfl⟩
  clear hl hbw
  rintro ρ ⟨b, bs, z2, z4, z5, z6, hb, hl, hbw, rfl⟩
  walk_at "fxj"
  refine wp_cut (BlSt rows B 565 5 wd (k : Nat) way) ?_ ?_
  · walk_at "fxs"
    refine ⟨fun _ => ?_, fun _ => ?_⟩
    · walk_at "fxs"
      refine C ?_
      have l1 := cutG_le bs none (some (k : Int))
      walk_at "fxs"
      refine bop_add_ll (by rw [sizeLine_eq, List.length_map, List.length_singleton]; omega) ?_
      walk_at "fxs"
      refine C ?_
      have l2 := cutG_le bs (some (k : Int)) none
      walk_at "fxs"
      refine bop_cat (by rw [sizeLine_eq, List.length_append, List.length_map, List.length_map, List.length_singleton]; omega) ?_
      walk_at "fxs"
      exact ⟨b, cutG bs none (some (k : Int)) ++ [wd] ++ cutG bs (some (k : Int)) none, z2, z4, z5, z6, hb, by rw [List.length_append, List.length_append, List.length_singleton]; omega, fun w hw => (List.mem_append.mp hw).elim (fun e => (List.mem_append.mp e).elim (fun e => hbw w (cutG_mem e)) fun e => by rw [List.mem_singleton.mp e]; exact hwd) fun e => hbw w (cutG_mem e), by rw [List.map_append, List.map_append]; rfl⟩
    · walk_at "fxs"
      exact ⟨b, bs, _, _, _, _, hb, by omega, hbw, rfl⟩
  clear hl hbw
  rintro ρ ⟨b, bs, z2, z4, z5, z6, hb, hl, hbw, rfl⟩
  walk_at "fxj"
  refine wp_cut (BlSt rows B 565 9 wd (k : Nat) way) ?_ ?_
  · walk_at "fxs"
    refine ⟨fun _ => ?_, fun _ => ?_⟩
    · walk_at "fxs"
      rw [List.length_map]
      refine ⟨fun hc => ?_, fun _ => ?_⟩
      · have hc := of_decide_eq_true hc
        have hkl : k < bs.length := by omega
        obtain ⟨bk, hbk⟩ : ∃ bk, bs[k]? = some bk := ⟨_, List.getElem?_eq_getElem hkl⟩
        have gk : atI (bs.map intsD) (k : Int) = some (intsD bk) := atI_of (by rw [List.getElem?_map, hbk]; rfl)
        have hbl := hbw bk (List.mem_of_getElem? hbk)
        walk_at "fxs"
        refine draw_ok _ hb _ (by omega) (by omega) _ fun q b q1 q2 hb => ?_
        walk_at "nf"; walk_at "fxs"
        refine bop_add_tt (by rw [sizeLine_eq, List.length_map, List.length_singleton]; omega) ?_
        walk_at "fxs"
        refine wp_putL rfl (ixN_nat (k := k) (by rw [List.length_map]; omega) (by rw [List.length_map]; omega)) ?_
        walk_at "fxs"
        refine ⟨b, bs.set k (bk ++ [q]), z2, z4, z5, z6, hb, by rw [List.length_set]; omega, fun w hw => ?_, ?_⟩
        · rcases List.mem_or_eq_of_mem_set hw with e | e
          · have := hbw w e; omega
          · rw [e]; rw [List.length_append, List.length_singleton]; omega
        · rw [List.map_set]
          show _ = [_, _, _, Sl.o (.lst ((bs.map intsD).set k (.tuple ((bk ++ [q]).map .int)))), _, _, _, _, _, _]
          rw [List.map_append]
          rfl
      · walk_at "fxs"
        exact ⟨b, bs, _, _, _, _, hb, by omega, (fun w hw => by have := hbw w hw; omega), rfl⟩
    · walk_at "fxd"
      exact ⟨b, bs, _, _, _, _, hb, by omega, (fun w hw => by have := hbw w hw; omega), rfl⟩
  clear hl hbw
  rintro ρ ⟨b, bs, z2, z4, z5, z6, hb, hl, hbw, rfl⟩
  walk_at "fxj"
  refine wp_cut (BlSt rows B 565 9 wd (k : Nat) way) ?_ ?_
  · walk_at "fxs"
    refine ⟨fun _ => ?_, fun _ => ?_⟩
    · walk_at "fxs"
      rw [List.length_map]
      refine ⟨fun hc => ?_, fun _ => ?_⟩
      · have hc := of_decide_eq_true hc
        have hkl : k < bs.length := by omega
        obtain ⟨bk, hbk⟩ : ∃ bk, bs[k]? = some bk := ⟨_, List.getElem?_eq_getElem hkl⟩
        have gk : atI (bs.map intsD) (k : Int) = some (intsD bk) := atI_of (by rw [List.getElem?_map, hbk]; rfl)
        have hbl := hbw bk (List.mem_of_getElem? hbk)
        walk_at "fxs"
        refine uop_cutT ?_
        rw [cutG_map]
        have l1 := cutG_le bk none (some (-1))
        walk_at "fxs"
        refine wp_putL rfl (ixN_nat (k := k) (by rw [List.length_map]; omega) (by rw [List.length_map]; omega)) ?_
        walk_at "fxs"
        refine ⟨b, bs.set k (cutG bk none (some (-1))), z2, z4, z5, z6, hb, by rw [List.length_set]; omega, fun w hw => ?_, ?_⟩
        · rcases List.mem_or_eq_of_mem_set hw with e | e
          · exact hbw w e
          · rw [e]; omega
        · rw [List.map_set]
          rfl
      · walk_at "fxs"
        exact ⟨b, bs, _, _, _, _, hb, by omega, hbw, rfl⟩
    · walk_at "fxd"
      exact ⟨b, bs, _, _, _, _, hb, by omega, hbw, rfl⟩
  clear hl hbw
  rintro ρ ⟨b, bs, z2, z4, z5, z6, hb, hl, hbw, rfl⟩
  walk_at "fxj"
  refine wp_cut (BlSt rows B 600 9 wd (k : Nat) way) ?_ ?_
  · walk_at "fxs"
    refine ⟨fun _ => ?_, fun _ => ?_⟩
    · walk_at "fxs"
      refine pick_ok _ hb _ (by simp) (by show 3 < 2 ^ 100; decide) _ fun x b hx hb => ?_
      obtain ⟨xi, rfl⟩ : ∃ xi : Int, x = .int xi := by
        simp only [List.mem_cons, List.not_mem_nil, or_false] at hx
        rcases hx with rfl | rfl | rfl <;> exact ⟨_, rfl⟩
      walk_at "nf"; walk_at "fxs"
      refine wp_push rfl (by rw [sizeLine_eq, List.length_map]; omega) ?_
      walk_at "fxs"
      refine ⟨b, bs ++ [[xi]], z2, z4, z5, z6, hb, by rw [List.length_append, List.length_singleton]; omega, fun w hw => ?_, ?_⟩
      · rcases List.mem_append.mp hw with e | e
        · exact hbw w e
        · rw [List.mem_singleton.mp e]; show 1 ≤ 9; decide
      · rw [List.map_append]
        rfl
    · walk_at "fxs"
      exact ⟨b, bs, _, _, _, _, hb, by omega, hbw, rfl⟩
  clear hl hbw
  rintro ρ ⟨b, bs, z2, z4, z5, z6, hb, hl, hbw, rfl⟩
  walk_at "fxs"
  exact h bs b (by omega) hb
end
theorem is_bool_ok (c : Bool) (R : Sl → List Sl → Prop) (h : R (.v (.bool true)) [.u, .u]) : fw m__law_is_bool [.v (.bool c), .v (.bool c)] R := by
  refine u__law_is_bool ?_
  unfold b__law_is_bool
  cases c
  · walk_at "fxd"
    exact h
  · walk_at "fxd"
    exact h
theorem law_true (ns : List Int) (hl : ns.length ≤ 63) : ∃ as, m_law [.s ns] = some (.v (.bool true), as) := by
  suffices h : fw m_law [.s ns] (fun r _ => r = .v (.bool true)) by
    obtain ⟨r, as, h1, rfl⟩ := h
    exact ⟨as, h1⟩
  refine u_law ?_
  unfold b_law
  walk_at "fxs"
  refine begin_ok ns hl _ fun b hb => ?_
  walk_at "nf"; walk_at "fxs"
  refine pool_ok _ ?_
  walk_at "nf"; walk_at "fxs"
  refine draw_ok _ hb _ (by decide) (by decide) _ fun mm b m1 m2 hb => ?_
  obtain ⟨mm, rfl⟩ := Int.eq_ofNat_of_zero_le m1
  walk_at "nf"; walk_at "fxs"
  refine wp_lcT (fun i acc ρ => i ≤ 4 ∧ ∃ (b : Own) (ms ys : List Str), Dst b ∧ acc = ms.map PyData.str ∧ ms.length = i ∧ ys.length + i = 60 ∧ (∀ s ∈ ms, PyData.strOk s = true) ∧ (∀ s ∈ ys, PyData.strOk s = true) ∧ ρ = [.s ns, .o b, .o (.lst (ys.map PyData.str)), .u, .u, .u, .u, .u, .u, .u]) ⟨Nat.zero_le _, b, [], poolL, hb, rfl, rfl, by rw [pool_len], (fun s hs => by cases hs), pool_str, rfl⟩ ?_ ?_
  · rintro i x acc ρ hx - ⟨hi, b, ms, ys, hb, rfl, hml, hyl, hm, hy, rfl⟩
    have hi4 := (rngL_get hx).1
    refine ⟨_, rfl, ?_⟩
    walk_at "fxs"
    refine pop_ok _ hb _ (by intro e; rw [List.map_eq_nil_iff] at e; rw [e] at hyl; have : (0 : Nat) + i = 60 := hyl; omega) (by rw [List.length_map]; omega) _ fun x b zs hx hb hz hzl => ?_
    walk_at "nf"
    obtain ⟨s, hs, rfl⟩ := List.mem_map.mp hx
    obtain ⟨ts, rfl, hts⟩ : ∃ ts : List Str, zs = ts.map PyData.str ∧ ∀ s ∈ ts, s ∈ ys := by
      clear hzl
      induction zs with
      | nil => exact ⟨[], rfl, fun s hs => by cases hs⟩
      | cons z zs ih =>
        obtain ⟨ts, rfl, hw⟩ := ih fun y hy => hz y (List.mem_cons_of_mem _ hy)
        obtain ⟨s, hs, rfl⟩ := List.mem_map.mp (hz z List.mem_cons_self)
        refine ⟨s :: ts, rfl, fun t ht => ?_⟩
        rcases List.mem_cons.mp ht with e | e
        · rw [e]; exact hs
        · exact hw t e
    rw [List.length_map, List.length_map] at hzl
    walk_at "fxs"
    refine ⟨by omega, b, ms ++ [s], ts, hb, by rw [List.map_append]; rfl, by rw [List.length_append, hml]; rfl, by omega, fun t ht => ?_, fun t ht => hy t (hts t ht), rfl⟩
    rcases List.mem_append.mp ht with e | e
    · exact hm t e
    · rw [List.mem_singleton.mp e]; exact hy s hs
  rintro acc ρ hacc ⟨_, b, ms, ys, hb, rfl, hml, hyl, hm, hy, rfl⟩
  rw [rngL_len] at hml
  have hml2 : 2 ≤ ms.length := by omega
  have hml8 : ms.length ≤ 8 := by omega
  refine ⟨lenFit (by rw [List.length_map]; omega), ?_⟩
  walk_at "fxs"
  refine some_chain_ok _ hb ms hml2 hml8 hm _ fun B rows b hC hrl hb => ?_
  walk_at "nf"; walk_at "fxs"
  refine some_watch_ok _ hb ms hml2 hml8 _ fun ws bad b hW hb => ?_
  walk_at "nf"; walk_at "fxs"
  refine spared_ok _ hb hC hW _ fun bad b hW hb => ?_
  walk_at "nf"; walk_at "fxs"
  have hws := hW.len
  refine wp_lcT (fun i acc ρ => ∃ (b : Own) (Ps : List (List (Int × Int))), Dst b ∧ Ps.length = i ∧ (∀ P ∈ Ps, P.length ≤ 1000) ∧ acc = Ps.map prsD ∧ ρ = [.s ns, .o b, .o (.lst (ys.map PyData.str)), .v (.list (ms.map PyData.str)), .v (chD B rows), .v (wtD ws bad), .u, .u, .u, .u]) ⟨b, [], hb, rfl, (fun P hP => by cases hP), rfl, rfl⟩ ?_ ?_
  · rintro i x acc ρ hx - ⟨b, Ps, hb, hPl, hPs, rfl, rfl⟩
    refine ⟨_, rfl, ?_⟩
    walk_at "fxs"
    refine table_ok _ hb hC hW _ fun P b hP hb => ?_
    walk_at "nf"; walk_at "fxs"
    refine ⟨b, Ps ++ [P], hb, by rw [List.length_append, hPl]; rfl, fun Q hQ => ?_, by rw [List.map_append]; rfl, rfl⟩
    rcases List.mem_append.mp hQ with e | e
    · exact hPs Q e
    · rw [List.mem_singleton.mp e]; exact hP
  rintro acc ρ hacc ⟨b, Ps, hb, hPl, hPs, rfl, rfl⟩
  rw [rngL_len] at hPl
  have hPl : Ps.length = 3 := hPl
  refine ⟨lenFit (by rw [List.length_map]; omega), ?_⟩
  walk_at "fxs"
  refine wp_lcT (fun i acc ρ => ∃ (b : Own) (Bs : List (List (List Int))), Dst b ∧ Bs.length = i ∧ (∀ P ∈ Bs, P.length ≤ 1000) ∧ acc = Bs.map blkD ∧ ρ = [.s ns, .o b, .o (.lst (ys.map PyData.str)), .v (.list (ms.map PyData.str)), .v (chD B rows), .v (wtD ws bad), .v (.list (Ps.map prsD)), .u, .u, .u]) ⟨b, [], hb, rfl, (fun P hP => by cases hP), rfl, rfl⟩ ?_ ?_
  · rintro i x acc ρ hx - ⟨b, Bs, hb, hBl, hBs, rfl, rfl⟩
    refine ⟨_, rfl, ?_⟩
    walk_at "fxs"
    refine blocks_ok _ hb hC _ fun P b hP hb => ?_
    walk_at "nf"; walk_at "fxs"
    refine ⟨b, Bs ++ [P], hb, by rw [List.length_append, hBl]; rfl, fun Q hQ => ?_, by rw [List.map_append]; rfl, rfl⟩
    rcases List.mem_append.mp hQ with e | e
    · exact hBs Q e
    · rw [List.mem_singleton.mp e]; exact hP
  rintro acc ρ hacc ⟨b, Bs, hb, hBl, hBs, rfl, rfl⟩
  rw [rngL_len] at hBl
  have hBl : Bs.length = 3 := hBl
  refine ⟨lenFit (by rw [List.length_map]; omega), ?_⟩
  walk_at "fxs"
  refine wp_forL (fun i ρ => ∃ z8 z9, ρ = [.s ns, .o b, .o (.lst (ys.map PyData.str)), .v (.list (ms.map PyData.str)), .v (chD B rows), .v (wtD ws bad), .v (.list (Ps.map prsD)), .v (.list (Bs.map blkD)), z8, z9]) ⟨_, _, rfl⟩ ?_ ?_
  · rintro i x ρ hx ⟨z8, z9, rfl⟩
    refine ⟨_, rfl, ?_⟩
    walk_at "fxs"
    refine wp_forL (fun j ρ => ∃ z9, ρ = [.s ns, .o b, .o (.lst (ys.map PyData.str)), .v (.list (ms.map PyData.str)), .v (chD B rows), .v (wtD ws bad), .v (.list (Ps.map prsD)), .v (.list (Bs.map blkD)), .v x, z9]) ⟨_, rfl⟩ ?_ ?_
    · rintro j y ρ hy ⟨z9, rfl⟩
      obtain ⟨hj, rfl⟩ := rngL_get hy
      have hj : j < 3 := hj
      rw [Int.zero_add]
      obtain ⟨P, hP⟩ : ∃ P, Ps[j]? = some P := ⟨_, List.getElem?_eq_getElem (by omega)⟩
      obtain ⟨K, hK⟩ : ∃ K, Bs[j]? = some K := ⟨_, List.getElem?_eq_getElem (by omega)⟩
      have g1 : atI (Ps.map prsD) (j : Int) = some (prsD P) := atI_of (by rw [List.getElem?_map, hP]; rfl)
      have g2 : atI (Bs.map blkD) (j : Int) = some (blkD K) := atI_of (by rw [List.getElem?_map, hK]; rfl)
      have hPk := hPs P (List.mem_of_getElem? hP)
      have hKk := hBs K (List.mem_of_getElem? hK)
      refine ⟨_, rfl, ?_⟩
      walk_at "fxs"
      refine judge_holds_ok (by omega) (by omega) hPk _ ?_
      walk_at "nf"; walk_at "fxs"
      refine law_closed_ok (by omega) (by omega) hPk _ ?_
      walk_at "nf"; walk_at "fxs"
      refine is_bool_ok _ _ ?_
      walk_at "nf"; walk_at "fxd"
      refine judge_breaks_ok hC hW hKk _ ?_
      walk_at "nf"; walk_at "fxs"
      refine law_broken_ok hC hW hKk _ ?_
      walk_at "nf"; walk_at "fxs"
      refine is_bool_ok _ _ ?_
      walk_at "nf"; walk_at "fxd"
      exact ⟨_, rfl⟩
    · rintro ρ ⟨z9, rfl⟩
      exact ⟨_, _, rfl⟩
  · rintro ρ ⟨z8, z9, rfl⟩
    walk_at "fxs"
    rfl
end K75
end
namespace K75
open PySem PySem.Spec PyProof.Rows L2 Fx
def topS (i : Nat) : Stmt := PySem.Challenge.pw_meantrace_k75_claims_judged.main.body.getD i (.Pass ⟨0, 0, 0, 0⟩)
abbrev s_branch_with : Stmt := topS 1
abbrev N_branch_with : List Str := ["row", "block", "branch"]
theorem sc_branch_with : FnScope N_branch_with ["row", "block"] (defScope s_branch_with) := ⟨rfl, rfl, rfl, by decide +kernel, rfl, by decide +kernel, by decide +kernel⟩
abbrev s_next_place : Stmt := topS 4
abbrev N_next_place : List Str := ["watch", "now", "shown", "row", "mark", "to"]
theorem sc_next_place : FnScope N_next_place ["watch", "now", "shown"] (defScope s_next_place) := ⟨rfl, rfl, rfl, by decide +kernel, rfl, by decide +kernel, by decide +kernel⟩
abbrev s__law_begin : Stmt := topS 9
abbrev N__law_begin : List Str := ["script", "cell"]
theorem sc__law_begin : FnScope N__law_begin ["script"] (defScope s__law_begin) := ⟨rfl, rfl, rfl, by decide +kernel, rfl, by decide +kernel, by decide +kernel⟩
abbrev s__law_draw : Stmt := topS 10
abbrev N__law_draw : List Str := ["d", "many", "found", "size", "cell"]
theorem sc__law_draw : FnScope N__law_draw ["d", "many"] (defScope s__law_draw) := ⟨rfl, rfl, rfl, by decide +kernel, rfl, by decide +kernel, by decide +kernel⟩
abbrev s__law_pool : Stmt := topS 15
abbrev N__law_pool : List Str := ["text"]
theorem sc__law_pool : FnScope N__law_pool [] (defScope s__law_pool) := ⟨rfl, rfl, rfl, by decide +kernel, rfl, by decide +kernel, by decide +kernel⟩
abbrev s__law_watch_step : Stmt := topS 17
abbrev N__law_watch_step : List Str := ["watch", "state", "shown", "mark", "to"]
theorem sc__law_watch_step : FnScope N__law_watch_step ["watch", "state", "shown"] (defScope s__law_watch_step) := ⟨rfl, rfl, rfl, by decide +kernel, rfl, by decide +kernel, by decide +kernel⟩
abbrev s__law_is_bool : Stmt := topS 26
abbrev N__law_is_bool : List Str := ["told", "due"]
theorem sc__law_is_bool : FnScope N__law_is_bool ["told", "due"] (defScope s__law_is_bool) := ⟨rfl, rfl, rfl, by decide +kernel, rfl, by decide +kernel, by decide +kernel⟩
abbrev s_branches_along : Stmt := topS 2
abbrev N_branches_along : List Str := ["chain", "start", "blocks", "found", "now", "block", "branch"]
theorem sc_branches_along : FnScope N_branches_along ["chain", "start", "blocks"] (defScope s_branches_along) := ⟨rfl, rfl, rfl, by decide +kernel, rfl, by decide +kernel, by decide +kernel⟩
abbrev s_judge_holds : Stmt := topS 6
abbrev N_judge_holds : List Str := ["chain", "watch", "pairs", "known", "state", "now", "digits", "shown", "to", "pair"]
theorem sc_judge_holds : FnScope N_judge_holds ["chain", "watch", "pairs"] (defScope s_judge_holds) := ⟨rfl, rfl, rfl, by decide +kernel, rfl, by decide +kernel, by decide +kernel⟩
abbrev s__law_pick : Stmt := topS 11
abbrev N__law_pick : List Str := ["d", "row"]
theorem sc__law_pick : FnScope N__law_pick ["d", "row"] (defScope s__law_pick) := ⟨rfl, rfl, rfl, by decide +kernel, rfl, by decide +kernel, by decide +kernel⟩
abbrev s__law_pop : Stmt := topS 12
abbrev N__law_pop : List Str := ["d", "row"]
theorem sc__law_pop : FnScope N__law_pop ["d", "row"] (defScope s__law_pop) := ⟨rfl, rfl, rfl, by decide +kernel, rfl, by decide +kernel, by decide +kernel⟩
abbrev s__law_rare : Stmt := topS 13
abbrev N__law_rare : List Str := ["d", "many"]
theorem sc__law_rare : FnScope N__law_rare ["d", "many"] (defScope s__law_rare) := ⟨rfl, rfl, rfl, by decide +kernel, rfl, by decide +kernel, by decide +kernel⟩
abbrev s__law_shuffled : Stmt := topS 14
abbrev N__law_shuffled : List Str := ["d", "row", "left", "found", "k"]
theorem sc__law_shuffled : FnScope N__law_shuffled ["d", "row"] (defScope s__law_shuffled) := ⟨rfl, rfl, rfl, by decide +kernel, rfl, by decide +kernel, by decide +kernel⟩
abbrev s__law_words : Stmt := topS 16
abbrev N__law_words : List Str := ["d", "base", "many", "words", "k", "at", "word", "digit"]
theorem sc__law_words : FnScope N__law_words ["d", "base", "many"] (defScope s__law_words) := ⟨rfl, rfl, rfl, by decide +kernel, rfl, by decide +kernel, by decide +kernel⟩
abbrev s__law_met_pairs : Stmt := topS 24
abbrev N__law_met_pairs : List Str := ["chain", "watch", "starts", "found", "known", "pair", "k", "state", "here", "digits", "shown", "there"]
theorem sc__law_met_pairs : FnScope N__law_met_pairs ["chain", "watch", "starts"] (defScope s__law_met_pairs) := ⟨rfl, rfl, rfl, by decide +kernel, rfl, by decide +kernel, by decide +kernel⟩
abbrev s__law_closed : Stmt := topS 27
abbrev N__law_closed : List Str := ["chain", "watch", "pairs", "known", "pair", "state", "here", "digits", "shown", "there"]
theorem sc__law_closed : FnScope N__law_closed ["chain", "watch", "pairs"] (defScope s__law_closed) := ⟨rfl, rfl, rfl, by decide +kernel, rfl, by decide +kernel, by decide +kernel⟩
abbrev s__law_broken_by : Stmt := topS 28
abbrev N__law_broken_by : List Str := ["chain", "watch", "blocks", "state", "here", "fell", "block", "found", "branch"]
theorem sc__law_broken_by : FnScope N__law_broken_by ["chain", "watch", "blocks"] (defScope s__law_broken_by) := ⟨rfl, rfl, rfl, by decide +kernel, rfl, by decide +kernel, by decide +kernel⟩
abbrev s_judge_breaks : Stmt := topS 7
abbrev N_judge_breaks : List Str := ["chain", "watch", "blocks", "branches", "now", "fell", "digits", "shown", "to"]
theorem sc_judge_breaks : FnScope N_judge_breaks ["chain", "watch", "blocks"] (defScope s_judge_breaks) := ⟨rfl, rfl, rfl, by decide +kernel, rfl, by decide +kernel, by decide +kernel⟩
abbrev s__law_drawn_watch : Stmt := topS 18
abbrev N__law_drawn_watch : List Str := ["d", "marks", "many", "rows", "k", "left", "row", "most", "j", "share", "bad"]
theorem sc__law_drawn_watch : FnScope N__law_drawn_watch ["d", "marks", "many"] (defScope s__law_drawn_watch) := ⟨rfl, rfl, rfl, by decide +kernel, rfl, by decide +kernel, by decide +kernel⟩
abbrev s__law_ladder : Stmt := topS 20
abbrev N__law_ladder : List Str := ["d", "base", "states", "marks", "rows", "s", "words", "up", "row", "k", "shown", "there"]
theorem sc__law_ladder : FnScope N__law_ladder ["d", "base", "states", "marks"] (defScope s__law_ladder) := ⟨rfl, rfl, rfl, by decide +kernel, rfl, by decide +kernel, by decide +kernel⟩
abbrev s__law_wide_shown : Stmt := topS 21
abbrev N__law_wide_shown : List Str := ["d", "marks", "k"]
theorem sc__law_wide_shown : FnScope N__law_wide_shown ["d", "marks"] (defScope s__law_wide_shown) := ⟨rfl, rfl, rfl, by decide +kernel, rfl, by decide +kernel, by decide +kernel⟩
abbrev s__law_spared : Stmt := topS 25
abbrev N__law_spared : List Str := ["d", "chain", "watch", "met", "pair", "one"]
theorem sc__law_spared : FnScope N__law_spared ["d", "chain", "watch"] (defScope s__law_spared) := ⟨rfl, rfl, rfl, by decide +kernel, rfl, by decide +kernel, by decide +kernel⟩
abbrev s__law_table : Stmt := topS 29
abbrev N__law_table : List Str := ["d", "chain", "watch", "many", "size", "drawn", "starts", "pairs", "s", "way", "k"]
theorem sc__law_table : FnScope N__law_table ["d", "chain", "watch"] (defScope s__law_table) := ⟨rfl, rfl, rfl, by decide +kernel, rfl, by decide +kernel, by decide +kernel⟩
abbrev s__law_blocks : Stmt := topS 30
abbrev N__law_blocks : List Str := ["d", "chain", "state", "blocks", "step", "digits", "shown", "way", "k", "word"]
theorem sc__law_blocks : FnScope N__law_blocks ["d", "chain"] (defScope s__law_blocks) := ⟨rfl, rfl, rfl, by decide +kernel, rfl, by decide +kernel, by decide +kernel⟩
abbrev s__law_some_watch : Stmt := topS 19
abbrev N__law_some_watch : List Str := ["d", "marks", "most", "way", "one", "other", "n", "steps", "k"]
theorem sc__law_some_watch : FnScope N__law_some_watch ["d", "marks", "most"] (defScope s__law_some_watch) := ⟨rfl, rfl, rfl, by decide +kernel, rfl, by decide +kernel, by decide +kernel⟩
abbrev s__law_wide_chain : Stmt := topS 22
abbrev N__law_wide_chain : List Str := ["d", "base", "states", "marks", "rows", "s", "row", "word"]
theorem sc__law_wide_chain : FnScope N__law_wide_chain ["d", "base", "states", "marks"] (defScope s__law_wide_chain) := ⟨rfl, rfl, rfl, by decide +kernel, rfl, by decide +kernel, by decide +kernel⟩
abbrev s__law_some_chain : Stmt := topS 23
abbrev N__law_some_chain : List Str := ["d", "marks", "most", "base", "states"]
theorem sc__law_some_chain : FnScope N__law_some_chain ["d", "marks", "most"] (defScope s__law_some_chain) := ⟨rfl, rfl, rfl, by decide +kernel, rfl, by decide +kernel, by decide +kernel⟩
abbrev s_law : Stmt := topS 31
abbrev N_law : List Str := ["script", "d", "names", "marks", "chain", "watch", "tables", "rows", "turn", "k"]
theorem sc_law : FnScope N_law ["script"] (defScope s_law) := ⟨rfl, rfl, rfl, by decide +kernel, rfl, by decide +kernel, by decide +kernel⟩
section
variable [wd : Wd] {P : Program} {K : Kf} {mg : Str → Option Value} {base : Heap}
set_option maxHeartbeats 4000000 in
theorem df_branch_with (T : Tp K mg "branch_with" s_branch_with) : Df P Wd.w K mg base 1 "branch_with" 2 m_branch_with :=
  df_mk T sc_branch_with rfl rfl (by decide) (fun _ _ _ _ _ _ us hl => match us, hl with | [_, _], _ => rfl) (fun f cdv A outer s H E hr => ss_cons (s_for PassesOwn.never rfl (i_seq (v_name 0)) (g_name 2 (by decide) sc_branch_with.nd rfl (.inl rfl)) (ss_one (s_if (t_eq hr.units (b_val (v_ix hr.units (b_name 2) (b_val (v_int)))) (b_name 1)) (ss_one (s_ret (v_name 2))) (ss_nil)))) (ss_one (s_ret (v_non))))
set_option maxHeartbeats 4000000 in
theorem df_next_place (T : Tp K mg "next_place" s_next_place) : Df P Wd.w K mg base 1 "next_place" 3 m_next_place :=
  df_mk T sc_next_place rfl rfl (by decide) (fun _ _ _ _ _ _ us hl => match us, hl with | [_, _, _], _ => rfl) (fun f cdv A outer s H E hr => ss_cons (s_set 3 (by decide) sc_next_place.nd rfl (.inl rfl) (v_ix hr.units (b_val (v_ix hr.units (b_name 0) (b_val (v_int)))) (b_name 1))) (ss_cons (s_for PassesOwn.never rfl (i_seq (v_sl (b_name 3) (o_none) (o_some (v_neg (v_int))))) (g_tup rfl (gs_cons (g_name 4 (by decide) sc_next_place.nd rfl (.inl rfl)) (gs_cons (g_name 5 (by decide) sc_next_place.nd rfl (.inl rfl)) (gs_nil)))) (ss_one (s_if (t_in hr.units (b_name 4) (b_name 2)) (ss_one (s_ret (v_name 5))) (ss_nil)))) (ss_one (s_ret (v_ix hr.units (b_val (v_ix hr.units (b_name 3) (b_val (v_neg (v_int))))) (b_val (v_int)))))))
set_option maxHeartbeats 4000000 in
theorem df__law_begin (T : Tp K mg "_law_begin" s__law_begin) (z_int : mg "int" = none) : Df P Wd.w K mg base 1 "_law_begin" 1 m__law_begin :=
  df_mk T sc__law_begin rfl rfl (by decide) (fun _ _ _ _ _ _ us hl => match us, hl with | [_], _ => rfl) (fun f cdv A outer s H E hr => ss_one (s_retN (n_lst (a_cons (v_new (n_lc (n := 2) (vs := [1]) [("cell", 1)] rfl rfl rfl sc__law_begin.nd (i_scr 0) (blkOk_by (N := N__law_begin) (sc := defScope s__law_begin) (by decide +kernel)) (fun _ _ _ _ _ => g_name 1 (by decide +kernel) sc__law_begin.nd rfl (.inl rfl)) (fun _ _ _ _ _ => ts_nil) (fun _ _ _ _ _ => v_t1 call_int1 cbd_int (by rfl) z_int boot_int (b_name 1)))) (a_cons (v_int) (a_cons (v_int) (a_cons (v_int) (a_nil))))))))
set_option maxHeartbeats 4000000 in
theorem df__law_draw (T : Tp K mg "_law_draw" s__law_draw) (z_abs : mg "abs" = none) (z_int : mg "int" = none) (z_len : mg "len" = none) : Df P Wd.w K mg base 1 "_law_draw" 2 m__law_draw :=
  df_mk T sc__law_draw rfl rfl (by decide) (fun _ _ _ _ _ _ us hl => match us, hl with | [_, _], _ => rfl) (fun f cdv A outer s H E hr => ss_cons (s_if (t_gt (b_val (v_ix hr.units (b_name 0) (b_val (v_int)))) (b_val (v_int))) (ss_cons (s_set 2 (by decide) sc__law_draw.nd rfl (.inl rfl) (v_ix hr.units (b_name 0) (b_val (v_int)))) (ss_cons (s_setIt 0 hr.units (v_fdiv (b_name 2) (b_name 1)) (v_int)) (ss_one (s_ret (v_mod (b_val (v_t1 call_int1 cbd_int (by rfl) z_int boot_int (b_name 2))) (b_name 1)))))) (ss_nil)) (ss_cons (s_set 3 (by decide) sc__law_draw.nd rfl (.inl rfl) (v_int)) (ss_cons (s_if (t_lt (b_val (v_ix hr.units (b_name 0) (b_val (v_int)))) (b_val (v_b1 call_lenG (cbd_len rfl) (by rfl) z_len PySem.boot_len (b_val (v_ix hr.units (b_name 0) (b_val (v_int))))))) (ss_cons (s_set 4 (by decide) sc__law_draw.nd rfl (.inl rfl) (v_ix hr.units (b_val (v_ix hr.units (b_name 0) (b_val (v_int)))) (b_val (v_ix hr.units (b_name 0) (b_val (v_int)))))) (ss_one (s_set 3 (by decide) sc__law_draw.nd rfl (.inl rfl) (v_add (b_val (v_mul (b_val (v_int)) (b_val (v_b1 call_abs cbd_abs (by rfl) z_abs boot_abs (b_name 4))))) (b_val (v_t1 call_int1 cbd_int (by rfl) z_int boot_int (b_val (v_lt (b_name 4) (b_val (v_int)))))))))) (ss_nil)) (ss_cons (s_augIt 0 hr.units (v_int) (v_int) ip_add) (ss_cons (s_if (t_ge (b_name 3) (b_val (v_mul (b_val (v_int)) (b_val (v_pow (b_val (v_int)) (b_val (v_int))))))) (ss_cons (s_set 2 (by decide) sc__law_draw.nd rfl (.inl rfl) (v_mod (b_val (v_t1 call_int1 cbd_int (by rfl) z_int boot_int (b_val (v_fdiv (b_name 3) (b_val (v_int)))))) (b_val (v_shl (b_val (v_int)) (b_val (v_int)))))) (ss_cons (s_setIt 0 hr.units (v_fdiv (b_name 2) (b_name 1)) (v_int)) (ss_one (s_ret (v_mod (b_val (v_t1 call_int1 cbd_int (by rfl) z_int boot_int (b_name 2))) (b_name 1)))))) (ss_nil)) (ss_cons (s_setIt 0 hr.units (v_mod (b_val (v_t1 call_int1 cbd_int (by rfl) z_int boot_int (b_val (v_add (b_val (v_add (b_val (v_add (b_val (v_mul (b_val (v_ix hr.units (b_name 0) (b_val (v_int)))) (b_val (v_int)))) (b_val (v_mul (b_val (v_mod (b_val (v_t1 call_int1 cbd_int (by rfl) z_int boot_int (b_name 3))) (b_val (v_int)))) (b_val (v_int)))))) (b_val (v_mul (b_val (v_ix hr.units (b_name 0) (b_val (v_int)))) (b_val (v_int)))))) (b_val (v_int)))))) (b_val (v_int))) (v_int)) (ss_one (s_ret (v_mod (b_val (v_t1 call_int1 cbd_int (by rfl) z_int boot_int (b_val (v_fdiv (b_val (v_ix hr.units (b_name 0) (b_val (v_int)))) (b_val (v_int)))))) (b_name 1))))))))))
set_option maxHeartbeats 4000000 in
theorem df__law_pool (T : Tp K mg "_law_pool" s__law_pool) : Df P Wd.w K mg base 1 "_law_pool" 0 m__law_pool :=
  df_mk T sc__law_pool rfl rfl (by decide) (fun _ _ _ _ _ _ us hl => match us, hl with | [], _ => rfl) (fun f cdv A outer s H E hr => ss_cons (s_set 0 (by decide) sc__law_pool.nd rfl (.inl rfl) (v_str)) (ss_cons (s_set 0 (by decide) sc__law_pool.nd rfl (.inl rfl) (v_add (b_name 0) (b_val (v_str)))) (ss_one (s_retN (n_split (b_val (v_add (b_name 0) (b_val (v_str)))) (b_val (v_str)))))))
set_option maxHeartbeats 4000000 in
theorem df__law_watch_step (T : Tp K mg "_law_watch_step" s__law_watch_step) : Df P Wd.w K mg base 1 "_law_watch_step" 3 m__law_watch_step :=
  df_mk T sc__law_watch_step rfl rfl (by decide) (fun _ _ _ _ _ _ us hl => match us, hl with | [_, _, _], _ => rfl) (fun f cdv A outer s H E hr => ss_cons (s_for PassesOwn.never rfl (i_seq (v_ix hr.units (b_val (v_ix hr.units (b_name 0) (b_val (v_int)))) (b_name 1))) (g_tup rfl (gs_cons (g_name 3 (by decide) sc__law_watch_step.nd rfl (.inl rfl)) (gs_cons (g_name 4 (by decide) sc__law_watch_step.nd rfl (.inl rfl)) (gs_nil)))) (ss_one (s_if (t_w (w_or (t_isN (b_name 3) (b_val (v_non))) (w_or1 (t_in hr.units (b_name 3) (b_name 2))))) (ss_one (s_ret (v_name 4))) (ss_nil)))) (ss_one (s_ret (v_name 1))))
set_option maxHeartbeats 4000000 in
theorem df__law_is_bool (T : Tp K mg "_law_is_bool" s__law_is_bool) (z_bool : mg "bool" = none) (z_isinstance : mg "isinstance" = none) : Df P Wd.w K mg base 1 "_law_is_bool" 2 m__law_is_bool :=
  df_mk T sc__law_is_bool rfl rfl (by decide) (fun _ _ _ _ _ _ us hl => match us, hl with | [_, _], _ => rfl) (fun f cdv A outer s H E hr => ss_one (s_ret (v_and (v_isi (T := "bool") (by decide) (by rfl) z_isinstance (by rfl) z_bool (by decide +kernel) (b_name 0)) (v_one (v_bool (v_eq hr.units (b_name 0) (b_name 1)))))))
set_option maxHeartbeats 4000000 in
theorem df_branches_along (T : Tp K mg "branches_along" s_branches_along) (D_branch_with : Df P Wd.w K mg base 1 "branch_with" 2 m_branch_with) : Df P Wd.w K mg base 2 "branches_along" 3 m_branches_along :=
  df_mk T sc_branches_along rfl rfl (by decide) (fun _ _ _ _ _ _ us hl => match us, hl with | [_, _, _], _ => rfl) (fun f cdv A outer s H E hr => ss_cons (s_setN 3 (by decide) sc_branches_along.nd rfl (.inl rfl) (n_lst (a_nil))) (ss_cons (s_set 4 (by decide) sc_branches_along.nd rfl (.inl rfl) (v_name 1)) (ss_cons (s_for PassesOwn.never rfl (i_seq (v_name 2)) (g_name 5 (by decide) sc_branches_along.nd rfl (.inl rfl)) (ss_cons (s_set 6 (by decide) sc_branches_along.nd rfl (.inl rfl) (v_call D_branch_with hr (by rfl) (c_cons (b_val (v_ix hr.units (b_val (v_ix hr.units (b_name 0) (b_val (v_int)))) (b_name 4))) (c_cons (b_val (v_name 5)) (c_nil))))) (ss_cons (s_if (t_isN (b_name 6) (b_val (v_non))) (ss_one (s_ret (v_non))) (ss_nil)) (ss_cons (s_expr (v_app 3 (v_name 6))) (ss_one (s_set 4 (by decide) sc_branches_along.nd rfl (.inl rfl) (v_ix hr.units (b_name 6) (b_val (v_int))))))))) (ss_one (s_ret (v_name 3))))))
set_option maxHeartbeats 4000000 in
theorem df_judge_holds (T : Tp K mg "judge_holds" s_judge_holds) (z_len : mg "len" = none) (D_next_place : Df P Wd.w K mg base 1 "next_place" 3 m_next_place) : Df P Wd.w K mg base 2 "judge_holds" 3 m_judge_holds :=
  df_mk T sc_judge_holds rfl rfl (by decide) (fun _ _ _ _ _ _ us hl => match us, hl with | [_, _, _], _ => rfl) (fun f cdv A outer s H E hr => ss_cons (s_setDcN 3 (n := 10) (vs := [9]) (by decide) [("pair", 9)] rfl rfl hr.units rfl sc_judge_holds.nd rfl rfl (swD_true rfl rfl rfl (by decide +kernel)) (i_seq (v_name 2)) (blkOk_by (N := N_judge_holds) (sc := defScope s_judge_holds) (by decide +kernel)) (fun _ _ _ _ _ => g_name 9 (by decide +kernel) sc_judge_holds.nd rfl (.inl rfl)) (fun _ _ _ _ _ => ts_nil) (fun _ _ _ _ _ => v_name 9) (fun _ _ _ _ _ => v_bl)) (ss_cons (s_for PassesOwn.never rfl (i_seq (v_name 2)) (g_tup rfl (gs_cons (g_name 4 (by decide) sc_judge_holds.nd rfl (.inl rfl)) (gs_cons (g_name 5 (by decide) sc_judge_holds.nd rfl (.inl rfl)) (gs_nil)))) (ss_cons (s_if (t_w (w_or (t_not (t_chain op_le op_lt (v_int) (v_name 4) (v_b1 call_lenG (cbd_len rfl) (by rfl) z_len PySem.boot_len (b_val (v_ix hr.units (b_name 0) (b_val (v_int))))))) (w_or (t_not (t_chain op_le op_lt (v_int) (v_name 5) (v_b1 call_lenG (cbd_len rfl) (by rfl) z_len PySem.boot_len (b_val (v_ix hr.units (b_name 1) (b_val (v_int))))))) (w_or1 (t_in hr.units (b_name 5) (b_val (v_ix hr.units (b_name 1) (b_val (v_int))))))))) (ss_one (s_ret (v_bl))) (ss_nil)) (ss_one (s_for PassesOwn.never rfl (i_seq (v_ix hr.units (b_val (v_ix hr.units (b_name 0) (b_val (v_int)))) (b_name 4))) (g_tup rfl (gs_cons (g_name 6 (by decide) sc_judge_holds.nd rfl (.inl rfl)) (gs_cons (g_name 7 (by decide) sc_judge_holds.nd rfl (.inl rfl)) (gs_cons (g_name 8 (by decide) sc_judge_holds.nd rfl (.inl rfl)) (gs_nil))))) (ss_one (s_if (t_notin hr.units (b_val (v_tup (a_cons (v_name 8) (a_cons (v_call D_next_place hr (by rfl) (c_cons (b_val (v_name 1)) (c_cons (b_val (v_name 5)) (c_cons (b_val (v_name 7)) (c_nil))))) (a_nil))))) (b_name 3)) (ss_one (s_ret (v_bl))) (ss_nil))))))) (ss_one (s_ret (v_in hr.units (b_val (v_tup (a_cons (v_int) (a_cons (v_int) (a_nil))))) (b_name 3))))))
set_option maxHeartbeats 4000000 in
theorem df__law_pick (T : Tp K mg "_law_pick" s__law_pick) (z_len : mg "len" = none) (D__law_draw : Df P Wd.w K mg base 1 "_law_draw" 2 m__law_draw) : Df P Wd.w K mg base 2 "_law_pick" 2 m__law_pick :=
  df_mk T sc__law_pick rfl rfl (by decide) (fun _ _ _ _ _ _ us hl => match us, hl with | [_, _], _ => rfl) (fun f cdv A outer s H E hr => ss_one (s_ret (v_ix hr.units (b_name 1) (b_val (v_call D__law_draw hr (by rfl) (c_cons (b_arg 0) (c_cons (b_val (v_b1 call_lenG (cbd_len rfl) (by rfl) z_len PySem.boot_len (b_name 1))) (c_nil))))))))
set_option maxHeartbeats 4000000 in
theorem df__law_pop (T : Tp K mg "_law_pop" s__law_pop) (z_len : mg "len" = none) (D__law_draw : Df P Wd.w K mg base 1 "_law_draw" 2 m__law_draw) : Df P Wd.w K mg base 2 "_law_pop" 2 m__law_pop :=
  df_mk T sc__law_pop rfl rfl (by decide) (fun _ _ _ _ _ _ us hl => match us, hl with | [_, _], _ => rfl) (fun f cdv A outer s H E hr => ss_one (s_ret (v_popAt 1 (v_call D__law_draw hr (by rfl) (c_cons (b_arg 0) (c_cons (b_val (v_b1 call_lenG (cbd_len rfl) (by rfl) z_len PySem.boot_len (b_name 1))) (c_nil)))))))
set_option maxHeartbeats 4000000 in
theorem df__law_rare (T : Tp K mg "_law_rare" s__law_rare) (D__law_draw : Df P Wd.w K mg base 1 "_law_draw" 2 m__law_draw) : Df P Wd.w K mg base 2 "_law_rare" 2 m__law_rare :=
  df_mk T sc__law_rare rfl rfl (by decide) (fun _ _ _ _ _ _ us hl => match us, hl with | [_, _], _ => rfl) (fun f cdv A outer s H E hr => ss_one (s_ret (v_eq hr.units (b_val (v_call D__law_draw hr (by rfl) (c_cons (b_arg 0) (c_cons (b_val (v_name 1)) (c_nil))))) (b_val (v_fdiv (b_name 1) (b_val (v_int)))))))
set_option maxHeartbeats 4000000 in
theorem df__law_shuffled (T : Tp K mg "_law_shuffled" s__law_shuffled) (z_len : mg "len" = none) (z_list : mg "list" = none) (z_range : mg "range" = none) (D__law_draw : Df P Wd.w K mg base 1 "_law_draw" 2 m__law_draw) : Df P Wd.w K mg base 2 "_law_shuffled" 2 m__law_shuffled :=
  df_mk T sc__law_shuffled rfl rfl (by decide) (fun _ _ _ _ _ _ us hl => match us, hl with | [_, _], _ => rfl) (fun f cdv A outer s H E hr => ss_cons (s_setN 2 (by decide) sc__law_shuffled.nd rfl (.inl rfl) (n_t1 call_list_of cbn_list (by rfl) z_list boot_list (b_name 1))) (ss_cons (s_setN 3 (by decide) sc__law_shuffled.nd rfl (.inl rfl) (n_lst (a_nil))) (ss_cons (s_for PassesOwn.never rfl (i_rng1 (by rfl) z_range (a_cons (v_b1 call_lenG (cbd_len rfl) (by rfl) z_len PySem.boot_len (b_name 2)) (a_nil))) (g_name 4 (by decide) sc__law_shuffled.nd rfl (.inl rfl)) (ss_one (s_expr (v_app 3 (v_popAt 2 (v_call D__law_draw hr (by rfl) (c_cons (b_arg 0) (c_cons (b_val (v_b1 call_lenG (cbd_len rfl) (by rfl) z_len PySem.boot_len (b_name 2))) (c_nil))))))))) (ss_one (s_retO 3)))))
set_option maxHeartbeats 4000000 in
theorem df__law_words (T : Tp K mg "_law_words" s__law_words) (z_len : mg "len" = none) (z_range : mg "range" = none) (z_sorted : mg "sorted" = none) (D__law_draw : Df P Wd.w K mg base 1 "_law_draw" 2 m__law_draw) : Df P Wd.w K mg base 2 "_law_words" 3 m__law_words :=
  df_mk T sc__law_words rfl rfl (by decide) (fun _ _ _ _ _ _ us hl => match us, hl with | [_, _, _], _ => rfl) (fun f cdv A outer s H E hr => ss_cons (s_setN 3 (by decide) sc__law_words.nd rfl (.inl rfl) (n_lst (a_cons (v_tup (a_nil)) (a_nil)))) (ss_cons (s_for PassesOwn.never rfl (i_rng1 (by rfl) z_range (a_cons (v_name 2) (a_nil))) (g_name 4 (by decide) sc__law_words.nd rfl (.inl rfl)) (ss_cons (s_set 5 (by decide) sc__law_words.nd rfl (.inl rfl) (v_call D__law_draw hr (by rfl) (c_cons (b_arg 0) (c_cons (b_val (v_b1 call_lenG (cbd_len rfl) (by rfl) z_len PySem.boot_len (b_name 3))) (c_nil))))) (ss_one (s_if (t_lt (b_val (v_b1 call_lenG (cbd_len rfl) (by rfl) z_len PySem.boot_len (b_val (v_ix hr.units (b_name 3) (b_name 5))))) (b_val (v_int))) (ss_cons (s_set 6 (by decide) sc__law_words.nd rfl (.inr rfl) (v_popAt 3 (v_name 5))) (ss_one (s_setN 3 (by decide) sc__law_words.nd rfl (.inl rfl) (n_cat (b_name 3) (b_val (v_new (n_lc (n := 8) (vs := [7]) [("digit", 7)] rfl rfl rfl sc__law_words.nd (i_rng1 (by rfl) z_range (a_cons (v_name 1) (a_nil))) (blkOk_by (N := N__law_words) (sc := defScope s__law_words) (by decide +kernel)) (fun _ _ _ _ _ => g_name 7 (by decide +kernel) sc__law_words.nd rfl (.inl rfl)) (fun _ _ _ _ _ => ts_nil) (fun _ _ _ _ _ => v_add (b_name 6) (b_val (v_tup (a_cons (v_name 7) (a_nil)))))))))))) (ss_nil))))) (ss_one (s_ret (v_new (n_sorted rfl (Fx.Room.un70 hr) (by rfl) z_sorted (b_name 3)))))))
set_option maxHeartbeats 4000000 in
theorem df__law_met_pairs (T : Tp K mg "_law_met_pairs" s__law_met_pairs) (z_len : mg "len" = none) (D__law_watch_step : Df P Wd.w K mg base 1 "_law_watch_step" 3 m__law_watch_step) : Df P Wd.w K mg base 2 "_law_met_pairs" 3 m__law_met_pairs :=
  df_mk T sc__law_met_pairs rfl rfl (by decide) (fun _ _ _ _ _ _ us hl => match us, hl with | [_, _, _], _ => rfl) (fun f cdv A outer s H E hr => ss_cons (s_setN 3 (by decide) sc__law_met_pairs.nd rfl (.inl rfl) (n_lst (a_nil))) (ss_cons (s_setN 4 (by decide) sc__law_met_pairs.nd rfl (.inl rfl) (n_newD)) (ss_cons (s_for PassesOwn.never rfl (i_seq (v_name 2)) (g_name 5 (by decide) sc__law_met_pairs.nd rfl (.inl rfl)) (ss_one (s_if (t_notin hr.units (b_name 5) (b_name 4)) (ss_cons (s_setIt 4 hr.units (v_bl) (v_name 5)) (ss_one (s_expr (v_app 3 (v_name 5))))) (ss_nil)))) (ss_cons (s_set 6 (by decide) sc__law_met_pairs.nd rfl (.inl rfl) (v_int)) (ss_cons (s_while PassesOwn.never (t_lt (b_name 6) (b_val (v_b1 call_lenG (cbd_len rfl) (by rfl) z_len PySem.boot_len (b_name 3)))) (ss_cons (s_asg (v_ix hr.units (b_name 3) (b_name 6)) (g_tup rfl (gs_cons (g_name 7 (by decide) sc__law_met_pairs.nd rfl (.inl rfl)) (gs_cons (g_name 8 (by decide) sc__law_met_pairs.nd rfl (.inl rfl)) (gs_nil))))) (ss_cons (s_for PassesOwn.never rfl (i_seq (v_ix hr.units (b_val (v_ix hr.units (b_name 0) (b_val (v_int)))) (b_name 7))) (g_tup rfl (gs_cons (g_name 9 (by decide) sc__law_met_pairs.nd rfl (.inl rfl)) (gs_cons (g_name 10 (by decide) sc__law_met_pairs.nd rfl (.inl rfl)) (gs_cons (g_name 11 (by decide) sc__law_met_pairs.nd rfl (.inl rfl)) (gs_nil))))) (ss_cons (s_set 5 (by decide) sc__law_met_pairs.nd rfl (.inl rfl) (v_tup (a_cons (v_name 11) (a_cons (v_call D__law_watch_step hr (by rfl) (c_cons (b_val (v_name 1)) (c_cons (b_val (v_name 8)) (c_cons (b_val (v_name 10)) (c_nil))))) (a_nil))))) (ss_one (s_if (t_notin hr.units (b_name 5) (b_name 4)) (ss_cons (s_setIt 4 hr.units (v_bl) (v_name 5)) (ss_one (s_expr (v_app 3 (v_name 5))))) (ss_nil))))) (ss_one (s_aug 6 (by decide) sc__law_met_pairs.nd rfl (.inl rfl) (v_int) ip_add))))) (ss_one (s_retO 3)))))))
set_option maxHeartbeats 4000000 in
theorem df__law_closed (T : Tp K mg "_law_closed" s__law_closed) (z_len : mg "len" = none) (D__law_watch_step : Df P Wd.w K mg base 1 "_law_watch_step" 3 m__law_watch_step) : Df P Wd.w K mg base 2 "_law_closed" 3 m__law_closed :=
  df_mk T sc__law_closed rfl rfl (by decide) (fun _ _ _ _ _ _ us hl => match us, hl with | [_, _, _], _ => rfl) (fun f cdv A outer s H E hr => ss_cons (s_setN 3 (by decide) sc__law_closed.nd rfl (.inl rfl) (n_newD)) (ss_cons (s_for PassesOwn.never rfl (i_seq (v_name 2)) (g_name 4 (by decide) sc__law_closed.nd rfl (.inl rfl)) (ss_one (s_setIt 3 hr.units (v_bl) (v_name 4)))) (ss_cons (s_if (t_notin hr.units (b_val (v_tup (a_cons (v_int) (a_cons (v_int) (a_nil))))) (b_name 3)) (ss_one (s_ret (v_bl))) (ss_nil)) (ss_cons (s_for PassesOwn.never rfl (i_seq (v_name 2)) (g_tup rfl (gs_cons (g_name 5 (by decide) sc__law_closed.nd rfl (.inl rfl)) (gs_cons (g_name 6 (by decide) sc__law_closed.nd rfl (.inl rfl)) (gs_nil)))) (ss_cons (s_if (t_w (w_or (t_not (t_chain op_le op_lt (v_int) (v_name 5) (v_b1 call_lenG (cbd_len rfl) (by rfl) z_len PySem.boot_len (b_val (v_ix hr.units (b_name 0) (b_val (v_int))))))) (w_or (t_not (t_chain op_le op_lt (v_int) (v_name 6) (v_b1 call_lenG (cbd_len rfl) (by rfl) z_len PySem.boot_len (b_val (v_ix hr.units (b_name 1) (b_val (v_int))))))) (w_or1 (t_in hr.units (b_name 6) (b_val (v_ix hr.units (b_name 1) (b_val (v_int))))))))) (ss_one (s_ret (v_bl))) (ss_nil)) (ss_one (s_for PassesOwn.never rfl (i_seq (v_ix hr.units (b_val (v_ix hr.units (b_name 0) (b_val (v_int)))) (b_name 5))) (g_tup rfl (gs_cons (g_name 7 (by decide) sc__law_closed.nd rfl (.inl rfl)) (gs_cons (g_name 8 (by decide) sc__law_closed.nd rfl (.inl rfl)) (gs_cons (g_name 9 (by decide) sc__law_closed.nd rfl (.inl rfl)) (gs_nil))))) (ss_one (s_if (t_notin hr.units (b_val (v_tup (a_cons (v_name 9) (a_cons (v_call D__law_watch_step hr (by rfl) (c_cons (b_val (v_name 1)) (c_cons (b_val (v_name 6)) (c_cons (b_val (v_name 8)) (c_nil))))) (a_nil))))) (b_name 3)) (ss_one (s_ret (v_bl))) (ss_nil))))))) (ss_one (s_ret (v_bl)))))))
set_option maxHeartbeats 4000000 in
theorem df__law_broken_by (T : Tp K mg "_law_broken_by" s__law_broken_by) (z_len : mg "len" = none) (D__law_watch_step : Df P Wd.w K mg base 1 "_law_watch_step" 3 m__law_watch_step) : Df P Wd.w K mg base 2 "_law_broken_by" 3 m__law_broken_by :=
  df_mk T sc__law_broken_by rfl rfl (by decide) (fun _ _ _ _ _ _ us hl => match us, hl with | [_, _, _], _ => rfl) (fun f cdv A outer s H E hr => ss_cons (s_set 3 (by decide) sc__law_broken_by.nd rfl (.inl rfl) (v_int)) (ss_cons (s_set 4 (by decide) sc__law_broken_by.nd rfl (.inl rfl) (v_int)) (ss_cons (s_set 5 (by decide) sc__law_broken_by.nd rfl (.inl rfl) (v_in hr.units (b_val (v_int)) (b_val (v_ix hr.units (b_name 1) (b_val (v_int)))))) (ss_cons (s_for PassesOwn.never rfl (i_seq (v_name 2)) (g_name 6 (by decide) sc__law_broken_by.nd rfl (.inr rfl)) (ss_cons (s_setLc 7 (n := 9) (vs := [8]) (by decide) [("branch", 8)] rfl rfl rfl sc__law_broken_by.nd rfl rfl (sw_true rfl rfl rfl (by decide +kernel)) (i_seq (v_ix hr.units (b_val (v_ix hr.units (b_name 0) (b_val (v_int)))) (b_name 3))) (blkOk_by (N := N__law_broken_by) (sc := defScope s__law_broken_by) (by decide +kernel)) (fun _ _ _ _ _ => g_name 8 (by decide +kernel) sc__law_broken_by.nd rfl (.inl rfl)) (fun _ _ _ _ _ => ts_one (t_eq hr.units (b_val (v_ix hr.units (b_name 8) (b_val (v_int)))) (b_name 6))) (fun _ _ _ _ _ => v_name 8)) (ss_cons (s_if (t_eq hr.units (b_val (v_b1 call_lenG (cbd_len rfl) (by rfl) z_len PySem.boot_len (b_name 7))) (b_val (v_int))) (ss_one (s_ret (v_bl))) (ss_nil)) (ss_cons (s_set 4 (by decide) sc__law_broken_by.nd rfl (.inl rfl) (v_call D__law_watch_step hr (by rfl) (c_cons (b_val (v_name 1)) (c_cons (b_val (v_name 4)) (c_cons (b_val (v_ix hr.units (b_val (v_ix hr.units (b_name 7) (b_val (v_int)))) (b_val (v_int)))) (c_nil)))))) (ss_cons (s_set 3 (by decide) sc__law_broken_by.nd rfl (.inl rfl) (v_ix hr.units (b_val (v_ix hr.units (b_name 7) (b_val (v_int)))) (b_val (v_int)))) (ss_one (s_set 5 (by decide) sc__law_broken_by.nd rfl (.inl rfl) (v_or (v_bool (v_name 5)) (v_one (v_bool (v_in hr.units (b_name 4) (b_val (v_ix hr.units (b_name 1) (b_val (v_int))))))))))))))) (ss_one (s_ret (v_name 5)))))))
set_option maxHeartbeats 4000000 in
theorem df_judge_breaks (T : Tp K mg "judge_breaks" s_judge_breaks) (D_next_place : Df P Wd.w K mg base 1 "next_place" 3 m_next_place) (D_branches_along : Df P Wd.w K mg base 2 "branches_along" 3 m_branches_along) : Df P Wd.w K mg base 3 "judge_breaks" 3 m_judge_breaks :=
  df_mk T sc_judge_breaks rfl rfl (by decide) (fun _ _ _ _ _ _ us hl => match us, hl with | [_, _, _], _ => rfl) (fun f cdv A outer s H E hr => ss_cons (s_set 3 (by decide) sc_judge_breaks.nd rfl (.inl rfl) (v_call D_branches_along hr (by rfl) (c_cons (b_val (v_name 0)) (c_cons (b_val (v_int)) (c_cons (b_val (v_name 2)) (c_nil)))))) (ss_cons (s_if (t_isN (b_name 3) (b_val (v_non))) (ss_one (s_ret (v_bl))) (ss_nil)) (ss_cons (s_set 4 (by decide) sc_judge_breaks.nd rfl (.inl rfl) (v_int)) (ss_cons (s_set 5 (by decide) sc_judge_breaks.nd rfl (.inl rfl) (v_in hr.units (b_name 4) (b_val (v_ix hr.units (b_name 1) (b_val (v_int)))))) (ss_cons (s_for PassesOwn.never rfl (i_seq (v_name 3)) (g_tup rfl (gs_cons (g_name 6 (by decide) sc_judge_breaks.nd rfl (.inl rfl)) (gs_cons (g_name 7 (by decide) sc_judge_breaks.nd rfl (.inl rfl)) (gs_cons (g_name 8 (by decide) sc_judge_breaks.nd rfl (.inl rfl)) (gs_nil))))) (ss_cons (s_set 4 (by decide) sc_judge_breaks.nd rfl (.inl rfl) (v_call D_next_place (hr.mono (by decide)) (by rfl) (c_cons (b_val (v_name 1)) (c_cons (b_val (v_name 4)) (c_cons (b_val (v_name 7)) (c_nil)))))) (ss_one (s_if (t_in hr.units (b_name 4) (b_val (v_ix hr.units (b_name 1) (b_val (v_int))))) (ss_one (s_set 5 (by decide) sc_judge_breaks.nd rfl (.inl rfl) (v_bl))) (ss_nil))))) (ss_one (s_ret (v_name 5))))))))
set_option maxHeartbeats 4000000 in
theorem df__law_drawn_watch (T : Tp K mg "_law_drawn_watch" s__law_drawn_watch) (z_len : mg "len" = none) (z_list : mg "list" = none) (z_min : mg "min" = none) (z_range : mg "range" = none) (z_tuple : mg "tuple" = none) (D__law_draw : Df P Wd.w K mg base 1 "_law_draw" 2 m__law_draw) (D__law_pop : Df P Wd.w K mg base 2 "_law_pop" 2 m__law_pop) (D__law_rare : Df P Wd.w K mg base 2 "_law_rare" 2 m__law_rare) : Df P Wd.w K mg base 3 "_law_drawn_watch" 3 m__law_drawn_watch :=
  df_mk T sc__law_drawn_watch rfl rfl (by decide) (fun _ _ _ _ _ _ us hl => match us, hl with | [_, _, _], _ => rfl) (fun f cdv A outer s H E hr => ss_cons (s_setN 3 (by decide) sc__law_drawn_watch.nd rfl (.inl rfl) (n_lst (a_nil))) (ss_cons (s_for PassesOwn.never rfl (i_rng1 (by rfl) z_range (a_cons (v_name 2) (a_nil))) (g_name 4 (by decide) sc__law_drawn_watch.nd rfl (.inl rfl)) (ss_cons (s_setN 5 (by decide) sc__law_drawn_watch.nd rfl (.inl rfl) (n_t1 call_list_of cbn_list (by rfl) z_list boot_list (b_name 1))) (ss_cons (s_setN 6 (by decide) sc__law_drawn_watch.nd rfl (.inl rfl) (n_lst (a_nil))) (ss_cons (s_set 7 (by decide) sc__law_drawn_watch.nd rfl (.inl rfl) (v_min2 (by rfl) (by rfl) z_min (v_int) (v_add (b_val (v_b1 call_lenG (cbd_len rfl) (by rfl) z_len PySem.boot_len (b_name 1))) (b_val (v_int))))) (ss_cons (s_if (t_tru (b_val (v_call D__law_rare hr (by rfl) (c_cons (b_arg 0) (c_cons (b_val (v_int)) (c_nil)))))) (ss_one (s_set 7 (by decide) sc__law_drawn_watch.nd rfl (.inl rfl) (v_add (b_val (v_b1 call_lenG (cbd_len rfl) (by rfl) z_len PySem.boot_len (b_name 1))) (b_val (v_int))))) (ss_nil)) (ss_cons (s_for PassesOwn.never rfl (i_rng1 (by rfl) z_range (a_cons (v_call D__law_draw (hr.mono (by decide)) (by rfl) (c_cons (b_arg 0) (c_cons (b_val (v_name 7)) (c_nil)))) (a_nil))) (g_name 8 (by decide) sc__law_drawn_watch.nd rfl (.inl rfl)) (ss_one (s_expr (v_app 6 (v_tup (a_cons (v_call D__law_pop hr (by rfl) (c_cons (b_arg 0) (c_cons (b_arg 5) (c_nil)))) (a_cons (v_call D__law_draw (hr.mono (by decide)) (by rfl) (c_cons (b_arg 0) (c_cons (b_val (v_name 2)) (c_nil)))) (a_nil)))))))) (ss_one (s_expr (v_app 3 (v_add (b_val (v_t1 call_tuple_of cbd_tuple (by rfl) z_tuple boot_tuple (b_name 6))) (b_val (v_tup (a_cons (v_tup (a_cons (v_non) (a_cons (v_call D__law_draw (hr.mono (by decide)) (by rfl) (c_cons (b_arg 0) (c_cons (b_val (v_name 2)) (c_nil)))) (a_nil)))) (a_nil)))))))))))))) (ss_cons (s_set 9 (by decide) sc__law_drawn_watch.nd rfl (.inr rfl) (v_add (b_val (v_int)) (b_val (v_call D__law_draw (hr.mono (by decide)) (by rfl) (c_cons (b_arg 0) (c_cons (b_val (v_int)) (c_nil))))))) (ss_cons (s_setLc 10 (n := 11) (vs := [4]) (by decide) [("k", 4)] rfl rfl rfl sc__law_drawn_watch.nd rfl rfl (sw_true rfl rfl rfl (by decide +kernel)) (i_rng1 (by rfl) z_range (a_cons (v_name 2) (a_nil))) (blkOk_by (N := N__law_drawn_watch) (sc := defScope s__law_drawn_watch) (by decide +kernel)) (fun _ _ _ _ _ => g_name 4 (by decide +kernel) sc__law_drawn_watch.nd rfl (.inl rfl)) (fun _ _ _ _ _ => ts_one (t_eq hr.units (b_val (v_call D__law_draw (hr.mono (by decide)) (by rfl) (c_cons (b_arg 0) (c_cons (b_val (v_name 9)) (c_nil))))) (b_val (v_int)))) (fun _ _ _ _ _ => v_name 4)) (ss_one (s_ret (v_tup (a_cons (v_str) (a_cons (v_t1 call_tuple_of cbd_tuple (by rfl) z_tuple boot_tuple (b_name 3)) (a_cons (v_t1 call_tuple_of cbd_tuple (by rfl) z_tuple boot_tuple (b_name 10)) (a_nil)))))))))))
set_option maxHeartbeats 4000000 in
theorem df__law_ladder (T : Tp K mg "_law_ladder" s__law_ladder) (z_len : mg "len" = none) (z_min : mg "min" = none) (z_range : mg "range" = none) (z_tuple : mg "tuple" = none) (D__law_draw : Df P Wd.w K mg base 1 "_law_draw" 2 m__law_draw) (D__law_pick : Df P Wd.w K mg base 2 "_law_pick" 2 m__law_pick) (D__law_words : Df P Wd.w K mg base 2 "_law_words" 3 m__law_words) : Df P Wd.w K mg base 3 "_law_ladder" 4 m__law_ladder :=
  df_mk T sc__law_ladder rfl rfl (by decide) (fun _ _ _ _ _ _ us hl => match us, hl with | [_, _, _, _], _ => rfl) (fun f cdv A outer s H E hr => ss_cons (s_setN 4 (by decide) sc__law_ladder.nd rfl (.inl rfl) (n_lst (a_nil))) (ss_cons (s_for PassesOwn.never rfl (i_rng1 (by rfl) z_range (a_cons (v_name 2) (a_nil))) (g_name 5 (by decide) sc__law_ladder.nd rfl (.inl rfl)) (ss_cons (s_set 6 (by decide) sc__law_ladder.nd rfl (.inl rfl) (v_call D__law_words hr (by rfl) (c_cons (b_arg 0) (c_cons (b_val (v_name 1)) (c_cons (b_val (v_add (b_val (v_int)) (b_val (v_call D__law_draw (hr.mono (by decide)) (by rfl) (c_cons (b_arg 0) (c_cons (b_val (v_int)) (c_nil))))))) (c_nil)))))) (ss_cons (s_set 7 (by decide) sc__law_ladder.nd rfl (.inl rfl) (v_call D__law_draw (hr.mono (by decide)) (by rfl) (c_cons (b_arg 0) (c_cons (b_val (v_b1 call_lenG (cbd_len rfl) (by rfl) z_len PySem.boot_len (b_name 6))) (c_nil))))) (ss_cons (s_setN 8 (by decide) sc__law_ladder.nd rfl (.inl rfl) (n_lst (a_nil))) (ss_cons (s_for PassesOwn.never rfl (i_rng1 (by rfl) z_range (a_cons (v_b1 call_lenG (cbd_len rfl) (by rfl) z_len PySem.boot_len (b_name 6)) (a_nil))) (g_name 9 (by decide) sc__law_ladder.nd rfl (.inl rfl)) (ss_cons (s_set 10 (by decide) sc__law_ladder.nd rfl (.inl rfl) (v_tup (a_nil))) (ss_cons (s_set 11 (by decide) sc__law_ladder.nd rfl (.inl rfl) (v_call D__law_draw (hr.mono (by decide)) (by rfl) (c_cons (b_arg 0) (c_cons (b_val (v_add (b_name 5) (b_val (v_int)))) (c_nil))))) (ss_cons (s_if (t_w (w_or (t_eq hr.units (b_name 9) (b_name 7)) (w_or1 (t_eq hr.units (b_val (v_call D__law_draw (hr.mono (by decide)) (by rfl) (c_cons (b_arg 0) (c_cons (b_val (v_int)) (c_nil))))) (b_val (v_int)))))) (ss_cons (s_set 11 (by decide) sc__law_ladder.nd rfl (.inl rfl) (v_min2 (by rfl) (by rfl) z_min (v_add (b_name 5) (b_val (v_int))) (v_sub (b_name 2) (b_val (v_int))))) (ss_one (s_if (t_eq hr.units (b_name 5) (b_val (v_sub (b_name 2) (b_val (v_int))))) (ss_one (s_set 10 (by decide) sc__law_ladder.nd rfl (.inl rfl) (v_tup (a_cons (v_ix hr.units (b_name 3) (b_val (v_int))) (a_nil))))) (ss_nil)))) (ss_one (s_if (t_eq hr.units (b_val (v_call D__law_draw (hr.mono (by decide)) (by rfl) (c_cons (b_arg 0) (c_cons (b_val (v_int)) (c_nil))))) (b_val (v_int))) (ss_one (s_set 10 (by decide) sc__law_ladder.nd rfl (.inl rfl) (v_tup (a_cons (v_call D__law_pick hr (by rfl) (c_cons (b_arg 0) (c_cons (b_val (v_add (b_val (v_sl (b_name 3) (o_some (v_int)) (o_none))) (b_val (v_new (n_lst (a_cons (v_str) (a_nil))))))) (c_nil)))) (a_nil))))) (ss_nil)))) (ss_one (s_expr (v_app 8 (v_tup (a_cons (v_ix hr.units (b_name 6) (b_name 9)) (a_cons (v_name 10) (a_cons (v_name 11) (a_nil)))))))))))) (ss_one (s_expr (v_app 4 (v_t1 call_tuple_of cbd_tuple (by rfl) z_tuple boot_tuple (b_name 8)))))))))) (ss_one (s_ret (v_tup (a_cons (v_str) (a_cons (v_name 1) (a_cons (v_t1 call_tuple_of cbd_tuple (by rfl) z_tuple boot_tuple (b_name 4)) (a_nil)))))))))
set_option maxHeartbeats 4000000 in
theorem df__law_wide_shown (T : Tp K mg "_law_wide_shown" s__law_wide_shown) (z_range : mg "range" = none) (z_tuple : mg "tuple" = none) (D__law_pick : Df P Wd.w K mg base 2 "_law_pick" 2 m__law_pick) : Df P Wd.w K mg base 3 "_law_wide_shown" 2 m__law_wide_shown :=
  df_mk T sc__law_wide_shown rfl rfl (by decide) (fun _ _ _ _ _ _ us hl => match us, hl with | [_, _], _ => rfl) (fun f cdv A outer s H E hr => ss_one (s_ret (v_t1 call_tuple_of cbd_tuple (by rfl) z_tuple boot_tuple (b_val (v_new (n_lc (n := 3) (vs := [2]) [("k", 2)] rfl rfl rfl sc__law_wide_shown.nd (i_rng1 (by rfl) z_range (a_cons (v_call D__law_pick hr (by rfl) (c_cons (b_arg 0) (c_cons (b_val (v_new (n_lst (a_cons (v_int) (a_cons (v_int) (a_cons (v_int) (a_cons (v_int) (a_cons (v_int) (a_cons (v_int) (a_cons (v_int) (a_cons (v_int) (a_cons (v_int) (a_nil))))))))))))) (c_nil)))) (a_nil))) (blkOk_by (N := N__law_wide_shown) (sc := defScope s__law_wide_shown) (by decide +kernel)) (fun _ _ _ _ _ => g_name 2 (by decide +kernel) sc__law_wide_shown.nd rfl (.inl rfl)) (fun _ _ _ _ _ => ts_nil) (fun _ _ _ _ _ => v_call D__law_pick hr (by rfl) (c_cons (b_arg 0) (c_cons (b_val (v_name 1)) (c_nil))))))))))
set_option maxHeartbeats 4000000 in
theorem df__law_spared (T : Tp K mg "_law_spared" s__law_spared) (z_tuple : mg "tuple" = none) (D__law_draw : Df P Wd.w K mg base 1 "_law_draw" 2 m__law_draw) (D__law_met_pairs : Df P Wd.w K mg base 2 "_law_met_pairs" 3 m__law_met_pairs) : Df P Wd.w K mg base 3 "_law_spared" 3 m__law_spared :=
  df_mk T sc__law_spared rfl rfl (by decide) (fun _ _ _ _ _ _ us hl => match us, hl with | [_, _, _], _ => rfl) (fun f cdv A outer s H E hr => ss_cons (s_if (t_eq hr.units (b_val (v_call D__law_draw (hr.mono (by decide)) (by rfl) (c_cons (b_arg 0) (c_cons (b_val (v_int)) (c_nil))))) (b_val (v_int))) (ss_one (s_ret (v_name 2))) (ss_nil)) (ss_cons (s_set 3 (by decide) sc__law_spared.nd rfl (.inr rfl) (v_new (n_lc (n := 6) (vs := [4]) [("pair", 4)] rfl rfl rfl sc__law_spared.nd (i_seq (v_call D__law_met_pairs hr (by rfl) (c_cons (b_val (v_name 1)) (c_cons (b_val (v_name 2)) (c_cons (b_val (v_new (n_lst (a_cons (v_tup (a_cons (v_int) (a_cons (v_int) (a_nil)))) (a_nil))))) (c_nil)))))) (blkOk_by (N := N__law_spared) (sc := defScope s__law_spared) (by decide +kernel)) (fun _ _ _ _ _ => g_name 4 (by decide +kernel) sc__law_spared.nd rfl (.inl rfl)) (fun _ _ _ _ _ => ts_nil) (fun _ _ _ _ _ => v_ix hr.units (b_name 4) (b_val (v_int)))))) (ss_one (s_ret (v_tup (a_cons (v_ix hr.units (b_name 2) (b_val (v_int))) (a_cons (v_ix hr.units (b_name 2) (b_val (v_int))) (a_cons (v_t1 call_tuple_of cbd_tuple (by rfl) z_tuple boot_tuple (b_val (v_new (n_lc (n := 6) (vs := [5]) [("one", 5)] rfl rfl rfl sc__law_spared.nd (i_seq (v_ix hr.units (b_name 2) (b_val (v_int)))) (blkOk_by (N := N__law_spared) (sc := defScope s__law_spared) (by decide +kernel)) (fun _ _ _ _ _ => g_name 5 (by decide +kernel) sc__law_spared.nd rfl (.inl rfl)) (fun _ _ _ _ _ => ts_one (t_notin hr.units (b_name 5) (b_name 3))) (fun _ _ _ _ _ => v_name 5))))) (a_nil)))))))))
set_option maxHeartbeats 4000000 in
theorem df__law_table (T : Tp K mg "_law_table" s__law_table) (z_len : mg "len" = none) (z_range : mg "range" = none) (z_tuple : mg "tuple" = none) (D__law_draw : Df P Wd.w K mg base 1 "_law_draw" 2 m__law_draw) (D__law_pick : Df P Wd.w K mg base 2 "_law_pick" 2 m__law_pick) (D__law_shuffled : Df P Wd.w K mg base 2 "_law_shuffled" 2 m__law_shuffled) (D__law_met_pairs : Df P Wd.w K mg base 2 "_law_met_pairs" 3 m__law_met_pairs) : Df P Wd.w K mg base 3 "_law_table" 3 m__law_table :=
  df_mk T sc__law_table rfl rfl (by decide) (fun _ _ _ _ _ _ us hl => match us, hl with | [_, _, _], _ => rfl) (fun f cdv A outer s H E hr => ss_cons (s_set 3 (by decide) sc__law_table.nd rfl (.inl rfl) (v_b1 call_lenG (cbd_len rfl) (by rfl) z_len PySem.boot_len (b_val (v_ix hr.units (b_name 1) (b_val (v_int)))))) (ss_cons (s_set 4 (by decide) sc__law_table.nd rfl (.inl rfl) (v_b1 call_lenG (cbd_len rfl) (by rfl) z_len PySem.boot_len (b_val (v_ix hr.units (b_name 2) (b_val (v_int)))))) (ss_cons (s_set 5 (by decide) sc__law_table.nd rfl (.inl rfl) (v_tup (a_cons (v_call D__law_draw (hr.mono (by decide)) (by rfl) (c_cons (b_arg 0) (c_cons (b_val (v_name 3)) (c_nil)))) (a_cons (v_call D__law_draw (hr.mono (by decide)) (by rfl) (c_cons (b_arg 0) (c_cons (b_val (v_name 4)) (c_nil)))) (a_nil))))) (ss_cons (s_set 6 (by decide) sc__law_table.nd rfl (.inl rfl) (v_call D__law_pick hr (by rfl) (c_cons (b_arg 0) (c_cons (b_val (v_new (n_lst (a_cons (v_new (n_lst (a_cons (v_tup (a_cons (v_int) (a_cons (v_int) (a_nil)))) (a_nil)))) (a_cons (v_new (n_lst (a_cons (v_tup (a_cons (v_int) (a_cons (v_int) (a_nil)))) (a_nil)))) (a_cons (v_new (n_lst (a_cons (v_tup (a_cons (v_int) (a_cons (v_int) (a_nil)))) (a_cons (v_name 5) (a_nil))))) (a_cons (v_new (n_lst (a_cons (v_name 5) (a_nil)))) (a_nil)))))))) (c_nil))))) (ss_cons (s_setN 7 (by decide) sc__law_table.nd rfl (.inl rfl) (n_call D__law_met_pairs hr (by rfl) (c_cons (b_val (v_name 1)) (c_cons (b_val (v_name 2)) (c_cons (b_val (v_name 6)) (c_nil)))))) (ss_cons (s_if (t_eq hr.units (b_val (v_call D__law_draw (hr.mono (by decide)) (by rfl) (c_cons (b_arg 0) (c_cons (b_val (v_int)) (c_nil))))) (b_val (v_int))) (ss_cons (s_setN 7 (by decide) sc__law_table.nd rfl (.inl rfl) (n_lst (a_nil))) (ss_one (s_for PassesOwn.never rfl (i_rng1 (by rfl) z_range (a_cons (v_name 3) (a_nil))) (g_name 8 (by decide) sc__law_table.nd rfl (.inr rfl)) (ss_one (s_setN 7 (by decide) sc__law_table.nd rfl (.inl rfl) (n_cat (b_name 7) (b_val (v_new (n_lc (n := 11) (vs := [10]) [("k", 10)] rfl rfl rfl sc__law_table.nd (i_rng1 (by rfl) z_range (a_cons (v_name 4) (a_nil))) (blkOk_by (N := N__law_table) (sc := defScope s__law_table) (by decide +kernel)) (fun _ _ _ _ _ => g_name 10 (by decide +kernel) sc__law_table.nd rfl (.inl rfl)) (fun _ _ _ _ _ => ts_nil) (fun _ _ _ _ _ => v_tup (a_cons (v_name 8) (a_cons (v_name 10) (a_nil))))))))))))) (ss_nil)) (ss_cons (s_if (t_eq hr.units (b_val (v_call D__law_draw (hr.mono (by decide)) (by rfl) (c_cons (b_arg 0) (c_cons (b_val (v_int)) (c_nil))))) (b_val (v_int))) (ss_one (s_setN 7 (by decide) sc__law_table.nd rfl (.inl rfl) (n_call D__law_shuffled hr (by rfl) (c_cons (b_arg 0) (c_cons (b_val (v_name 7)) (c_nil)))))) (ss_nil)) (ss_cons (s_set 9 (by decide) sc__law_table.nd rfl (.inl rfl) (v_call D__law_draw (hr.mono (by decide)) (by rfl) (c_cons (b_arg 0) (c_cons (b_val (v_int)) (c_nil))))) (ss_cons (s_if (t_eq hr.units (b_name 9) (b_val (v_int))) (ss_one (s_setN 7 (by decide) sc__law_table.nd rfl (.inl rfl) (n_cat (b_name 7) (b_val (v_sl (b_name 7) (o_none) (o_some (v_int))))))) (ss_nil)) (ss_cons (s_if (t_eq hr.units (b_name 9) (b_val (v_int))) (ss_one (s_expr (v_popAt 7 (v_call D__law_draw (hr.mono (by decide)) (by rfl) (c_cons (b_arg 0) (c_cons (b_val (v_b1 call_lenG (cbd_len rfl) (by rfl) z_len PySem.boot_len (b_name 7))) (c_nil))))))) (ss_nil)) (ss_cons (s_if (t_eq hr.units (b_name 9) (b_val (v_int))) (ss_one (s_expr (v_app 7 (v_tup (a_cons (v_call D__law_pick hr (by rfl) (c_cons (b_arg 0) (c_cons (b_val (v_new (n_lst (a_cons (v_neg (v_int)) (a_cons (v_name 3) (a_cons (v_neg (v_name 3)) (a_cons (v_int) (a_nil)))))))) (c_nil)))) (a_cons (v_call D__law_draw (hr.mono (by decide)) (by rfl) (c_cons (b_arg 0) (c_cons (b_val (v_name 4)) (c_nil)))) (a_nil))))))) (ss_nil)) (ss_cons (s_if (t_eq hr.units (b_name 9) (b_val (v_int))) (ss_one (s_expr (v_app 7 (v_tup (a_cons (v_call D__law_draw (hr.mono (by decide)) (by rfl) (c_cons (b_arg 0) (c_cons (b_val (v_name 3)) (c_nil)))) (a_cons (v_call D__law_pick hr (by rfl) (c_cons (b_arg 0) (c_cons (b_val (v_new (n_lst (a_cons (v_neg (v_int)) (a_cons (v_name 4) (a_cons (v_neg (v_name 4)) (a_cons (v_neg (v_int)) (a_nil)))))))) (c_nil)))) (a_nil))))))) (ss_nil)) (ss_cons (s_if (t_eq hr.units (b_name 9) (b_val (v_int))) (ss_one (s_expr (v_app 7 (v_tup (a_cons (v_call D__law_draw (hr.mono (by decide)) (by rfl) (c_cons (b_arg 0) (c_cons (b_val (v_name 3)) (c_nil)))) (a_cons (v_call D__law_draw (hr.mono (by decide)) (by rfl) (c_cons (b_arg 0) (c_cons (b_val (v_name 4)) (c_nil)))) (a_nil))))))) (ss_nil)) (ss_cons (s_if (t_eq hr.units (b_name 9) (b_val (v_int))) (ss_one (s_setN 7 (by decide) sc__law_table.nd rfl (.inl rfl) (n_sl (b_name 7) (o_none) (o_some (v_call D__law_draw (hr.mono (by decide)) (by rfl) (c_cons (b_arg 0) (c_cons (b_val (v_add (b_val (v_b1 call_lenG (cbd_len rfl) (by rfl) z_len PySem.boot_len (b_name 7))) (b_val (v_int)))) (c_nil)))))))) (ss_nil)) (ss_one (s_ret (v_t1 call_tuple_of cbd_tuple (by rfl) z_tuple boot_tuple (b_name 7))))))))))))))))))
set_option maxHeartbeats 4000000 in
theorem df__law_blocks (T : Tp K mg "_law_blocks" s__law_blocks) (z_int : mg "int" = none) (z_len : mg "len" = none) (z_range : mg "range" = none) (z_tuple : mg "tuple" = none) (D__law_draw : Df P Wd.w K mg base 1 "_law_draw" 2 m__law_draw) (D__law_pick : Df P Wd.w K mg base 2 "_law_pick" 2 m__law_pick) (D__law_rare : Df P Wd.w K mg base 2 "_law_rare" 2 m__law_rare) : Df P Wd.w K mg base 3 "_law_blocks" 2 m__law_blocks :=
  df_mk T sc__law_blocks rfl rfl (by decide) (fun _ _ _ _ _ _ us hl => match us, hl with | [_, _], _ => rfl) (fun f cdv A outer s H E hr => ss_cons (s_set 2 (by decide) sc__law_blocks.nd rfl (.inl rfl) (v_int)) (ss_cons (s_setN 3 (by decide) sc__law_blocks.nd rfl (.inl rfl) (n_lst (a_nil))) (ss_cons (s_for PassesOwn.never rfl (i_rng1 (by rfl) z_range (a_cons (v_add (b_val (v_call D__law_draw (hr.mono (by decide)) (by rfl) (c_cons (b_arg 0) (c_cons (b_val (v_int)) (c_nil))))) (b_val (v_mul (b_val (v_int)) (b_val (v_t1 call_int1 cbd_int (by rfl) z_int boot_int (b_val (v_call D__law_rare hr (by rfl) (c_cons (b_arg 0) (c_cons (b_val (v_int)) (c_nil)))))))))) (a_nil))) (g_name 4 (by decide) sc__law_blocks.nd rfl (.inl rfl)) (ss_cons (s_asg (v_call D__law_pick hr (by rfl) (c_cons (b_arg 0) (c_cons (b_val (v_ix hr.units (b_val (v_ix hr.units (b_name 1) (b_val (v_int)))) (b_name 2))) (c_nil)))) (g_tup rfl (gs_cons (g_name 5 (by decide) sc__law_blocks.nd rfl (.inl rfl)) (gs_cons (g_name 6 (by decide) sc__law_blocks.nd rfl (.inl rfl)) (gs_cons (g_name 2 (by decide) sc__law_blocks.nd rfl (.inl rfl)) (gs_nil)))))) (ss_one (s_expr (v_app 3 (v_name 5)))))) (ss_cons (s_set 7 (by decide) sc__law_blocks.nd rfl (.inl rfl) (v_call D__law_draw (hr.mono (by decide)) (by rfl) (c_cons (b_arg 0) (c_cons (b_val (v_int)) (c_nil))))) (ss_cons (s_set 8 (by decide) sc__law_blocks.nd rfl (.inl rfl) (v_call D__law_draw (hr.mono (by decide)) (by rfl) (c_cons (b_arg 0) (c_cons (b_val (v_add (b_val (v_b1 call_lenG (cbd_len rfl) (by rfl) z_len PySem.boot_len (b_name 3))) (b_val (v_int)))) (c_nil))))) (ss_cons (s_set 9 (by decide) sc__law_blocks.nd rfl (.inl rfl) (v_t1 call_tuple_of cbd_tuple (by rfl) z_tuple boot_tuple (b_val (v_new (n_lc (n := 10) (vs := [4]) [("step", 4)] rfl rfl rfl sc__law_blocks.nd (i_rng1 (by rfl) z_range (a_cons (v_call D__law_draw (hr.mono (by decide)) (by rfl) (c_cons (b_arg 0) (c_cons (b_val (v_int)) (c_nil)))) (a_nil))) (blkOk_by (N := N__law_blocks) (sc := defScope s__law_blocks) (by decide +kernel)) (fun _ _ _ _ _ => g_name 4 (by decide +kernel) sc__law_blocks.nd rfl (.inl rfl)) (fun _ _ _ _ _ => ts_nil) (fun _ _ _ _ _ => v_call D__law_draw (hr.mono (by decide)) (by rfl) (c_cons (b_arg 0) (c_cons (b_val (v_add (b_val (v_ix hr.units (b_name 1) (b_val (v_int)))) (b_val (v_int)))) (c_nil))))))))) (ss_cons (s_if (t_eq hr.units (b_name 7) (b_val (v_int))) (ss_one (s_setN 3 (by decide) sc__law_blocks.nd rfl (.inl rfl) (n_cat (b_val (v_add (b_val (v_sl (b_name 3) (o_none) (o_some (v_name 8)))) (b_val (v_new (n_lst (a_cons (v_name 9) (a_nil))))))) (b_val (v_sl (b_name 3) (o_some (v_add (b_name 8) (b_val (v_int)))) (o_none)))))) (ss_nil)) (ss_cons (s_if (t_eq hr.units (b_name 7) (b_val (v_int))) (ss_one (s_setN 3 (by decide) sc__law_blocks.nd rfl (.inl rfl) (n_cat (b_val (v_sl (b_name 3) (o_none) (o_some (v_name 8)))) (b_val (v_sl (b_name 3) (o_some (v_add (b_name 8) (b_val (v_int)))) (o_none)))))) (ss_nil)) (ss_cons (s_if (t_eq hr.units (b_name 7) (b_val (v_int))) (ss_one (s_setN 3 (by decide) sc__law_blocks.nd rfl (.inl rfl) (n_cat (b_val (v_add (b_val (v_sl (b_name 3) (o_none) (o_some (v_name 8)))) (b_val (v_new (n_lst (a_cons (v_name 9) (a_nil))))))) (b_val (v_sl (b_name 3) (o_some (v_name 8)) (o_none)))))) (ss_nil)) (ss_cons (s_if (t_w (w_and (t_eq hr.units (b_name 7) (b_val (v_int))) (w_and1 (t_lt (b_name 8) (b_val (v_b1 call_lenG (cbd_len rfl) (by rfl) z_len PySem.boot_len (b_name 3))))))) (ss_one (s_setIt 3 hr.units (v_add (b_val (v_ix hr.units (b_name 3) (b_name 8))) (b_val (v_tup (a_cons (v_call D__law_draw (hr.mono (by decide)) (by rfl) (c_cons (b_arg 0) (c_cons (b_val (v_ix hr.units (b_name 1) (b_val (v_int)))) (c_nil)))) (a_nil))))) (v_name 8))) (ss_nil)) (ss_cons (s_if (t_w (w_and (t_eq hr.units (b_name 7) (b_val (v_int))) (w_and1 (t_lt (b_name 8) (b_val (v_b1 call_lenG (cbd_len rfl) (by rfl) z_len PySem.boot_len (b_name 3))))))) (ss_one (s_setIt 3 hr.units (v_sl (b_val (v_ix hr.units (b_name 3) (b_name 8))) (o_none) (o_some (v_neg (v_int)))) (v_name 8))) (ss_nil)) (ss_cons (s_if (t_eq hr.units (b_name 7) (b_val (v_int))) (ss_one (s_expr (v_app 3 (v_tup (a_cons (v_call D__law_pick hr (by rfl) (c_cons (b_arg 0) (c_cons (b_val (v_new (n_lst (a_cons (v_neg (v_int)) (a_cons (v_ix hr.units (b_name 1) (b_val (v_int))) (a_cons (v_int) (a_nil))))))) (c_nil)))) (a_nil)))))) (ss_nil)) (ss_one (s_ret (v_t1 call_tuple_of cbd_tuple (by rfl) z_tuple boot_tuple (b_name 3))))))))))))))))
set_option maxHeartbeats 4000000 in
theorem df__law_some_watch (T : Tp K mg "_law_some_watch" s__law_some_watch) (z_range : mg "range" = none) (z_tuple : mg "tuple" = none) (D__law_draw : Df P Wd.w K mg base 1 "_law_draw" 2 m__law_draw) (D__law_drawn_watch : Df P Wd.w K mg base 3 "_law_drawn_watch" 3 m__law_drawn_watch) : Df P Wd.w K mg base 4 "_law_some_watch" 3 m__law_some_watch :=
  df_mk T sc__law_some_watch rfl rfl (by decide) (fun _ _ _ _ _ _ us hl => match us, hl with | [_, _, _], _ => rfl) (fun f cdv A outer s H E hr => ss_cons (s_set 3 (by decide) sc__law_some_watch.nd rfl (.inl rfl) (v_call D__law_draw (hr.mono (by decide)) (by rfl) (c_cons (b_arg 0) (c_cons (b_val (v_int)) (c_nil))))) (ss_cons (s_set 4 (by decide) sc__law_some_watch.nd rfl (.inl rfl) (v_ix hr.units (b_name 1) (b_val (v_int)))) (ss_cons (s_set 5 (by decide) sc__law_some_watch.nd rfl (.inr rfl) (v_ix hr.units (b_name 1) (b_val (v_int)))) (ss_cons (s_if (t_eq hr.units (b_name 3) (b_val (v_int))) (ss_one (s_ret (v_tup (a_cons (v_str) (a_cons (v_tup (a_cons (v_tup (a_cons (v_tup (a_cons (v_name 4) (a_cons (v_int) (a_nil)))) (a_cons (v_tup (a_cons (v_non) (a_cons (v_int) (a_nil)))) (a_nil)))) (a_cons (v_tup (a_cons (v_tup (a_cons (v_non) (a_cons (v_int) (a_nil)))) (a_nil))) (a_nil)))) (a_cons (v_tup (a_cons (v_int) (a_nil))) (a_nil))))))) (ss_nil)) (ss_cons (s_if (t_eq hr.units (b_name 3) (b_val (v_int))) (ss_cons (s_set 6 (by decide) sc__law_some_watch.nd rfl (.inl rfl) (v_add (b_val (v_int)) (b_val (v_call D__law_draw (hr.mono (by decide)) (by rfl) (c_cons (b_arg 0) (c_cons (b_val (v_int)) (c_nil))))))) (ss_cons (s_set 7 (by decide) sc__law_some_watch.nd rfl (.inl rfl) (v_t1 call_tuple_of cbd_tuple (by rfl) z_tuple boot_tuple (b_val (v_new (n_lc (n := 9) (vs := [8]) [("k", 8)] rfl rfl rfl sc__law_some_watch.nd (i_rng1 (by rfl) z_range (a_cons (v_name 6) (a_nil))) (blkOk_by (N := N__law_some_watch) (sc := defScope s__law_some_watch) (by decide +kernel)) (fun _ _ _ _ _ => g_name 8 (by decide +kernel) sc__law_some_watch.nd rfl (.inl rfl)) (fun _ _ _ _ _ => ts_nil) (fun _ _ _ _ _ => v_tup (a_cons (v_tup (a_cons (v_name 5) (a_cons (v_int) (a_nil)))) (a_cons (v_tup (a_cons (v_non) (a_cons (v_add (b_name 8) (b_val (v_int))) (a_nil)))) (a_nil))))))))) (ss_one (s_ret (v_tup (a_cons (v_str) (a_cons (v_add (b_val (v_add (b_val (v_tup (a_cons (v_tup (a_cons (v_tup (a_cons (v_name 4) (a_cons (v_int) (a_nil)))) (a_cons (v_tup (a_cons (v_non) (a_cons (v_int) (a_nil)))) (a_nil)))) (a_nil)))) (b_name 7))) (b_val (v_tup (a_cons (v_tup (a_cons (v_tup (a_cons (v_non) (a_cons (v_add (b_name 6) (b_val (v_int))) (a_nil)))) (a_nil))) (a_nil))))) (a_cons (v_tup (a_cons (v_add (b_name 6) (b_val (v_int))) (a_nil))) (a_nil))))))))) (ss_nil)) (ss_cons (s_if (t_eq hr.units (b_name 3) (b_val (v_int))) (ss_one (s_ret (v_tup (a_cons (v_str) (a_cons (v_tup (a_cons (v_tup (a_cons (v_tup (a_cons (v_name 5) (a_cons (v_int) (a_nil)))) (a_cons (v_tup (a_cons (v_name 4) (a_cons (v_int) (a_nil)))) (a_cons (v_tup (a_cons (v_non) (a_cons (v_int) (a_nil)))) (a_nil))))) (a_cons (v_tup (a_cons (v_tup (a_cons (v_non) (a_cons (v_int) (a_nil)))) (a_nil))) (a_cons (v_tup (a_cons (v_tup (a_cons (v_non) (a_cons (v_int) (a_nil)))) (a_nil))) (a_nil))))) (a_cons (v_tup (a_cons (v_int) (a_nil))) (a_nil))))))) (ss_nil)) (ss_one (s_ret (v_call D__law_drawn_watch hr (by rfl) (c_cons (b_arg 0) (c_cons (b_val (v_add (b_name 1) (b_val (v_new (n_lst (a_cons (v_str) (a_nil))))))) (c_cons (b_val (v_add (b_val (v_int)) (b_val (v_call D__law_draw (hr.mono (by decide)) (by rfl) (c_cons (b_arg 0) (c_cons (b_val (v_name 2)) (c_nil))))))) (c_nil)))))))))))))
set_option maxHeartbeats 4000000 in
theorem df__law_wide_chain (T : Tp K mg "_law_wide_chain" s__law_wide_chain) (z_range : mg "range" = none) (z_tuple : mg "tuple" = none) (D__law_draw : Df P Wd.w K mg base 1 "_law_draw" 2 m__law_draw) (D__law_words : Df P Wd.w K mg base 2 "_law_words" 3 m__law_words) (D__law_wide_shown : Df P Wd.w K mg base 3 "_law_wide_shown" 2 m__law_wide_shown) : Df P Wd.w K mg base 4 "_law_wide_chain" 4 m__law_wide_chain :=
  df_mk T sc__law_wide_chain rfl rfl (by decide) (fun _ _ _ _ _ _ us hl => match us, hl with | [_, _, _, _], _ => rfl) (fun f cdv A outer s H E hr => ss_cons (s_setN 4 (by decide) sc__law_wide_chain.nd rfl (.inl rfl) (n_lst (a_nil))) (ss_cons (s_for PassesOwn.never rfl (i_rng1 (by rfl) z_range (a_cons (v_name 2) (a_nil))) (g_name 5 (by decide) sc__law_wide_chain.nd rfl (.inl rfl)) (ss_cons (s_setN 6 (by decide) sc__law_wide_chain.nd rfl (.inl rfl) (n_lst (a_nil))) (ss_cons (s_for PassesOwn.never rfl (i_seq (v_call D__law_words (hr.mono (by decide)) (by rfl) (c_cons (b_arg 0) (c_cons (b_val (v_name 1)) (c_cons (b_val (v_call D__law_draw (hr.mono (by decide)) (by rfl) (c_cons (b_arg 0) (c_cons (b_val (v_int)) (c_nil))))) (c_nil)))))) (g_name 7 (by decide) sc__law_wide_chain.nd rfl (.inl rfl)) (ss_one (s_expr (v_app 6 (v_tup (a_cons (v_name 7) (a_cons (v_call D__law_wide_shown hr (by rfl) (c_cons (b_arg 0) (c_cons (b_val (v_name 3)) (c_nil)))) (a_cons (v_call D__law_draw (hr.mono (by decide)) (by rfl) (c_cons (b_arg 0) (c_cons (b_val (v_name 2)) (c_nil)))) (a_nil))))))))) (ss_one (s_expr (v_app 4 (v_t1 call_tuple_of cbd_tuple (by rfl) z_tuple boot_tuple (b_name 6)))))))) (ss_one (s_ret (v_tup (a_cons (v_str) (a_cons (v_name 1) (a_cons (v_t1 call_tuple_of cbd_tuple (by rfl) z_tuple boot_tuple (b_name 4)) (a_nil)))))))))
set_option maxHeartbeats 4000000 in
theorem df__law_some_chain (T : Tp K mg "_law_some_chain" s__law_some_chain) (D__law_draw : Df P Wd.w K mg base 1 "_law_draw" 2 m__law_draw) (D__law_rare : Df P Wd.w K mg base 2 "_law_rare" 2 m__law_rare) (D__law_ladder : Df P Wd.w K mg base 3 "_law_ladder" 4 m__law_ladder) (D__law_wide_chain : Df P Wd.w K mg base 4 "_law_wide_chain" 4 m__law_wide_chain) : Df P Wd.w K mg base 5 "_law_some_chain" 3 m__law_some_chain :=
  df_mk T sc__law_some_chain rfl rfl (by decide) (fun _ _ _ _ _ _ us hl => match us, hl with | [_, _, _], _ => rfl) (fun f cdv A outer s H E hr => ss_cons (s_set 3 (by decide) sc__law_some_chain.nd rfl (.inl rfl) (v_add (b_val (v_int)) (b_val (v_call D__law_draw (hr.mono (by decide)) (by rfl) (c_cons (b_arg 0) (c_cons (b_val (v_int)) (c_nil))))))) (ss_cons (s_if (t_tru (b_val (v_call D__law_rare (hr.mono (by decide)) (by rfl) (c_cons (b_arg 0) (c_cons (b_val (v_int)) (c_nil)))))) (ss_one (s_set 3 (by decide) sc__law_some_chain.nd rfl (.inl rfl) (v_int))) (ss_nil)) (ss_cons (s_set 4 (by decide) sc__law_some_chain.nd rfl (.inl rfl) (v_add (b_val (v_int)) (b_val (v_call D__law_draw (hr.mono (by decide)) (by rfl) (c_cons (b_arg 0) (c_cons (b_val (v_int)) (c_nil))))))) (ss_cons (s_if (t_tru (b_val (v_call D__law_rare (hr.mono (by decide)) (by rfl) (c_cons (b_arg 0) (c_cons (b_val (v_int)) (c_nil)))))) (ss_one (s_set 4 (by decide) sc__law_some_chain.nd rfl (.inl rfl) (v_name 2))) (ss_nil)) (ss_cons (s_if (t_eq hr.units (b_val (v_call D__law_draw (hr.mono (by decide)) (by rfl) (c_cons (b_arg 0) (c_cons (b_val (v_int)) (c_nil))))) (b_val (v_int))) (ss_one (s_ret (v_call D__law_ladder (hr.mono (by decide)) (by rfl) (c_cons (b_arg 0) (c_cons (b_val (v_name 3)) (c_cons (b_val (v_name 4)) (c_cons (b_val (v_name 1)) (c_nil)))))))) (ss_nil)) (ss_one (s_ret (v_call D__law_wide_chain hr (by rfl) (c_cons (b_arg 0) (c_cons (b_val (v_name 3)) (c_cons (b_val (v_name 4)) (c_cons (b_val (v_name 1)) (c_nil)))))))))))))
set_option maxHeartbeats 4000000 in
theorem df_law {f : Addr} {fd : FuncData} (F : Fun K "law" "law" s_law f fd) (z_range : mg "range" = none) (D__law_begin : Df P Wd.w K mg base 1 "_law_begin" 1 m__law_begin) (D__law_draw : Df P Wd.w K mg base 1 "_law_draw" 2 m__law_draw) (D__law_pool : Df P Wd.w K mg base 1 "_law_pool" 0 m__law_pool) (D__law_is_bool : Df P Wd.w K mg base 1 "_law_is_bool" 2 m__law_is_bool) (D_judge_holds : Df P Wd.w K mg base 2 "judge_holds" 3 m_judge_holds) (D__law_pop : Df P Wd.w K mg base 2 "_law_pop" 2 m__law_pop) (D__law_closed : Df P Wd.w K mg base 2 "_law_closed" 3 m__law_closed) (D__law_broken_by : Df P Wd.w K mg base 2 "_law_broken_by" 3 m__law_broken_by) (D_judge_breaks : Df P Wd.w K mg base 3 "judge_breaks" 3 m_judge_breaks) (D__law_spared : Df P Wd.w K mg base 3 "_law_spared" 3 m__law_spared) (D__law_table : Df P Wd.w K mg base 3 "_law_table" 3 m__law_table) (D__law_blocks : Df P Wd.w K mg base 3 "_law_blocks" 2 m__law_blocks) (D__law_some_watch : Df P Wd.w K mg base 4 "_law_some_watch" 3 m__law_some_watch) (D__law_some_chain : Df P Wd.w K mg base 5 "_law_some_chain" 3 m__law_some_chain) : FnOk P Wd.w K mg base CX0 6 f fd ["script"] (Prm K 1 m_law) :=
  fn_mk F sc_law rfl rfl (by decide) (fun f cdv A outer s H E hr => ss_cons (s_setN 1 (by decide) sc_law.nd rfl (.inr rfl) (n_call D__law_begin (hr.mono (by decide)) (by rfl) (c_cons (b_arg 0) (c_nil)))) (ss_cons (s_setN 2 (by decide) sc_law.nd rfl (.inr rfl) (n_call0 D__law_pool (hr.mono (by decide)) (by rfl))) (ss_cons (s_setLc 3 (n := 10) (vs := [9]) (by decide) [("k", 9)] rfl rfl rfl sc_law.nd rfl rfl (sw_true rfl rfl rfl (by decide +kernel)) (i_rng1 (by rfl) z_range (a_cons (v_add (b_val (v_int)) (b_val (v_call D__law_draw (hr.mono (by decide)) (by rfl) (c_cons (b_arg 1) (c_cons (b_val (v_int)) (c_nil)))))) (a_nil))) (blkOk_by (N := N_law) (sc := defScope s_law) (by decide +kernel)) (fun _ _ _ _ _ => g_name 9 (by decide +kernel) sc_law.nd rfl (.inl rfl)) (fun _ _ _ _ _ => ts_nil) (fun _ _ _ _ _ => v_call D__law_pop (hr.mono (by decide)) (by rfl) (c_cons (b_arg 1) (c_cons (b_arg 2) (c_nil))))) (ss_cons (s_set 4 (by decide) sc_law.nd rfl (.inr rfl) (v_call D__law_some_chain hr (by rfl) (c_cons (b_arg 1) (c_cons (b_val (v_name 3)) (c_cons (b_val (v_int)) (c_nil)))))) (ss_cons (s_set 5 (by decide) sc_law.nd rfl (.inr rfl) (v_call D__law_spared (hr.mono (by decide)) (by rfl) (c_cons (b_arg 1) (c_cons (b_val (v_name 4)) (c_cons (b_val (v_call D__law_some_watch (hr.mono (by decide)) (by rfl) (c_cons (b_arg 1) (c_cons (b_val (v_name 3)) (c_cons (b_val (v_int)) (c_nil)))))) (c_nil)))))) (ss_cons (s_setLc 6 (n := 10) (vs := [9]) (by decide) [("k", 9)] rfl rfl rfl sc_law.nd rfl rfl (sw_true rfl rfl rfl (by decide +kernel)) (i_rng1 (by rfl) z_range (a_cons (v_int) (a_nil))) (blkOk_by (N := N_law) (sc := defScope s_law) (by decide +kernel)) (fun _ _ _ _ _ => g_name 9 (by decide +kernel) sc_law.nd rfl (.inl rfl)) (fun _ _ _ _ _ => ts_nil) (fun _ _ _ _ _ => v_call D__law_table (hr.mono (by decide)) (by rfl) (c_cons (b_arg 1) (c_cons (b_val (v_name 4)) (c_cons (b_val (v_name 5)) (c_nil)))))) (ss_cons (s_setLc 7 (n := 10) (vs := [9]) (by decide) [("k", 9)] rfl rfl rfl sc_law.nd rfl rfl (sw_true rfl rfl rfl (by decide +kernel)) (i_rng1 (by rfl) z_range (a_cons (v_int) (a_nil))) (blkOk_by (N := N_law) (sc := defScope s_law) (by decide +kernel)) (fun _ _ _ _ _ => g_name 9 (by decide +kernel) sc_law.nd rfl (.inl rfl)) (fun _ _ _ _ _ => ts_nil) (fun _ _ _ _ _ => v_call D__law_blocks (hr.mono (by decide)) (by rfl) (c_cons (b_arg 1) (c_cons (b_val (v_name 4)) (c_nil))))) (ss_cons (s_for PassesOwn.never rfl (i_rng1 (by rfl) z_range (a_cons (v_int) (a_nil))) (g_name 8 (by decide) sc_law.nd rfl (.inl rfl)) (ss_one (s_for PassesOwn.never rfl (i_rng1 (by rfl) z_range (a_cons (v_int) (a_nil))) (g_name 9 (by decide) sc_law.nd rfl (.inl rfl)) (ss_cons (s_if (t_not (t_tru (b_val (v_call D__law_is_bool (hr.mono (by decide)) (by rfl) (c_cons (b_val (v_call D_judge_holds (hr.mono (by decide)) (by rfl) (c_cons (b_val (v_name 4)) (c_cons (b_val (v_name 5)) (c_cons (b_val (v_ix hr.units (b_name 6) (b_name 9))) (c_nil)))))) (c_cons (b_val (v_call D__law_closed (hr.mono (by decide)) (by rfl) (c_cons (b_val (v_name 4)) (c_cons (b_val (v_name 5)) (c_cons (b_val (v_ix hr.units (b_name 6) (b_name 9))) (c_nil)))))) (c_nil))))))) (ss_one (s_ret (v_bl))) (ss_nil)) (ss_one (s_if (t_not (t_tru (b_val (v_call D__law_is_bool (hr.mono (by decide)) (by rfl) (c_cons (b_val (v_call D_judge_breaks (hr.mono (by decide)) (by rfl) (c_cons (b_val (v_name 4)) (c_cons (b_val (v_name 5)) (c_cons (b_val (v_ix hr.units (b_name 7) (b_name 9))) (c_nil)))))) (c_cons (b_val (v_call D__law_broken_by (hr.mono (by decide)) (by rfl) (c_cons (b_val (v_name 4)) (c_cons (b_val (v_name 5)) (c_cons (b_val (v_ix hr.units (b_name 7) (b_name 9))) (c_nil)))))) (c_nil))))))) (ss_one (s_ret (v_bl))) (ss_nil))))))) (ss_one (s_ret (v_bl)))))))))))
end
theorem all_mk [wd : Wd] {l : PySem.W.OpenLaw} {K : PySem.W.Frag} {h : Heap} {mg : Str → Option Value} {fa : Addr} (X : K.In h) (G : h.Ns mainGlobals mg) (hfa : mg "law" = some (.ref fa))
    {f_branch_with f_next_place f__law_begin f__law_draw f__law_pool f__law_watch_step f__law_is_bool f_branches_along f_judge_holds f__law_pick f__law_pop f__law_rare f__law_shuffled f__law_words f__law_met_pairs f__law_closed f__law_broken_by f_judge_breaks f__law_drawn_watch f__law_ladder f__law_wide_shown f__law_spared f__law_table f__law_blocks f__law_some_watch f__law_wide_chain f__law_some_chain f_law : Addr} {od_branch_with an_branch_with od_next_place an_next_place od__law_begin an__law_begin od__law_draw an__law_draw od__law_pool an__law_pool od__law_watch_step an__law_watch_step od__law_is_bool an__law_is_bool od_branches_along an_branches_along od_judge_holds an_judge_holds od__law_pick an__law_pick od__law_pop an__law_pop od__law_rare an__law_rare od__law_shuffled an__law_shuffled od__law_words an__law_words od__law_met_pairs an__law_met_pairs od__law_closed an__law_closed od__law_broken_by an__law_broken_by od_judge_breaks an_judge_breaks od__law_drawn_watch an__law_drawn_watch od__law_ladder an__law_ladder od__law_wide_shown an__law_wide_shown od__law_spared an__law_spared od__law_table an__law_table od__law_blocks an__law_blocks od__law_some_watch an__law_some_watch od__law_wide_chain an__law_wide_chain od__law_some_chain an__law_some_chain od_law an_law : Option Addr} {sl_branch_with sl_next_place sl__law_begin sl__law_draw sl__law_pool sl__law_watch_step sl__law_is_bool sl_branches_along sl_judge_holds sl__law_pick sl__law_pop sl__law_rare sl__law_shuffled sl__law_words sl__law_met_pairs sl__law_closed sl__law_broken_by sl_judge_breaks sl__law_drawn_watch sl__law_ladder sl__law_wide_shown sl__law_spared sl__law_table sl__law_blocks sl__law_some_watch sl__law_wide_chain sl__law_some_chain sl_law : Array (Option Value)} {oc_branch_with kV_branch_with dc_branch_with pm_branch_with cd_branch_with ct_branch_with oc_next_place kV_next_place dc_next_place pm_next_place cd_next_place ct_next_place oc__law_begin kV__law_begin dc__law_begin pm__law_begin cd__law_begin ct__law_begin oc__law_draw kV__law_draw dc__law_draw pm__law_draw cd__law_draw ct__law_draw oc__law_pool kV__law_pool dc__law_pool pm__law_pool cd__law_pool ct__law_pool oc__law_watch_step kV__law_watch_step dc__law_watch_step pm__law_watch_step cd__law_watch_step ct__law_watch_step oc__law_is_bool kV__law_is_bool dc__law_is_bool pm__law_is_bool cd__law_is_bool ct__law_is_bool oc_branches_along kV_branches_along dc_branches_along pm_branches_along cd_branches_along ct_branches_along oc_judge_holds kV_judge_holds dc_judge_holds pm_judge_holds cd_judge_holds ct_judge_holds oc__law_pick kV__law_pick dc__law_pick pm__law_pick cd__law_pick ct__law_pick oc__law_pop kV__law_pop dc__law_pop pm__law_pop cd__law_pop ct__law_pop oc__law_rare kV__law_rare dc__law_rare pm__law_rare cd__law_rare ct__law_rare oc__law_shuffled kV__law_shuffled dc__law_shuffled pm__law_shuffled cd__law_shuffled ct__law_shuffled oc__law_words kV__law_words dc__law_words pm__law_words cd__law_words ct__law_words oc__law_met_pairs kV__law_met_pairs dc__law_met_pairs pm__law_met_pairs cd__law_met_pairs ct__law_met_pairs oc__law_closed kV__law_closed dc__law_closed pm__law_closed cd__law_closed ct__law_closed oc__law_broken_by kV__law_broken_by dc__law_broken_by pm__law_broken_by cd__law_broken_by ct__law_broken_by oc_judge_breaks kV_judge_breaks dc_judge_breaks pm_judge_breaks cd_judge_breaks ct_judge_breaks oc__law_drawn_watch kV__law_drawn_watch dc__law_drawn_watch pm__law_drawn_watch cd__law_drawn_watch ct__law_drawn_watch oc__law_ladder kV__law_ladder dc__law_ladder pm__law_ladder cd__law_ladder ct__law_ladder oc__law_wide_shown kV__law_wide_shown dc__law_wide_shown pm__law_wide_shown cd__law_wide_shown ct__law_wide_shown oc__law_spared kV__law_spared dc__law_spared pm__law_spared cd__law_spared ct__law_spared oc__law_table kV__law_table dc__law_table pm__law_table cd__law_table ct__law_table oc__law_blocks kV__law_blocks dc__law_blocks pm__law_blocks cd__law_blocks ct__law_blocks oc__law_some_watch kV__law_some_watch dc__law_some_watch pm__law_some_watch cd__law_some_watch ct__law_some_watch oc__law_wide_chain kV__law_wide_chain dc__law_wide_chain pm__law_wide_chain cd__law_wide_chain ct__law_wide_chain oc__law_some_chain kV__law_some_chain dc__law_some_chain pm__law_some_chain cd__law_some_chain ct__law_some_chain oc_law kV_law dc_law pm_law cd_law ct_law : Value}
    (a_branch_with : PySem.W.nsIn K mainGlobals "branch_with" = some (some (.ref f_branch_with))) (l_branch_with : K.lookup f_branch_with = some ⟨oc_branch_with, od_branch_with, .func (PySem.W.fnOf "branch_with" "branch_with" (defArgs s_branch_with) (defBody s_branch_with) (defScope s_branch_with) .none kV_branch_with dc_branch_with pm_branch_with an_branch_with cd_branch_with ct_branch_with), sl_branch_with⟩) (e_branch_with : PySem.W.codeIn K cd_branch_with "branch_with" = true) (p_branch_with : PySem.W.keepIn K (.ref f_branch_with) = true)
    (a_next_place : PySem.W.nsIn K mainGlobals "next_place" = some (some (.ref f_next_place))) (l_next_place : K.lookup f_next_place = some ⟨oc_next_place, od_next_place, .func (PySem.W.fnOf "next_place" "next_place" (defArgs s_next_place) (defBody s_next_place) (defScope s_next_place) .none kV_next_place dc_next_place pm_next_place an_next_place cd_next_place ct_next_place), sl_next_place⟩) (e_next_place : PySem.W.codeIn K cd_next_place "next_place" = true) (p_next_place : PySem.W.keepIn K (.ref f_next_place) = true)
    (a__law_begin : PySem.W.nsIn K mainGlobals "_law_begin" = some (some (.ref f__law_begin))) (l__law_begin : K.lookup f__law_begin = some ⟨oc__law_begin, od__law_begin, .func (PySem.W.fnOf "_law_begin" "_law_begin" (defArgs s__law_begin) (defBody s__law_begin) (defScope s__law_begin) .none kV__law_begin dc__law_begin pm__law_begin an__law_begin cd__law_begin ct__law_begin), sl__law_begin⟩) (e__law_begin : PySem.W.codeIn K cd__law_begin "_law_begin" = true) (p__law_begin : PySem.W.keepIn K (.ref f__law_begin) = true)
    (a__law_draw : PySem.W.nsIn K mainGlobals "_law_draw" = some (some (.ref f__law_draw))) (l__law_draw : K.lookup f__law_draw = some ⟨oc__law_draw, od__law_draw, .func (PySem.W.fnOf "_law_draw" "_law_draw" (defArgs s__law_draw) (defBody s__law_draw) (defScope s__law_draw) .none kV__law_draw dc__law_draw pm__law_draw an__law_draw cd__law_draw ct__law_draw), sl__law_draw⟩) (e__law_draw : PySem.W.codeIn K cd__law_draw "_law_draw" = true) (p__law_draw : PySem.W.keepIn K (.ref f__law_draw) = true)
    (a__law_pool : PySem.W.nsIn K mainGlobals "_law_pool" = some (some (.ref f__law_pool))) (l__law_pool : K.lookup f__law_pool = some ⟨oc__law_pool, od__law_pool, .func (PySem.W.fnOf "_law_pool" "_law_pool" (defArgs s__law_pool) (defBody s__law_pool) (defScope s__law_pool) .none kV__law_pool dc__law_pool pm__law_pool an__law_pool cd__law_pool ct__law_pool), sl__law_pool⟩) (e__law_pool : PySem.W.codeIn K cd__law_pool "_law_pool" = true) (p__law_pool : PySem.W.keepIn K (.ref f__law_pool) = true)
    (a__law_watch_step : PySem.W.nsIn K mainGlobals "_law_watch_step" = some (some (.ref f__law_watch_step))) (l__law_watch_step : K.lookup f__law_watch_step = some ⟨oc__law_watch_step, od__law_watch_step, .func (PySem.W.fnOf "_law_watch_step" "_law_watch_step" (defArgs s__law_watch_step) (defBody s__law_watch_step) (defScope s__law_watch_step) .none kV__law_watch_step dc__law_watch_step pm__law_watch_step an__law_watch_step cd__law_watch_step ct__law_watch_step), sl__law_watch_step⟩) (e__law_watch_step : PySem.W.codeIn K cd__law_watch_step "_law_watch_step" = true) (p__law_watch_step : PySem.W.keepIn K (.ref f__law_watch_step) = true)
    (a__law_is_bool : PySem.W.nsIn K mainGlobals "_law_is_bool" = some (some (.ref f__law_is_bool))) (l__law_is_bool : K.lookup f__law_is_bool = some ⟨oc__law_is_bool, od__law_is_bool, .func (PySem.W.fnOf "_law_is_bool" "_law_is_bool" (defArgs s__law_is_bool) (defBody s__law_is_bool) (defScope s__law_is_bool) .none kV__law_is_bool dc__law_is_bool pm__law_is_bool an__law_is_bool cd__law_is_bool ct__law_is_bool), sl__law_is_bool⟩) (e__law_is_bool : PySem.W.codeIn K cd__law_is_bool "_law_is_bool" = true) (p__law_is_bool : PySem.W.keepIn K (.ref f__law_is_bool) = true)
    (a_branches_along : PySem.W.nsIn K mainGlobals "branches_along" = some (some (.ref f_branches_along))) (l_branches_along : K.lookup f_branches_along = some ⟨oc_branches_along, od_branches_along, .func (PySem.W.fnOf "branches_along" "branches_along" (defArgs s_branches_along) (defBody s_branches_along) (defScope s_branches_along) .none kV_branches_along dc_branches_along pm_branches_along an_branches_along cd_branches_along ct_branches_along), sl_branches_along⟩) (e_branches_along : PySem.W.codeIn K cd_branches_along "branches_along" = true) (p_branches_along : PySem.W.keepIn K (.ref f_branches_along) = true)
    (a_judge_holds : PySem.W.nsIn K mainGlobals "judge_holds" = some (some (.ref f_judge_holds))) (l_judge_holds : K.lookup f_judge_holds = some ⟨oc_judge_holds, od_judge_holds, .func (PySem.W.fnOf "judge_holds" "judge_holds" (defArgs s_judge_holds) (defBody s_judge_holds) (defScope s_judge_holds) .none kV_judge_holds dc_judge_holds pm_judge_holds an_judge_holds cd_judge_holds ct_judge_holds), sl_judge_holds⟩) (e_judge_holds : PySem.W.codeIn K cd_judge_holds "judge_holds" = true) (p_judge_holds : PySem.W.keepIn K (.ref f_judge_holds) = true)
    (a__law_pick : PySem.W.nsIn K mainGlobals "_law_pick" = some (some (.ref f__law_pick))) (l__law_pick : K.lookup f__law_pick = some ⟨oc__law_pick, od__law_pick, .func (PySem.W.fnOf "_law_pick" "_law_pick" (defArgs s__law_pick) (defBody s__law_pick) (defScope s__law_pick) .none kV__law_pick dc__law_pick pm__law_pick an__law_pick cd__law_pick ct__law_pick), sl__law_pick⟩) (e__law_pick : PySem.W.codeIn K cd__law_pick "_law_pick" = true) (p__law_pick : PySem.W.keepIn K (.ref f__law_pick) = true)
    (a__law_pop : PySem.W.nsIn K mainGlobals "_law_pop" = some (some (.ref f__law_pop))) (l__law_pop : K.lookup f__law_pop = some ⟨oc__law_pop, od__law_pop, .func (PySem.W.fnOf "_law_pop" "_law_pop" (defArgs s__law_pop) (defBody s__law_pop) (defScope s__law_pop) .none kV__law_pop dc__law_pop pm__law_pop an__law_pop cd__law_pop ct__law_pop), sl__law_pop⟩) (e__law_pop : PySem.W.codeIn K cd__law_pop "_law_pop" = true) (p__law_pop : PySem.W.keepIn K (.ref f__law_pop) = true)
    (a__law_rare : PySem.W.nsIn K mainGlobals "_law_rare" = some (some (.ref f__law_rare))) (l__law_rare : K.lookup f__law_rare = some ⟨oc__law_rare, od__law_rare, .func (PySem.W.fnOf "_law_rare" "_law_rare" (defArgs s__law_rare) (defBody s__law_rare) (defScope s__law_rare) .none kV__law_rare dc__law_rare pm__law_rare an__law_rare cd__law_rare ct__law_rare), sl__law_rare⟩) (e__law_rare : PySem.W.codeIn K cd__law_rare "_law_rare" = true) (p__law_rare : PySem.W.keepIn K (.ref f__law_rare) = true)
    (a__law_shuffled : PySem.W.nsIn K mainGlobals "_law_shuffled" = some (some (.ref f__law_shuffled))) (l__law_shuffled : K.lookup f__law_shuffled = some ⟨oc__law_shuffled, od__law_shuffled, .func (PySem.W.fnOf "_law_shuffled" "_law_shuffled" (defArgs s__law_shuffled) (defBody s__law_shuffled) (defScope s__law_shuffled) .none kV__law_shuffled dc__law_shuffled pm__law_shuffled an__law_shuffled cd__law_shuffled ct__law_shuffled), sl__law_shuffled⟩) (e__law_shuffled : PySem.W.codeIn K cd__law_shuffled "_law_shuffled" = true) (p__law_shuffled : PySem.W.keepIn K (.ref f__law_shuffled) = true)
    (a__law_words : PySem.W.nsIn K mainGlobals "_law_words" = some (some (.ref f__law_words))) (l__law_words : K.lookup f__law_words = some ⟨oc__law_words, od__law_words, .func (PySem.W.fnOf "_law_words" "_law_words" (defArgs s__law_words) (defBody s__law_words) (defScope s__law_words) .none kV__law_words dc__law_words pm__law_words an__law_words cd__law_words ct__law_words), sl__law_words⟩) (e__law_words : PySem.W.codeIn K cd__law_words "_law_words" = true) (p__law_words : PySem.W.keepIn K (.ref f__law_words) = true)
    (a__law_met_pairs : PySem.W.nsIn K mainGlobals "_law_met_pairs" = some (some (.ref f__law_met_pairs))) (l__law_met_pairs : K.lookup f__law_met_pairs = some ⟨oc__law_met_pairs, od__law_met_pairs, .func (PySem.W.fnOf "_law_met_pairs" "_law_met_pairs" (defArgs s__law_met_pairs) (defBody s__law_met_pairs) (defScope s__law_met_pairs) .none kV__law_met_pairs dc__law_met_pairs pm__law_met_pairs an__law_met_pairs cd__law_met_pairs ct__law_met_pairs), sl__law_met_pairs⟩) (e__law_met_pairs : PySem.W.codeIn K cd__law_met_pairs "_law_met_pairs" = true) (p__law_met_pairs : PySem.W.keepIn K (.ref f__law_met_pairs) = true)
    (a__law_closed : PySem.W.nsIn K mainGlobals "_law_closed" = some (some (.ref f__law_closed))) (l__law_closed : K.lookup f__law_closed = some ⟨oc__law_closed, od__law_closed, .func (PySem.W.fnOf "_law_closed" "_law_closed" (defArgs s__law_closed) (defBody s__law_closed) (defScope s__law_closed) .none kV__law_closed dc__law_closed pm__law_closed an__law_closed cd__law_closed ct__law_closed), sl__law_closed⟩) (e__law_closed : PySem.W.codeIn K cd__law_closed "_law_closed" = true) (p__law_closed : PySem.W.keepIn K (.ref f__law_closed) = true)
    (a__law_broken_by : PySem.W.nsIn K mainGlobals "_law_broken_by" = some (some (.ref f__law_broken_by))) (l__law_broken_by : K.lookup f__law_broken_by = some ⟨oc__law_broken_by, od__law_broken_by, .func (PySem.W.fnOf "_law_broken_by" "_law_broken_by" (defArgs s__law_broken_by) (defBody s__law_broken_by) (defScope s__law_broken_by) .none kV__law_broken_by dc__law_broken_by pm__law_broken_by an__law_broken_by cd__law_broken_by ct__law_broken_by), sl__law_broken_by⟩) (e__law_broken_by : PySem.W.codeIn K cd__law_broken_by "_law_broken_by" = true) (p__law_broken_by : PySem.W.keepIn K (.ref f__law_broken_by) = true)
    (a_judge_breaks : PySem.W.nsIn K mainGlobals "judge_breaks" = some (some (.ref f_judge_breaks))) (l_judge_breaks : K.lookup f_judge_breaks = some ⟨oc_judge_breaks, od_judge_breaks, .func (PySem.W.fnOf "judge_breaks" "judge_breaks" (defArgs s_judge_breaks) (defBody s_judge_breaks) (defScope s_judge_breaks) .none kV_judge_breaks dc_judge_breaks pm_judge_breaks an_judge_breaks cd_judge_breaks ct_judge_breaks), sl_judge_breaks⟩) (e_judge_breaks : PySem.W.codeIn K cd_judge_breaks "judge_breaks" = true) (p_judge_breaks : PySem.W.keepIn K (.ref f_judge_breaks) = true)
    (a__law_drawn_watch : PySem.W.nsIn K mainGlobals "_law_drawn_watch" = some (some (.ref f__law_drawn_watch))) (l__law_drawn_watch : K.lookup f__law_drawn_watch = some ⟨oc__law_drawn_watch, od__law_drawn_watch, .func (PySem.W.fnOf "_law_drawn_watch" "_law_drawn_watch" (defArgs s__law_drawn_watch) (defBody s__law_drawn_watch) (defScope s__law_drawn_watch) .none kV__law_drawn_watch dc__law_drawn_watch pm__law_drawn_watch an__law_drawn_watch cd__law_drawn_watch ct__law_drawn_watch), sl__law_drawn_watch⟩) (e__law_drawn_watch : PySem.W.codeIn K cd__law_drawn_watch "_law_drawn_watch" = true) (p__law_drawn_watch : PySem.W.keepIn K (.ref f__law_drawn_watch) = true)
    (a__law_ladder : PySem.W.nsIn K mainGlobals "_law_ladder" = some (some (.ref f__law_ladder))) (l__law_ladder : K.lookup f__law_ladder = some ⟨oc__law_ladder, od__law_ladder, .func (PySem.W.fnOf "_law_ladder" "_law_ladder" (defArgs s__law_ladder) (defBody s__law_ladder) (defScope s__law_ladder) .none kV__law_ladder dc__law_ladder pm__law_ladder an__law_ladder cd__law_ladder ct__law_ladder), sl__law_ladder⟩) (e__law_ladder : PySem.W.codeIn K cd__law_ladder "_law_ladder" = true) (p__law_ladder : PySem.W.keepIn K (.ref f__law_ladder) = true)
    (a__law_wide_shown : PySem.W.nsIn K mainGlobals "_law_wide_shown" = some (some (.ref f__law_wide_shown))) (l__law_wide_shown : K.lookup f__law_wide_shown = some ⟨oc__law_wide_shown, od__law_wide_shown, .func (PySem.W.fnOf "_law_wide_shown" "_law_wide_shown" (defArgs s__law_wide_shown) (defBody s__law_wide_shown) (defScope s__law_wide_shown) .none kV__law_wide_shown dc__law_wide_shown pm__law_wide_shown an__law_wide_shown cd__law_wide_shown ct__law_wide_shown), sl__law_wide_shown⟩) (e__law_wide_shown : PySem.W.codeIn K cd__law_wide_shown "_law_wide_shown" = true) (p__law_wide_shown : PySem.W.keepIn K (.ref f__law_wide_shown) = true)
    (a__law_spared : PySem.W.nsIn K mainGlobals "_law_spared" = some (some (.ref f__law_spared))) (l__law_spared : K.lookup f__law_spared = some ⟨oc__law_spared, od__law_spared, .func (PySem.W.fnOf "_law_spared" "_law_spared" (defArgs s__law_spared) (defBody s__law_spared) (defScope s__law_spared) .none kV__law_spared dc__law_spared pm__law_spared an__law_spared cd__law_spared ct__law_spared), sl__law_spared⟩) (e__law_spared : PySem.W.codeIn K cd__law_spared "_law_spared" = true) (p__law_spared : PySem.W.keepIn K (.ref f__law_spared) = true)
    (a__law_table : PySem.W.nsIn K mainGlobals "_law_table" = some (some (.ref f__law_table))) (l__law_table : K.lookup f__law_table = some ⟨oc__law_table, od__law_table, .func (PySem.W.fnOf "_law_table" "_law_table" (defArgs s__law_table) (defBody s__law_table) (defScope s__law_table) .none kV__law_table dc__law_table pm__law_table an__law_table cd__law_table ct__law_table), sl__law_table⟩) (e__law_table : PySem.W.codeIn K cd__law_table "_law_table" = true) (p__law_table : PySem.W.keepIn K (.ref f__law_table) = true)
    (a__law_blocks : PySem.W.nsIn K mainGlobals "_law_blocks" = some (some (.ref f__law_blocks))) (l__law_blocks : K.lookup f__law_blocks = some ⟨oc__law_blocks, od__law_blocks, .func (PySem.W.fnOf "_law_blocks" "_law_blocks" (defArgs s__law_blocks) (defBody s__law_blocks) (defScope s__law_blocks) .none kV__law_blocks dc__law_blocks pm__law_blocks an__law_blocks cd__law_blocks ct__law_blocks), sl__law_blocks⟩) (e__law_blocks : PySem.W.codeIn K cd__law_blocks "_law_blocks" = true) (p__law_blocks : PySem.W.keepIn K (.ref f__law_blocks) = true)
    (a__law_some_watch : PySem.W.nsIn K mainGlobals "_law_some_watch" = some (some (.ref f__law_some_watch))) (l__law_some_watch : K.lookup f__law_some_watch = some ⟨oc__law_some_watch, od__law_some_watch, .func (PySem.W.fnOf "_law_some_watch" "_law_some_watch" (defArgs s__law_some_watch) (defBody s__law_some_watch) (defScope s__law_some_watch) .none kV__law_some_watch dc__law_some_watch pm__law_some_watch an__law_some_watch cd__law_some_watch ct__law_some_watch), sl__law_some_watch⟩) (e__law_some_watch : PySem.W.codeIn K cd__law_some_watch "_law_some_watch" = true) (p__law_some_watch : PySem.W.keepIn K (.ref f__law_some_watch) = true)
    (a__law_wide_chain : PySem.W.nsIn K mainGlobals "_law_wide_chain" = some (some (.ref f__law_wide_chain))) (l__law_wide_chain : K.lookup f__law_wide_chain = some ⟨oc__law_wide_chain, od__law_wide_chain, .func (PySem.W.fnOf "_law_wide_chain" "_law_wide_chain" (defArgs s__law_wide_chain) (defBody s__law_wide_chain) (defScope s__law_wide_chain) .none kV__law_wide_chain dc__law_wide_chain pm__law_wide_chain an__law_wide_chain cd__law_wide_chain ct__law_wide_chain), sl__law_wide_chain⟩) (e__law_wide_chain : PySem.W.codeIn K cd__law_wide_chain "_law_wide_chain" = true) (p__law_wide_chain : PySem.W.keepIn K (.ref f__law_wide_chain) = true)
    (a__law_some_chain : PySem.W.nsIn K mainGlobals "_law_some_chain" = some (some (.ref f__law_some_chain))) (l__law_some_chain : K.lookup f__law_some_chain = some ⟨oc__law_some_chain, od__law_some_chain, .func (PySem.W.fnOf "_law_some_chain" "_law_some_chain" (defArgs s__law_some_chain) (defBody s__law_some_chain) (defScope s__law_some_chain) .none kV__law_some_chain dc__law_some_chain pm__law_some_chain an__law_some_chain cd__law_some_chain ct__law_some_chain), sl__law_some_chain⟩) (e__law_some_chain : PySem.W.codeIn K cd__law_some_chain "_law_some_chain" = true) (p__law_some_chain : PySem.W.keepIn K (.ref f__law_some_chain) = true)
    (a_law : PySem.W.nsIn K mainGlobals "law" = some (some (.ref f_law))) (l_law : K.lookup f_law = some ⟨oc_law, od_law, .func (PySem.W.fnOf "law" "law" (defArgs s_law) (defBody s_law) (defScope s_law) .none kV_law dc_law pm_law an_law cd_law ct_law), sl_law⟩) (e_law : PySem.W.codeIn K cd_law "law" = true) (p_law : PySem.W.keepIn K (.ref f_law) = true)
    (z_abs : PySem.W.nsIn K mainGlobals "abs" = some none)
    (z_bool : PySem.W.nsIn K mainGlobals "bool" = some none)
    (z_int : PySem.W.nsIn K mainGlobals "int" = some none)
    (z_isinstance : PySem.W.nsIn K mainGlobals "isinstance" = some none)
    (z_len : PySem.W.nsIn K mainGlobals "len" = some none)
    (z_list : PySem.W.nsIn K mainGlobals "list" = some none)
    (z_min : PySem.W.nsIn K mainGlobals "min" = some none)
    (z_range : PySem.W.nsIn K mainGlobals "range" = some none)
    (z_sorted : PySem.W.nsIn K mainGlobals "sorted" = some none)
    (z_tuple : PySem.W.nsIn K mainGlobals "tuple" = some none)
    : ∃ fd : FuncData, (∀ (s : Shared) (v : Value), BindsTo s fd ⟨[v], []⟩ [("script", v)]) ∧ ∀ base : Heap, K.In base → base.Ns mainGlobals mg → FnOk l.prog Wd.w K mg base CX0 6 fa fd ["script"] (Prm K 1 m_law) := by
  have e := hfa.symm.trans (PySem.W.mg_of X G a_law)
  cases e
  have F_branch_with := fun_mk (st := s_branch_with) l_branch_with e_branch_with p_branch_with
  have T_branch_with : Tp K mg "branch_with" s_branch_with := ⟨_, _, F_branch_with, PySem.W.mg_of X G a_branch_with⟩
  have F_next_place := fun_mk (st := s_next_place) l_next_place e_next_place p_next_place
  have T_next_place : Tp K mg "next_place" s_next_place := ⟨_, _, F_next_place, PySem.W.mg_of X G a_next_place⟩
  have F__law_begin := fun_mk (st := s__law_begin) l__law_begin e__law_begin p__law_begin
  have T__law_begin : Tp K mg "_law_begin" s__law_begin := ⟨_, _, F__law_begin, PySem.W.mg_of X G a__law_begin⟩
  have F__law_draw := fun_mk (st := s__law_draw) l__law_draw e__law_draw p__law_draw
  have T__law_draw : Tp K mg "_law_draw" s__law_draw := ⟨_, _, F__law_draw, PySem.W.mg_of X G a__law_draw⟩
  have F__law_pool := fun_mk (st := s__law_pool) l__law_pool e__law_pool p__law_pool
  have T__law_pool : Tp K mg "_law_pool" s__law_pool := ⟨_, _, F__law_pool, PySem.W.mg_of X G a__law_pool⟩
  have F__law_watch_step := fun_mk (st := s__law_watch_step) l__law_watch_step e__law_watch_step p__law_watch_step
  have T__law_watch_step : Tp K mg "_law_watch_step" s__law_watch_step := ⟨_, _, F__law_watch_step, PySem.W.mg_of X G a__law_watch_step⟩
  have F__law_is_bool := fun_mk (st := s__law_is_bool) l__law_is_bool e__law_is_bool p__law_is_bool
  have T__law_is_bool : Tp K mg "_law_is_bool" s__law_is_bool := ⟨_, _, F__law_is_bool, PySem.W.mg_of X G a__law_is_bool⟩
  have F_branches_along := fun_mk (st := s_branches_along) l_branches_along e_branches_along p_branches_along
  have T_branches_along : Tp K mg "branches_along" s_branches_along := ⟨_, _, F_branches_along, PySem.W.mg_of X G a_branches_along⟩
  have F_judge_holds := fun_mk (st := s_judge_holds) l_judge_holds e_judge_holds p_judge_holds
  have T_judge_holds : Tp K mg "judge_holds" s_judge_holds := ⟨_, _, F_judge_holds, PySem.W.mg_of X G a_judge_holds⟩
  have F__law_pick := fun_mk (st := s__law_pick) l__law_pick e__law_pick p__law_pick
  have T__law_pick : Tp K mg "_law_pick" s__law_pick := ⟨_, _, F__law_pick, PySem.W.mg_of X G a__law_pick⟩
  have F__law_pop := fun_mk (st := s__law_pop) l__law_pop e__law_pop p__law_pop
  have T__law_pop : Tp K mg "_law_pop" s__law_pop := ⟨_, _, F__law_pop, PySem.W.mg_of X G a__law_pop⟩
  have F__law_rare := fun_mk (st := s__law_rare) l__law_rare e__law_rare p__law_rare
  have T__law_rare : Tp K mg "_law_rare" s__law_rare := ⟨_, _, F__law_rare, PySem.W.mg_of X G a__law_rare⟩
  have F__law_shuffled := fun_mk (st := s__law_shuffled) l__law_shuffled e__law_shuffled p__law_shuffled
  have T__law_shuffled : Tp K mg "_law_shuffled" s__law_shuffled := ⟨_, _, F__law_shuffled, PySem.W.mg_of X G a__law_shuffled⟩
  have F__law_words := fun_mk (st := s__law_words) l__law_words e__law_words p__law_words
  have T__law_words : Tp K mg "_law_words" s__law_words := ⟨_, _, F__law_words, PySem.W.mg_of X G a__law_words⟩
  have F__law_met_pairs := fun_mk (st := s__law_met_pairs) l__law_met_pairs e__law_met_pairs p__law_met_pairs
  have T__law_met_pairs : Tp K mg "_law_met_pairs" s__law_met_pairs := ⟨_, _, F__law_met_pairs, PySem.W.mg_of X G a__law_met_pairs⟩
  have F__law_closed := fun_mk (st := s__law_closed) l__law_closed e__law_closed p__law_closed
  have T__law_closed : Tp K mg "_law_closed" s__law_closed := ⟨_, _, F__law_closed, PySem.W.mg_of X G a__law_closed⟩
  have F__law_broken_by := fun_mk (st := s__law_broken_by) l__law_broken_by e__law_broken_by p__law_broken_by
  have T__law_broken_by : Tp K mg "_law_broken_by" s__law_broken_by := ⟨_, _, F__law_broken_by, PySem.W.mg_of X G a__law_broken_by⟩
  have F_judge_breaks := fun_mk (st := s_judge_breaks) l_judge_breaks e_judge_breaks p_judge_breaks
  have T_judge_breaks : Tp K mg "judge_breaks" s_judge_breaks := ⟨_, _, F_judge_breaks, PySem.W.mg_of X G a_judge_breaks⟩
  have F__law_drawn_watch := fun_mk (st := s__law_drawn_watch) l__law_drawn_watch e__law_drawn_watch p__law_drawn_watch
  have T__law_drawn_watch : Tp K mg "_law_drawn_watch" s__law_drawn_watch := ⟨_, _, F__law_drawn_watch, PySem.W.mg_of X G a__law_drawn_watch⟩
  have F__law_ladder := fun_mk (st := s__law_ladder) l__law_ladder e__law_ladder p__law_ladder
  have T__law_ladder : Tp K mg "_law_ladder" s__law_ladder := ⟨_, _, F__law_ladder, PySem.W.mg_of X G a__law_ladder⟩
  have F__law_wide_shown := fun_mk (st := s__law_wide_shown) l__law_wide_shown e__law_wide_shown p__law_wide_shown
  have T__law_wide_shown : Tp K mg "_law_wide_shown" s__law_wide_shown := ⟨_, _, F__law_wide_shown, PySem.W.mg_of X G a__law_wide_shown⟩
  have F__law_spared := fun_mk (st := s__law_spared) l__law_spared e__law_spared p__law_spared
  have T__law_spared : Tp K mg "_law_spared" s__law_spared := ⟨_, _, F__law_spared, PySem.W.mg_of X G a__law_spared⟩
  have F__law_table := fun_mk (st := s__law_table) l__law_table e__law_table p__law_table
  have T__law_table : Tp K mg "_law_table" s__law_table := ⟨_, _, F__law_table, PySem.W.mg_of X G a__law_table⟩
  have F__law_blocks := fun_mk (st := s__law_blocks) l__law_blocks e__law_blocks p__law_blocks
  have T__law_blocks : Tp K mg "_law_blocks" s__law_blocks := ⟨_, _, F__law_blocks, PySem.W.mg_of X G a__law_blocks⟩
  have F__law_some_watch := fun_mk (st := s__law_some_watch) l__law_some_watch e__law_some_watch p__law_some_watch
  have T__law_some_watch : Tp K mg "_law_some_watch" s__law_some_watch := ⟨_, _, F__law_some_watch, PySem.W.mg_of X G a__law_some_watch⟩
  have F__law_wide_chain := fun_mk (st := s__law_wide_chain) l__law_wide_chain e__law_wide_chain p__law_wide_chain
  have T__law_wide_chain : Tp K mg "_law_wide_chain" s__law_wide_chain := ⟨_, _, F__law_wide_chain, PySem.W.mg_of X G a__law_wide_chain⟩
  have F__law_some_chain := fun_mk (st := s__law_some_chain) l__law_some_chain e__law_some_chain p__law_some_chain
  have T__law_some_chain : Tp K mg "_law_some_chain" s__law_some_chain := ⟨_, _, F__law_some_chain, PySem.W.mg_of X G a__law_some_chain⟩
  have F_law := fun_mk (st := s_law) l_law e_law p_law
  have T_law : Tp K mg "law" s_law := ⟨_, _, F_law, PySem.W.mg_of X G a_law⟩
  have y_abs := PySem.W.mg_none_of X G z_abs
  have y_bool := PySem.W.mg_none_of X G z_bool
  have y_int := PySem.W.mg_none_of X G z_int
  have y_isinstance := PySem.W.mg_none_of X G z_isinstance
  have y_len := PySem.W.mg_none_of X G z_len
  have y_list := PySem.W.mg_none_of X G z_list
  have y_min := PySem.W.mg_none_of X G z_min
  have y_range := PySem.W.mg_none_of X G z_range
  have y_sorted := PySem.W.mg_none_of X G z_sorted
  have y_tuple := PySem.W.mg_none_of X G z_tuple
  refine ⟨PySem.W.fnOf "law" "law" (defArgs s_law) (defBody s_law) (defScope s_law) .none kV_law dc_law pm_law an_law cd_law ct_law, fun s v => .of_eq rfl, fun base _ _ => ?_⟩
  have D_branch_with : Df l.prog Wd.w K mg base 1 "branch_with" 2 m_branch_with := df_branch_with T_branch_with 
  have D_next_place : Df l.prog Wd.w K mg base 1 "next_place" 3 m_next_place := df_next_place T_next_place 
  have D__law_begin : Df l.prog Wd.w K mg base 1 "_law_begin" 1 m__law_begin := df__law_begin T__law_begin y_int
  have D__law_draw : Df l.prog Wd.w K mg base 1 "_law_draw" 2 m__law_draw := df__law_draw T__law_draw y_abs y_int y_len
  have D__law_pool : Df l.prog Wd.w K mg base 1 "_law_pool" 0 m__law_pool := df__law_pool T__law_pool 
  have D__law_watch_step : Df l.prog Wd.w K mg base 1 "_law_watch_step" 3 m__law_watch_step := df__law_watch_step T__law_watch_step 
  have D__law_is_bool : Df l.prog Wd.w K mg base 1 "_law_is_bool" 2 m__law_is_bool := df__law_is_bool T__law_is_bool y_bool y_isinstance
  have D_branches_along : Df l.prog Wd.w K mg base 2 "branches_along" 3 m_branches_along := df_branches_along T_branches_along D_branch_with
  have D_judge_holds : Df l.prog Wd.w K mg base 2 "judge_holds" 3 m_judge_holds := df_judge_holds T_judge_holds y_len D_next_place
  have D__law_pick : Df l.prog Wd.w K mg base 2 "_law_pick" 2 m__law_pick := df__law_pick T__law_pick y_len D__law_draw
  have D__law_pop : Df l.prog Wd.w K mg base 2 "_law_pop" 2 m__law_pop := df__law_pop T__law_pop y_len D__law_draw
  have D__law_rare : Df l.prog Wd.w K mg base 2 "_law_rare" 2 m__law_rare := df__law_rare T__law_rare D__law_draw
  have D__law_shuffled : Df l.prog Wd.w K mg base 2 "_law_shuffled" 2 m__law_shuffled := df__law_shuffled T__law_shuffled y_len y_list y_range D__law_draw
  have D__law_words : Df l.prog Wd.w K mg base 2 "_law_words" 3 m__law_words := df__law_words T__law_words y_len y_range y_sorted D__law_draw
  have D__law_met_pairs : Df l.prog Wd.w K mg base 2 "_law_met_pairs" 3 m__law_met_pairs := df__law_met_pairs T__law_met_pairs y_len D__law_watch_step
  have D__law_closed : Df l.prog Wd.w K mg base 2 "_law_closed" 3 m__law_closed := df__law_closed T__law_closed y_len D__law_watch_step
  have D__law_broken_by : Df l.prog Wd.w K mg base 2 "_law_broken_by" 3 m__law_broken_by := df__law_broken_by T__law_broken_by y_len D__law_watch_step
  have D_judge_breaks : Df l.prog Wd.w K mg base 3 "judge_breaks" 3 m_judge_breaks := df_judge_breaks T_judge_breaks D_next_place D_branches_along
  have D__law_drawn_watch : Df l.prog Wd.w K mg base 3 "_law_drawn_watch" 3 m__law_drawn_watch := df__law_drawn_watch T__law_drawn_watch y_len y_list y_min y_range y_tuple D__law_draw D__law_pop D__law_rare
  have D__law_ladder : Df l.prog Wd.w K mg base 3 "_law_ladder" 4 m__law_ladder := df__law_ladder T__law_ladder y_len y_min y_range y_tuple D__law_draw D__law_pick D__law_words
  have D__law_wide_shown : Df l.prog Wd.w K mg base 3 "_law_wide_shown" 2 m__law_wide_shown := df__law_wide_shown T__law_wide_shown y_range y_tuple D__law_pick
  have D__law_spared : Df l.prog Wd.w K mg base 3 "_law_spared" 3 m__law_spared := df__law_spared T__law_spared y_tuple D__law_draw D__law_met_pairs
  have D__law_table : Df l.prog Wd.w K mg base 3 "_law_table" 3 m__law_table := df__law_table T__law_table y_len y_range y_tuple D__law_draw D__law_pick D__law_shuffled D__law_met_pairs
  have D__law_blocks : Df l.prog Wd.w K mg base 3 "_law_blocks" 2 m__law_blocks := df__law_blocks T__law_blocks y_int y_len y_range y_tuple D__law_draw D__law_pick D__law_rare
  have D__law_some_watch : Df l.prog Wd.w K mg base 4 "_law_some_watch" 3 m__law_some_watch := df__law_some_watch T__law_some_watch y_range y_tuple D__law_draw D__law_drawn_watch
  have D__law_wide_chain : Df l.prog Wd.w K mg base 4 "_law_wide_chain" 4 m__law_wide_chain := df__law_wide_chain T__law_wide_chain y_range y_tuple D__law_draw D__law_words D__law_wide_shown
  have D__law_some_chain : Df l.prog Wd.w K mg base 5 "_law_some_chain" 3 m__law_some_chain := df__law_some_chain T__law_some_chain D__law_draw D__law_rare D__law_ladder D__law_wide_chain
  exact df_law F_law y_range D__law_begin D__law_draw D__law_pool D__law_is_bool D_judge_holds D__law_pop D__law_closed D__law_broken_by D_judge_breaks D__law_spared D__law_table D__law_blocks D__law_some_watch D__law_some_chain
end K75
open PySem PySem.W PyProof.Rows
set_option maxHeartbeats 0 in
theorem PySem.Challenge.cw_meantrace_k75_claims_judged_holds : PySem.Challenge.rw_meantrace_k75_claims_judged.Holds := by
  w_on; o_law; k_head; (case hw => w_witness2)
  k_fill
  refine L2.walk_of (l := PySem.Challenge.rw_meantrace_k75_claims_judged) (n := 63) (k := 6) (x := "script") (CX := fun _ => L2.CX0) (sp := fun w => @Fx.Prm ⟨w⟩ _ 1 K75.m_law) rfl (by decide) rfl ⟨rfl, by decide, by decide⟩ (fun w h Y => PySem.W.kIn_of Y) ?F (fun w H a ns hl ho hS => @Fx.law_end ⟨w⟩ _ _ _ _ _ _ (@K75.law_true ⟨w⟩ ns hl) hS) (fun _ _ _ _ _ h => h)
  case F =>
    intro w mg fa h KX G hmg
    refine' K75.all_mk (wd := ⟨w⟩) KX G hmg ?a_branch_with ?l_branch_with ?e_branch_with ?p_branch_with ?a_next_place ?l_next_place ?e_next_place ?p_next_place ?a__law_begin ?l__law_begin ?e__law_begin ?p__law_begin ?a__law_draw ?l__law_draw ?e__law_draw ?p__law_draw ?a__law_pool ?l__law_pool ?e__law_pool ?p__law_pool ?a__law_watch_step ?l__law_watch_step ?e__law_watch_step ?p__law_watch_step ?a__law_is_bool ?l__law_is_bool ?e__law_is_bool ?p__law_is_bool ?a_branches_along ?l_branches_along ?e_branches_along ?p_branches_along ?a_judge_holds ?l_judge_holds ?e_judge_holds ?p_judge_holds ?a__law_pick ?l__law_pick ?e__law_pick ?p__law_pick ?a__law_pop ?l__law_pop ?e__law_pop ?p__law_pop ?a__law_rare ?l__law_rare ?e__law_rare ?p__law_rare ?a__law_shuffled ?l__law_shuffled ?e__law_shuffled ?p__law_shuffled ?a__law_words ?l__law_words ?e__law_words ?p__law_words ?a__law_met_pairs ?l__law_met_pairs ?e__law_met_pairs ?p__law_met_pairs ?a__law_closed ?l__law_closed ?e__law_closed ?p__law_closed ?a__law_broken_by ?l__law_broken_by ?e__law_broken_by ?p__law_broken_by ?a_judge_breaks ?l_judge_breaks ?e_judge_breaks ?p_judge_breaks ?a__law_drawn_watch ?l__law_drawn_watch ?e__law_drawn_watch ?p__law_drawn_watch ?a__law_ladder ?l__law_ladder ?e__law_ladder ?p__law_ladder ?a__law_wide_shown ?l__law_wide_shown ?e__law_wide_shown ?p__law_wide_shown ?a__law_spared ?l__law_spared ?e__law_spared ?p__law_spared ?a__law_table ?l__law_table ?e__law_table ?p__law_table ?a__law_blocks ?l__law_blocks ?e__law_blocks ?p__law_blocks ?a__law_some_watch ?l__law_some_watch ?e__law_some_watch ?p__law_some_watch ?a__law_wide_chain ?l__law_wide_chain ?e__law_wide_chain ?p__law_wide_chain ?a__law_some_chain ?l__law_some_chain ?e__law_some_chain ?p__law_some_chain ?a_law ?l_law ?e_law ?p_law ?z_abs ?z_bool ?z_int ?z_isinstance ?z_len ?z_list ?z_min ?z_range ?z_sorted ?z_tuple
    (case a_branch_with => k_is); (case l_branch_with => k_is); (case e_branch_with => k_is); (case p_branch_with => k_is); (case a_next_place => k_is); (case l_next_place => k_is); (case e_next_place => k_is); (case p_next_place => k_is); (case a__law_begin => k_is); (case l__law_begin => k_is); (case e__law_begin => k_is); (case p__law_begin => k_is); (case a__law_draw => k_is); (case l__law_draw => k_is); (case e__law_draw => k_is); (case p__law_draw => k_is); (case a__law_pool => k_is); (case l__law_pool => k_is); (case e__law_pool => k_is); (case p__law_pool => k_is); (case a__law_watch_step => k_is); (case l__law_watch_step => k_is); (case e__law_watch_step => k_is); (case p__law_watch_step => k_is); (case a__law_is_bool => k_is); (case l__law_is_bool => k_is); (case e__law_is_bool => k_is); (case p__law_is_bool => k_is); (case a_branches_along => k_is); (case l_branches_along => k_is); (case e_branches_along => k_is); (case p_branches_along => k_is); (case a_judge_holds => k_is); (case l_judge_holds => k_is); (case e_judge_holds => k_is); (case p_judge_holds => k_is); (case a__law_pick => k_is); (case l__law_pick => k_is); (case e__law_pick => k_is); (case p__law_pick => k_is); (case a__law_pop => k_is); (case l__law_pop => k_is); (case e__law_pop => k_is); (case p__law_pop => k_is); (case a__law_rare => k_is); (case l__law_rare => k_is); (case e__law_rare => k_is); (case p__law_rare => k_is); (case a__law_shuffled => k_is); (case l__law_shuffled => k_is); (case e__law_shuffled => k_is); (case p__law_shuffled => k_is); (case a__law_words => k_is); (case l__law_words => k_is); (case e__law_words => k_is); (case p__law_words => k_is); (case a__law_met_pairs => k_is); (case l__law_met_pairs => k_is); (case e__law_met_pairs => k_is); (case p__law_met_pairs => k_is); (case a__law_closed => k_is); (case l__law_closed => k_is); (case e__law_closed => k_is); (case p__law_closed => k_is); (case a__law_broken_by => k_is); (case l__law_broken_by => k_is); (case e__law_broken_by => k_is); (case p__law_broken_by => k_is); (case a_judge_breaks => k_is); (case l_judge_breaks => k_is); (case e_judge_breaks => k_is); (case p_judge_breaks => k_is); (case a__law_drawn_watch => k_is); (case l__law_drawn_watch => k_is); (case e__law_drawn_watch => k_is); (case p__law_drawn_watch => k_is); (case a__law_ladder => k_is); (case l__law_ladder => k_is); (case e__law_ladder => k_is); (case p__law_ladder => k_is); (case a__law_wide_shown => k_is); (case l__law_wide_shown => k_is); (case e__law_wide_shown => k_is); (case p__law_wide_shown => k_is); (case a__law_spared => k_is); (case l__law_spared => k_is); (case e__law_spared => k_is); (case p__law_spared => k_is); (case a__law_table => k_is); (case l__law_table => k_is); (case e__law_table => k_is); (case p__law_table => k_is); (case a__law_blocks => k_is); (case l__law_blocks => k_is); (case e__law_blocks => k_is); (case p__law_blocks => k_is); (case a__law_some_watch => k_is); (case l__law_some_watch => k_is); (case e__law_some_watch => k_is); (case p__law_some_watch => k_is); (case a__law_wide_chain => k_is); (case l__law_wide_chain => k_is); (case e__law_wide_chain => k_is); (case p__law_wide_chain => k_is); (case a__law_some_chain => k_is); (case l__law_some_chain => k_is); (case e__law_some_chain => k_is); (case p__law_some_chain => k_is); (case a_law => k_is); (case l_law => k_is); (case e_law => k_is); (case p_law => k_is); (case z_abs => k_is); (case z_bool => k_is); (case z_int => k_is); (case z_isinstance => k_is); (case z_len => k_is); (case z_list => k_is); (case z_min => k_is); (case z_range => k_is); (case z_sorted => k_is); (case z_tuple => k_is)
