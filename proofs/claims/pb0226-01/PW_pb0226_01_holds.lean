import PyProof.Rows.All
import Wide.All
import OpenK.AllK
import Wide.FinOn
import PySem.Challenge.RW_pb0226_01
set_option Elab.async false
set_option maxRecDepth 100000
set_option compiler.extract_closed false
namespace Mine
section
open PySem PySem.W PySem.Calls PyProof.Rows
theorem room_lit {d a b : Nat} (h : d + b < recursionLimit) (hab : a ≤ b) : d + a < recursionLimit := Nat.lt_of_le_of_lt (Nat.add_le_add_left hab d) h
theorem units_lit {d a b : Nat} (h : d + b < cLine) (hab : a ≤ b) : d + a < cLine := Nat.lt_of_le_of_lt (Nat.add_le_add_left hab d) h
section
variable {a b : Nat} {p1 p2 p3 p4 p5 p6 p7 p8 p9 q : Prop}
theorem ne1 (h : a < b ∧ q) : a ≠ b := Nat.ne_of_lt h.1
theorem ne2 (h : p1 ∧ a < b ∧ q) : a ≠ b := Nat.ne_of_lt h.2.1
theorem ne3 (h : p1 ∧ p2 ∧ a < b ∧ q) : a ≠ b := Nat.ne_of_lt h.2.2.1
theorem ne4 (h : p1 ∧ p2 ∧ p3 ∧ a < b ∧ q) : a ≠ b := Nat.ne_of_lt h.2.2.2.1
theorem ne5 (h : p1 ∧ p2 ∧ p3 ∧ p4 ∧ a < b ∧ q) : a ≠ b := Nat.ne_of_lt h.2.2.2.2.1
theorem ne6 (h : p1 ∧ p2 ∧ p3 ∧ p4 ∧ p5 ∧ a < b ∧ q) : a ≠ b := Nat.ne_of_lt h.2.2.2.2.2.1
theorem ne7 (h : p1 ∧ p2 ∧ p3 ∧ p4 ∧ p5 ∧ p6 ∧ a < b ∧ q) : a ≠ b := Nat.ne_of_lt h.2.2.2.2.2.2.1
theorem ne8 (h : p1 ∧ p2 ∧ p3 ∧ p4 ∧ p5 ∧ p6 ∧ p7 ∧ a < b ∧ q) : a ≠ b := Nat.ne_of_lt h.2.2.2.2.2.2.2.1
theorem ne9 (h : p1 ∧ p2 ∧ p3 ∧ p4 ∧ p5 ∧ p6 ∧ p7 ∧ p8 ∧ a < b ∧ q) : a ≠ b := Nat.ne_of_lt h.2.2.2.2.2.2.2.2.1
theorem neA (h : p1 ∧ p2 ∧ p3 ∧ p4 ∧ p5 ∧ p6 ∧ p7 ∧ p8 ∧ p9 ∧ a < b) : a ≠ b := Nat.ne_of_lt h.2.2.2.2.2.2.2.2.2
theorem neB (h : p1 ∧ p2 ∧ p3 ∧ p4 ∧ p5 ∧ p6 ∧ p7 ∧ p8 ∧ a < b) : a ≠ b := Nat.ne_of_lt h.2.2.2.2.2.2.2.2
theorem neC (h : p1 ∧ p2 ∧ p3 ∧ p4 ∧ p5 ∧ p6 ∧ p7 ∧ a < b) : a ≠ b := Nat.ne_of_lt h.2.2.2.2.2.2.2
theorem neD (h : p1 ∧ p2 ∧ a < b) : a ≠ b := Nat.ne_of_lt h.2.2
theorem ne0 (h : q ∧ a < b) : a ≠ b := Nat.ne_of_lt h.2
end
theorem mem_hd {α : Type} {a : α} {l : List α} : a ∈ a :: l := .head _
theorem mem_tl {α : Type} {a b : α} {l : List α} (h : a ∈ l) : a ∈ b :: l := .tail _ h
theorem all_ne {news : List (Addr × Obj)} {L' d : Nat} (h : ∀ p ∈ news, @LT.lt Nat _ p.1 L') (hle : L' ≤ d) : ∀ p ∈ news, p.1 ≠ d := fun p hp => Nat.ne_of_lt (Nat.lt_of_lt_of_le (h p hp) hle)
theorem fr_to {h₀ h : Heap} {L : Addr} {m m' : Str → Option Value} (F : Fr h₀ L h m) (e : m' = m) : Fr h₀ L h m' := e ▸ F
end
section
open PySem PySem.W PyProof.Rows
set_option maxHeartbeats 8000000
open_top hd for PySem.Challenge.rw_pb0226_01
end
section
open PySem PySem.W PySem.Calls PyProof.Rows
open Builtin
theorem slot_index : Slot "bytes" "index" "bytes.index" :=
  .of (owner := "bytes") (n := "index") (by rw [typeLookup_type, builtinLookup_eq_fast]; kernel_rfl) (by decide +kernel) (by decide +kernel) (by decide +kernel)
    (by first | exact .inl (by decide +kernel) | exact .inr (by decide +kernel)) (by rw [isSubtype_type]; kernel_rfl)
theorem type_index : typeOf (.builtin "bytes.index") = pure (.type "method_descriptor") := by show builtinType _ = _; rw [builtinType_eq_fast]; kernel_rfl
theorem entry_index : entryFor table "bytes.index" = some Builtin.«bytes.index» := entryFor_of_tree (by kernel_rfl)
theorem args_index (a b : Value) : argsOk "bytes.index" ⟨[a, b], []⟩ := by
  unfold argsOk; rw [signature?_of (id := "bytes.index") (n := ['x', 'e', 'd', 'n', 'i']) (o := ['s', 'e', 't', 'y', 'b']) (by kernel_rfl) FB.owner_bytes]; kernel_rfl
theorem look_int_buffer : typeLookup (.type "int") "__buffer__" = pure none := by rw [typeLookup_type, builtinLookup_eq_fast]; kernel_rfl

section
variable {b : Array UInt8} {t u : Tok} {i : Int}
theorem buffer_int {id : String} : Bytes.buffer? id (.int i u) = pure none := by
  have e : specialOf (.int i u) "__buffer__" = pure none := by
    have e' : specialOf (.int i u) "__buffer__" = typeLookup (.type "int") "__buffer__" := rfl
    rw [e', look_int_buffer]
  unfold Bytes.buffer?
  rw [e]
  kernel_rfl
theorem contains_eq {id : String} (h0 : 0 ≤ i) (h1 : i < 256) : Bytes.containsIn id (.bytes b t) (.int i u) = pure (b.contains i.toNat.toUInt8) := by
  unfold Bytes.containsIn
  have e : (asIndex (.int i u)).attempt = pure (.ok i) := by kernel_rfl
  rw [e, pure_bind, KBy.buffer_eq, pure_bind]
  dsimp only
  have hc : ¬ ((decide (i < 0) || decide (i ≥ 256)) = true) := by
    simp only [Bool.or_eq_true, decide_eq_true_eq]; omega
  rw [if_neg hc]
theorem gives_contains (h0 : 0 ≤ i) (h1 : i < 256) : Gives («bytes.__contains__» ⟨[.bytes b t, .int i u], []⟩) (.val (.bool (b.contains i.toNat.toUInt8))) := by
  refine .of_wp fun M A E s Q hq => ?_
  show wpAny M A (Bytes.containsIn "bytes.__contains__" (.bytes b t) (.int i u) >>= fun r => _) _ E s
  rw [contains_eq h0 h1]
  exact wpAny_bind (wpAny_pure (wpAny_pure ⟨_, rfl, hq⟩))
theorem window_all (n : Nat) : Bytes.window n none none = ((0 : Int), (n : Int)) := by
  unfold Bytes.window
  simp only [Option.getD_none]
  rw [if_neg (by omega), if_neg (by omega), Int.min_self]
theorem gives_index {j : Nat} (h0 : 0 ≤ i) (h1 : i < 256) (hj : Bytes.find? b #[i.toNat.toUInt8] 0 b.size = some j) (hb : 0 < b.size) : Gives («bytes.index» ⟨[.bytes b t, .int i u], []⟩) (.int j) := by
  refine .of_wp fun M A E s Q hq => ?_
  show wpAny M A (Bytes.searchArgs .bytes "index" ⟨[.bytes b t, .int i u], []⟩ >>= fun r => _) _ E s
  unfold Bytes.searchArgs
  refine wpAny_bind (wpAny_bind (wpAny_of_eq (a := (Value.bytes b t, [Value.int i u])) (by kernel_rfl) ?_))
  dsimp only
  refine wpAny_bind (wpAny_of_eq (a := none) (by rfl) ?_)
  refine wpAny_bind (wpAny_of_eq (a := none) (by rfl) ?_)
  refine wpAny_bind (wpAny_of_eq buffer_int ?_)
  dsimp only
  refine wpAny_bind (wpAny_specialOf (T := "int") (typeIs_int _ _ _) F.slot_int_index.lookup ?_)
  rw [if_neg (show ¬ (Option.isNone (some _) = true) from Bool.false_ne_true)]
  refine wpAny_bind (wpAny_of_eq (a := i) (by kernel_rfl) ?_)
  have hc : ¬ ((decide (i < 0) || decide (i ≥ 256)) = true) := by
    simp only [Bool.or_eq_true, decide_eq_true_eq]; omega
  rw [if_neg hc]
  refine wpAny_pure ?_
  rw [window_all]
  dsimp only
  rw [if_neg (by show ¬ ((b.size : Int) - 0 < ((1 : Nat) : Int)); omega)]
  show wpAny M A (match Bytes.find? b #[i.toNat.toUInt8] (Int.toNat 0) (Int.toNat b.size) with | some i => retInt i | none => _) _ E s
  rw [Int.toNat_natCast, show Int.toNat 0 = 0 from rfl, hj]
  exact wpAny_bind (wpAny_mkInt (wpAny_pure ⟨_, rfl, hq⟩))
end
theorem extract_one {b : Array UInt8} {k : Nat} (hk : k < b.size) : b.extract k (k + 1) = #[b[k]] := by
  apply Array.ext
  · simp; omega
  · intro i h1 h2
    have : i = 0 := by simp at h2; omega
    subst this
    simp
theorem find_at {b : Array UInt8} {c : UInt8} {j : Nat} (hj : b[j]? = some c) (hn : ∀ k, k < j → b[k]? ≠ some c) : Bytes.find? b #[c] 0 b.size = some j := by
  obtain ⟨hlt, hjc⟩ := Array.getElem?_eq_some_iff.mp hj
  unfold Bytes.find?
  have e : ((List.range (b.size + 1 - (0 + #[c].size))).map (· + 0)) = List.range b.size := by
    simp
  rw [e, List.find?_range_eq_some]
  refine ⟨?_, by simpa using hlt, fun k hk => ?_⟩
  · show (b.extract j (j + 1) == #[c]) = true
    rw [extract_one hlt, hjc]; simp
  · show (!(b.extract k (k + 1) == #[c])) = true
    have hk' : k < b.size := Nat.lt_trans hk hlt
    rw [extract_one hk']
    have := hn k hk
    rw [Array.getElem?_eq_getElem hk'] at this
    simp only [Bool.not_eq_true', beq_eq_false_iff_ne, ne_eq]
    intro e; apply this; simpa using e
section
variable {prog : Program} {w : World} {A : Around} {E : Value → Shared → Prop} {s : Shared} {b : Array UInt8} {t u : Tok} {i : Int} {Q : Value → Shared → Prop}
theorem method {M : Model} {pl : Sem Bool} {Q : Value × List Value → Shared → Prop} (h : Q (.builtin "bytes.index", [.bytes b t]) s) : wpAny M A (getMethod (.bytes b t) "index" pl) Q E s := by
  with_reducible exact KBd.method_of (.bytes b t) (typeIs_bytes _ _ _) slot_index type_index KBd.noRef h
theorem in_bytes (h0 : 0 ≤ i) (h1 : i < 256) (h : Q (.bool (b.contains i.toNat.toUInt8)) s) : wpAny (model prog w) A (compareOp .In (.int i u) (.bytes b t)) Q E s :=
  in_gives (typeIs_bytes s b t) FB.slot_bytes_contains FB.entry_bytes_contains (FB.args_bytes_contains_2 _ _) (gives_contains h0 h1) h
theorem index_bytes {j : Nat} (h0 : 0 ≤ i) (h1 : i < 256) (hj : Bytes.find? b #[i.toNat.toUInt8] 0 b.size = some j) (hb : 0 < b.size) (h : Q (.int j s.toks) { s with toks := s.toks + 1 }) : wpAny (model prog w) A (call (.builtin "bytes.index") [.bytes b t, .int i u]) Q E s :=
  call_gives slot_index (typeIs_bytes _ _ _) entry_index (args_index _ _) (gives_index h0 h1 hj hb) h
end
end
section
open PySem PySem.W PySem.Calls PyProof.Rows PyProof
open Builtin
theorem u8_of {n : UInt8} : ((n.toNat : Nat) : Int).toNat.toUInt8 = n := by
  simp
theorem contains_ints {b : Array UInt8} {i : Int} (h0 : 0 ≤ i) (h1 : i < 256) : b.contains i.toNat.toUInt8 = decide (i ∈ KBw.bInts b) := by
  rw [Bool.eq_iff_iff, decide_eq_true_eq, Array.contains_iff_mem]
  unfold KBw.bInts
  rw [List.mem_map]
  constructor
  · intro h
    refine ⟨_, Array.mem_toList_iff.mpr h, byte_back h0 h1⟩
  · rintro ⟨c, hc, rfl⟩
    rw [u8_of]
    exact Array.mem_toList_iff.mp hc
theorem getD_of_idx {ks : List Int} {i : Int} (h : i ∈ ks) : ks[ks.idxOf i]? = some i := by
  rw [List.getElem?_eq_getElem (List.idxOf_lt_length_of_mem h), List.getElem_idxOf]
theorem not_before : ∀ {ks : List Int} {i : Int} {k : Nat}, k < ks.idxOf i → ks[k]? ≠ some i
  | [], _, _, h => by simp at h
  | x :: r, i, k, h => by
    rw [List.idxOf_cons] at h
    by_cases hx : (x == i) = true
    · rw [hx] at h; simp at h
    · simp only [hx, cond_false] at h
      cases k with
      | zero =>
        simp only [List.getElem?_cons_zero, ne_eq, Option.some.injEq]
        intro e; exact hx (by simp [e])
      | succ k =>
        rw [List.getElem?_cons_succ]
        exact not_before (by simpa using h)
theorem getInts {b : Array UInt8} {k : Nat} {i : Int} (h : (KBw.bInts b)[k]? = some i) : b[k]? = some i.toNat.toUInt8 := by
  unfold KBw.bInts at h
  rw [List.getElem?_map] at h
  obtain ⟨c, hc, rfl⟩ := Option.map_eq_some_iff.mp h
  rw [u8_of, ← hc, Array.getElem?_toList]
theorem find_ints {b : Array UInt8} {i : Int} (h : i ∈ KBw.bInts b) : Bytes.find? b #[i.toNat.toUInt8] 0 b.size = some ((KBw.bInts b).idxOf i) := by
  refine find_at (getInts (getD_of_idx h)) fun k hk e => not_before hk ?_
  obtain ⟨h0, h1⟩ := KBw.ints_in h
  have := KBw.ints_get e
  rw [this, byte_back h0 h1]
section
variable {prog : Program} {w : World} {A : Around} {E : Value → Shared → Prop} {s : Shared} {b : Array UInt8} {t u : Tok} {i : Int} {ks : List Int} {Q : Value → Shared → Prop}
theorem in_K (hk : KBw.bInts b = ks) (h0 : 0 ≤ i) (h1 : i < 256) (h : Q (.bool (decide (i ∈ ks))) s) : wpAny (model prog w) A (compareOp .In (.int i u) (.bytes b t)) Q E s := by
  subst hk
  rw [← contains_ints h0 h1] at h
  exact in_bytes h0 h1 h
theorem index_K (hk : KBw.bInts b = ks) (hi : i ∈ ks) (h : ∀ t' k, Q (.int (ks.idxOf i : Nat) t') { s with toks := k }) : wpAny (model prog w) A (call (.builtin "bytes.index") [.bytes b t, .int i u]) Q E s := by
  subst hk
  obtain ⟨h0, h1⟩ := KBw.ints_in hi
  refine index_bytes h0 h1 (find_ints hi) ?_ (h _ _)
  rw [← KBw.ints_length]
  exact List.length_pos_of_mem hi
theorem nextOf_item {it : Addr} {i : Nat} {c : UInt8} {Q : Value → Shared → Prop} (hit : KBw.IsBytesIter s.heap it b t i) (hx : b[i]? = some c)
    (hQ : ∀ h', KBw.IsBytesIter h' it b t (i + 1) → Heap.SameBut it s.heap h' → Q (.int (c.toNat : Int) s.toks) { s with heap := h', toks := s.toks + 1 }) : wpAny (model prog w) A (Builtin.SmallTypes.nextOf (.ref it)) Q E s := by
  obtain ⟨o, ho, hc, hd⟩ := id hit
  unfold Builtin.SmallTypes.nextOf
  refine wpAny_bind (wpAny_callSpecial?_slot (name := PySem.Str.ofString "__next__") (KBw.iter_typeIs hit) KBw.slot_next
    (wpAny_call_entry KBw.slot_next (KBw.iter_typeIs hit) KBw.entry_next ?_ (KBw.args_next _)))
  show wpAny _ _ (field (.ref it) 0 >>= _) _ _ s
  refine wpAny_bind (wpAny_field ho hd (x := .bytes b t) rfl ?_)
  show wpAny _ _ (if (Value.bytes b t == Value.none) = true then _ else _) _ _ s
  rw [if_neg (show ¬ ((Value.bytes b t == Value.none) = true) from Bool.false_ne_true)]
  show wpAny _ _ (field (.ref it) 1 >>= _) _ _ s
  refine wpAny_bind (wpAny_field ho hd (x := .int i 0) rfl ?_)
  refine wpAny_bind (wpAny_of_eq (a := b) rfl ?_)
  simp only [Int.toNat_natCast, hx]
  refine wpAny_bind (wpAny_setField ho hd (by simp) (wpAny_bind (wpAny_mkInt (wpAny_pure ⟨_, rfl, wpAny_pure (hQ _ ?_ (Heap.SameBut.update ..))⟩))))
  exact ⟨_, Heap.get?_update_self _ ho (Obj.isFreed_of_fields (Obj.data_mapFields hd _)), (Obj.cls_mapFields ..).trans hc, by
    rw [Obj.data_mapFields hd]; simp [rawInt]⟩
theorem nextOf_end {it : Addr} {i : Nat} {Q : Value → Shared → Prop} (hh : A.handled = none) (hit : KBw.IsBytesIter s.heap it b t i) (hx : b[i]? = none)
    (hE : ∀ h' e, Heap.ExtBut it s.heap h' → (∃ o, h'.get? e = some o ∧ o.cls = .type "StopIteration") → E (.ref e) { s with heap := h' }) : wpAny (model prog w) A (Builtin.SmallTypes.nextOf (.ref it)) Q E s := by
  obtain ⟨o, ho, hc, hd⟩ := id hit
  unfold Builtin.SmallTypes.nextOf
  refine wpAny_bind (wpAny_callSpecial?_slot (name := PySem.Str.ofString "__next__") (KBw.iter_typeIs hit) KBw.slot_next
    (wpAny_call_entry KBw.slot_next (KBw.iter_typeIs hit) KBw.entry_next ?_ (KBw.args_next _)))
  show wpAny _ _ (field (.ref it) 0 >>= _) _ _ s
  refine wpAny_bind (wpAny_field ho hd (x := .bytes b t) rfl ?_)
  show wpAny _ _ (if (Value.bytes b t == Value.none) = true then _ else _) _ _ s
  rw [if_neg (show ¬ ((Value.bytes b t == Value.none) = true) from Bool.false_ne_true)]
  show wpAny _ _ (field (.ref it) 1 >>= _) _ _ s
  refine wpAny_bind (wpAny_field ho hd (x := .int i 0) rfl ?_)
  refine wpAny_bind (wpAny_of_eq (a := b) rfl ?_)
  simp only [Int.toNat_natCast, hx]
  refine wpAny_bind (wpAny_rule (wpAny_bind (wpAny_setField ho hd (by simp) ?_)))
  show wpAny _ _ (newExc (.type "StopIteration") [] >>= _) _ _ _
  refine wpAny_bind ?_
  simp only [newExc, newTuple]
  refine wpAny_bind (wpAny_newObj_type ?_ (by size_fits))
  refine wpAny_bind (m := firstArgMember _ _) (wpAny_of_eq (a := Value.none) (by first | rfl | (simp only [firstArgMember]; rfl)) ?_)
  refine wpAny_newObj_type ?_ (by size_fits)
  simp only [raiseNew]
  refine wpAny_bind (wpAny_handled ?_)
  first | rw [show A.in1.handled = none from hh] | rw [hh]
  refine wpAny_bind (wpAny_pure (wpAny_throw ?_))
  exact hE _ _ (((Heap.SameBut.update ..).extBut.push _).push _) ⟨_, Heap.get?_push_size _ rfl, rfl⟩
end
theorem draws_bytes {prog : Program} {w : World} {A : Around} (hh : A.handled = none) (it : Addr) (b : Array UInt8) (t : Tok) :
    Draws prog w A it [it] b.size (fun i v => ∃ c u, b[i]? = some c ∧ v = .int (c.toNat : Int) u) (fun i h => KBw.IsBytesIter h it b t i) where
  live := fun _ _ st => let ⟨o, ho, _⟩ := st; ⟨o, ho⟩
  frame := fun _ _ _ st hk => let ⟨o, ho, r⟩ := st; ⟨o, hk it (by simp) o ho, r⟩
  item := fun i s Q E hi st hQ => by
    refine nextOf_item st (c := b[i]) (by simp [hi]) fun h' hit' hs' => ?_
    exact hQ _ h' (s.toks + 1) ⟨_, _, by simp [hi], rfl⟩ hit' hs'
  done := fun s Q E st hE => nextOf_end hh st (by simp) hE

set_option maxHeartbeats 1000000 in
theorem meets_enumerate_newB (x : Array UInt8) (t : Tok) :
    Meets (Builtin.«enumerate.__new__» ⟨[.type "enumerate", .bytes x t], []⟩) (fun _ R s =>
      R (.ok (.ret (.ref (s.heap.push { cls := .type "bytes_iterator", data := .fields #[.bytes x t, .int 0 0] }).objs.size)))
        { s with heap := (s.heap.push { cls := .type "bytes_iterator", data := .fields #[.bytes x t, .int 0 0] }).push { cls := .type "enumerate", data := .fields #[.none, .bool false, .ref s.heap.objs.size, rawInt 0, .none, .none] } }) :=
  .of_wp fun prog w A R s h => by
    obtain ⟨hp, g, d, tk, os⟩ := s
    have hsub := sub_enumerate
    wp_walk
    refine wpAny_stack_any fun st => wpAny_pure ?_
    split
    · rename_i c _ _ _ _ _
      cases (c == Value.type "enumerate")
      · wp_walk using KBw.pyIter_bytes
        exact ⟨_, rfl, h⟩
      · wp_walk using KBw.pyIter_bytes
        exact ⟨_, rfl, h⟩
    · wp_walk using KBw.pyIter_bytes
      exact ⟨_, rfl, h⟩
section
variable {prog : Program} {w : World} {A : Around} {E : Value → Shared → Prop} {s : Shared}
theorem call_enumerate_bytes {x : Array UInt8} {t : Tok} {Q : Value → Shared → Prop}
    (h : ∀ h', IsEnum h' (s.heap.objs.size + 1) s.heap.objs.size 0 .none → KBw.IsBytesIter h' s.heap.objs.size x t 0 → h'.objs.size = s.heap.objs.size + 2 →
      (∀ b o, s.heap.get? b = some o → h'.get? b = some o) → Q (.ref (s.heap.objs.size + 1)) { s with heap := h' }) :
    wpAny (model prog w) A (call (.type "enumerate") [.bytes x t]) Q E s := by
  refine callType_new F.called_enumerate (by decide) (F.typeCall_enumerate_1 _) (F.newCall_enumerate_1 _) (fun obj => F.args_object_init_2 obj _) F.entry_enumerate_new
    (meets_enumerate_newB x t) ?_
  have hz : (s.heap.push { cls := .type "bytes_iterator", data := .fields #[.bytes x t, .int 0 0] }).objs.size = s.heap.objs.size + 1 := Heap.size_push ..
  show _ ∧ _
  rw [hz]
  have he : IsEnum ((s.heap.push { cls := .type "bytes_iterator", data := .fields #[.bytes x t, .int 0 0] }).push
      { cls := .type "enumerate", data := .fields #[.none, .bool false, .ref s.heap.objs.size, rawInt 0, .none, .none] }) (s.heap.objs.size + 1) s.heap.objs.size 0 .none := by
    have := Heap.get?_push_size (s.heap.push { cls := .type "bytes_iterator", data := .fields #[.bytes x t, .int 0 0] })
      (o := { cls := .type "enumerate", data := .fields #[.none, .bool false, .ref s.heap.objs.size, rawInt 0, .none, .none] }) rfl
    rw [hz] at this; exact this
  exact ⟨⟨_, he, rfl⟩, h _ he ⟨_, Heap.get?_push_of_some _ (Heap.get?_push_size _ rfl), rfl, rfl⟩ (by rw [Heap.size_push, hz]) fun b o y => Heap.get?_push_of_some _ (Heap.get?_push_of_some _ y)⟩
end
end
section
open PySem PySem.W PySem.Calls PyProof.Rows PyProof
/-- a mark: here the walk is to stop -/
def Stop (P : Prop) : Prop := P
theorem stop_here {P : Prop} (h : Stop P) : P := h
section
variable {prog : Program} {w : World} {A : Around} {E : Value → Shared → Prop} {s : Shared} {env : Env} {h₀ : Heap} {x : PySem.Str} {body : List Stmt} {Q : Flow → Shared → Prop}
theorem loop_range {r : Addr} {a₀ b₀ c₀ : Int} {t₀ u₀ v₀ : Tok} {n : Nat} {m₀ : PySem.Str → Option Value} {news : List (Addr × Obj)}
    (J : Nat → (PySem.Str → Option Value) → List (Addr × Obj) → Prop)
    (hh : A.handled = none) (hr : IsRange s.heap r a₀ b₀ c₀ t₀ u₀ v₀) (hsmall : Builtin.Range.small a₀ b₀ c₀ = true) (hn : Builtin.Range.rangeSize a₀ b₀ c₀ = (n : Int)) (F : Fr h₀ env.locals s.heap m₀) (N : News h₀ env.locals s.heap news) (hj : J 0 m₀ news)
    (turn : ∀ (i : Nat) t m₁ nx h tk own, i < n → nx.map (·.1) = news.map (·.1) → OwnOff own (news.map (·.1)) → J i m₁ nx → Fr h₀ env.locals h (fun y => if y = x then some (.int (a₀ + (i : Int) * c₀) t) else m₁ y) → News h₀ env.locals h (nx ++ own) →
      wpAny (model prog w) A (execs body env) (InvPostN h₀ env.locals (J (i + 1)) own (news.map (·.1)) { s with heap := h, toks := tk } Q) E { s with heap := h, toks := tk })
    (done : ∀ m₁ nx h tk, J n m₁ nx → Fr h₀ env.locals h m₁ → News h₀ env.locals h nx → Q .next { s with heap := h, toks := tk }) :
    wpAny (model prog w) A (pyIter (.ref r)) (fun it s₂ => LoopAtV prog w A h₀ env x body Q E it s₂) E s := by
  refine wpAny_pyIter_range hr hsmall ?_
  refine loop_invN J (Walks.range (prog := prog) (w := w) hh s.heap.objs.size a₀ c₀ n) ?_ ?_ ?_ ?_ (by show IsRangeIter _ _ _ _ _; rw [hn]; simpa using Heap.get?_push_size _ rfl) (F.push _) (fun p hp => ⟨Heap.get?_push_of_some _ (N p hp).1, (N p hp).2⟩) hj ?_ ?_
  · intro hm
    exact absurd F.ns.lt ((List.mem_singleton.mp hm) ▸ Nat.lt_irrefl _)
  · intro b hb
    rw [List.mem_singleton.mp hb]
    exact next_is_new F
  · intro p hp hI
    exact absurd (Heap.lt_size (N p hp).1) ((List.mem_singleton.mp hI) ▸ Nat.lt_irrefl _)
  · intro p hp hI
    exact absurd (Heap.lt_size (N p hp).1) ((List.mem_singleton.mp hI) ▸ Nat.lt_irrefl _)
  · rintro i v m₁ nx h tk own hi ⟨t, rfl⟩ ha hoff hJ F₁ N₁
    exact turn i t m₁ nx h tk own hi ha hoff hJ F₁ N₁
  · exact done
/-- a loop over a range that stores nothing: what holds of the turns so far -/
theorem loop_find {r : Addr} {a₀ b₀ c₀ : Int} {t₀ u₀ v₀ : Tok} {n : Nat} {m₀ : PySem.Str → Option Value} {news : List (Addr × Obj)}
    (P : Nat → Prop)
    (hh : A.handled = none) (hr : IsRange s.heap r a₀ b₀ c₀ t₀ u₀ v₀) (hsmall : Builtin.Range.small a₀ b₀ c₀ = true) (hn : Builtin.Range.rangeSize a₀ b₀ c₀ = (n : Int)) (F : Fr h₀ env.locals s.heap m₀) (N : News h₀ env.locals s.heap news) (hj : P 0)
    (turn : ∀ (i : Nat) t h tk own, i < n → P i → Fr h₀ env.locals h (fun y => if y = x then some (.int (a₀ + (i : Int) * c₀) t) else m₀ y) → News h₀ env.locals h (news ++ own) →
      wpAny (model prog w) A (execs body env) (InvPostN h₀ env.locals (fun m' nx => nx = news ∧ (∀ z, z ≠ x → m' z = m₀ z) ∧ P (i + 1)) own (news.map (·.1)) { s with heap := h, toks := tk } Q) E { s with heap := h, toks := tk })
    (done : ∀ (u : PySem.Str → Option Value) h tk, P n → Fr h₀ env.locals h (fun y => if y = x then u y else m₀ y) → News h₀ env.locals h news → Q .next { s with heap := h, toks := tk }) :
    wpAny (model prog w) A (pyIter (.ref r)) (fun it s₂ => LoopAtV prog w A h₀ env x body Q E it s₂) E s := by
  refine loop_range (fun i m' nx => nx = news ∧ (∀ z, z ≠ x → m' z = m₀ z) ∧ P i) hh hr hsmall hn F N ⟨rfl, fun _ _ => rfl, hj⟩ ?_ ?_
  · rintro i t m₁ nx h tk own hi - - ⟨rfl, hm, hP⟩ F₁ N₁
    refine turn i t h tk own hi hP ?_ N₁
    have e : (fun y => if y = x then some (Value.int (a₀ + (i : Int) * c₀) t) else m₁ y) = fun y => if y = x then some (.int (a₀ + (i : Int) * c₀) t) else m₀ y := by
      funext y
      by_cases hy : y = x
      · simp [hy]
      · simp [hy, hm y hy]
    rw [← e]; exact F₁
  · rintro m₁ nx h tk ⟨rfl, hm, hP⟩ F₁ N₁
    refine done m₁ h tk hP ?_ N₁
    have e : (fun y => if y = x then m₁ y else m₀ y) = m₁ := by
      funext y
      by_cases hy : y = x
      · simp [hy]
      · simp [hy, hm y hy]
    rw [e]; exact F₁
end
section
variable {h₀ h h' : Heap} {L : Addr} {m : PySem.Str → Option Value} {news news' : List (Addr × Obj)} {s : Shared} {Q : Value → Shared → Prop} {tk' : Nat}
/-- a def's end -/
theorem end_bool {x y : Bool} (hret : ∀ (t : Tok) (h' : Heap) (tk' : Nat), Fr h₀ L h' m → News h₀ L h' news → Q (.bool x) { s with heap := h', toks := tk' }) (F : Fr h₀ L h' m) (N : News h₀ L h' news') (hs : ∀ p ∈ news, p ∈ news') (e : y = x) : Q (.bool y) { s with heap := h', toks := tk' } := by
  subst e
  exact hret 0 h' tk' F fun p hp => N p (hs p hp)
theorem end_int {x y : Int} {t : Tok} (hret : ∀ (t : Tok) (h' : Heap) (tk' : Nat), Fr h₀ L h' m → News h₀ L h' news → Q (.int x t) { s with heap := h', toks := tk' }) (F : Fr h₀ L h' m) (N : News h₀ L h' news') (hs : ∀ p ∈ news, p ∈ news') (e : y = x) : Q (.int y t) { s with heap := h', toks := tk' } := by
  subst e
  exact hret t h' tk' F fun p hp => N p (hs p hp)
theorem end_bytes {x y : Array UInt8} {t : Tok} (hret : ∀ (t : Tok) (h' : Heap) (tk' : Nat), Fr h₀ L h' m → News h₀ L h' news → Q (.bytes x t) { s with heap := h', toks := tk' }) (F : Fr h₀ L h' m) (N : News h₀ L h' news') (hs : ∀ p ∈ news, p ∈ news') (e : y = x) : Q (.bytes y t) { s with heap := h', toks := tk' } := by
  subst e
  exact hret t h' tk' F fun p hp => N p (hs p hp)
theorem sub_refl : ∀ p ∈ news, p ∈ news := fun _ h => h
theorem sub_left : ∀ p ∈ news, p ∈ news ++ news' := fun _ h => List.mem_append.mpr (.inl h)
end
theorem eq_ints {a b : Array UInt8} : (a.toList == b.toList) = decide (KBw.bInts a = KBw.bInts b) := by
  rw [Bool.eq_iff_iff, decide_eq_true_eq, beq_iff_eq]
  constructor
  · intro h; unfold KBw.bInts; rw [h]
  · intro h
    unfold KBw.bInts at h
    apply List.map_inj_right (f := fun c : UInt8 => (c.toNat : Int)) ?_ |>.mp h
    intro x y e
    exact UInt8.toNat_inj.mp (by omega)
theorem ints_inj {a b : Array UInt8} (h : KBw.bInts a = KBw.bInts b) : a = b := by
  have : (a.toList == b.toList) = true := by rw [eq_ints]; exact decide_eq_true h
  exact Array.toList_inj.mp (beq_iff_eq.mp this)
theorem one_at {ks : List Int} {i : Nat} {c : Int} (h : i < ks.length) : ((ks.drop i).take 1 = [c]) ↔ ks[i]? = some c := by
  rw [List.take_one, List.head?_drop, List.getElem?_eq_getElem h]
  simp
theorem idx_first {ks : List Int} {c : Int} {i : Nat} (h : ks[i]? = some c) (hn : ∀ k, k < i → ks[k]? ≠ some c) : c ∈ ks ∧ ks.idxOf c = i := by
  have hm := List.mem_of_getElem? h
  refine ⟨hm, ?_⟩
  have h1 := getD_of_idx hm
  rcases Nat.lt_trichotomy (ks.idxOf c) i with hlt | he | hgt
  · exact absurd h1 (hn _ hlt)
  · exact he
  · exact absurd h (not_before hgt)
theorem not_mem_of {ks : List Int} {c : Int} (hn : ∀ k, k < ks.length → ks[k]? ≠ some c) : c ∉ ks := fun hm => hn _ (List.idxOf_lt_length_of_mem hm) (getD_of_idx hm)
end
section
open PySem PySem.W PySem.Calls PyProof.Rows PyProof
section
variable {prog : Program} {w : World} {A : Around} {E : Value → Shared → Prop} {s : Shared} {h₀ : Heap} {L : Addr} {m : PySem.Str → Option Value} {news : List (Addr × Obj)}
theorem call_enum_bytes {x : Array UInt8} {t : Tok} {ks : List Int} {Q : Value → Shared → Prop} (hk : KBw.bInts x = ks) (hh : A.handled = none) (F : Fr h₀ L s.heap m) (N : News h₀ L s.heap news)
    (h : ∀ h' e, Fr h₀ L h' m → News h₀ L h' news → PairSrcL prog w A E h₀ L ItemKind.int ks (.ref e) { s with heap := h' } m news → Q (.ref e) { s with heap := h' }) :
    wpAny (model prog w) A (call (.type "enumerate") [.bytes x t]) Q E s := by
  subst hk
  have hLs : L < s.heap.objs.size := F.ns.lt
  have hab : h₀.objs.size ≤ L := F.above
  refine call_enumerate_bytes fun h' he hit hsz hk => ?_
  have F' : Fr h₀ L h' m := ⟨F.ns.keeps hk, fun b o e => hk b o (F.keep b o e), F.above⟩
  have N' : News h₀ L h' news := fun p hp => ⟨hk _ _ (N p hp).1, (N p hp).2⟩
  refine h h' _ F' N' fun env hL => ?_
  subst hL
  have side1 : s.heap.objs.size + 1 ∉ [s.heap.objs.size] := fun hm => Nat.succ_ne_self _ (List.mem_singleton.mp hm)
  have side2 : env.locals ∉ [s.heap.objs.size + 1, s.heap.objs.size] := fun hm => by
    rcases List.mem_cons.mp hm with e | hm
    · exact Nat.ne_of_lt (Nat.lt_succ_of_lt hLs) e
    · exact Nat.ne_of_lt hLs (List.mem_singleton.mp hm)
  have side3 : ∀ b ∈ [s.heap.objs.size + 1, s.heap.objs.size], ∀ q ∈ news, b ≠ q.1 := fun b hb q hq e => by
    have hq1 : q.1 < s.heap.objs.size := Heap.lt_size (N q hq).1
    rcases List.mem_cons.mp hb with e1 | hb
    · exact Nat.ne_of_gt (Nat.lt_succ_of_lt hq1) (e1.symm.trans e)
    · exact Nat.ne_of_gt hq1 ((List.mem_singleton.mp hb).symm.trans e)
  have hP : ∀ i v, (∃ (c : UInt8) (u : Tok), x[i]? = some c ∧ v = Value.int (c.toNat : Int) u) → ∃ a, (KBw.bInts x)[i]? = some a ∧ ItemKind.int.is a v := fun i v hv => by
    obtain ⟨c, u, hc, rfl⟩ := hv
    exact ⟨_, KBw.ints_get hc, u, rfl⟩
  exact enumSrc (draws_bytes (A := A.in1) hh s.heap.objs.size x t) he hit (Nat.succ_ne_self _) side1 (by simp) side2 (Heap.get?_none_of_le (Nat.le_trans hab (Nat.le_of_lt (Nat.lt_succ_of_lt hLs)))) (Heap.get?_none_of_le (Nat.le_trans hab (Nat.le_of_lt hLs))) side3 (KBw.ints_length x).symm hP F' N'
end
section
variable {prog : Program} {w : World} {A : Around} {E : Value → Shared → Prop} {s : Shared} {env : Env} {h₀ : Heap} {xi xc : PySem.Str} {body : List Stmt} {Q : Flow → Shared → Prop} {xv : Value}
/-- a loop over pairs (place, int), its ends as the walk knows them -/
theorem loop_pairs {ks : List Int} {m₀ : PySem.Str → Option Value} {news : List (Addr × Obj)} (S : PairSrc prog w A E h₀ env ItemKind.int ks xv s m₀ news)
    (J : Nat → (PySem.Str → Option Value) → List (Addr × Obj) → Prop) (hj : J 0 m₀ news)
    (turn : ∀ (i : Nat) k t u m₁ nx h tk own, ks[i]? = some k → nx.map (·.1) = news.map (·.1) → OwnOff own (news.map (·.1)) → J i m₁ nx → Fr h₀ env.locals h (fun y => if y = xc then some (.int k u) else if y = xi then some (.int i t) else m₁ y) → News h₀ env.locals h (nx ++ own) →
      wpAny (model prog w) A (execs body env) (InvPostN h₀ env.locals (J (i + 1)) own (news.map (·.1)) { s with heap := h, toks := tk } Q) E { s with heap := h, toks := tk })
    (done : ∀ m₁ nx h tk, J ks.length m₁ nx → Fr h₀ env.locals h m₁ → News h₀ env.locals h nx → Q .next { s with heap := h, toks := tk }) :
    wpAny (model prog w) A (pyIter xv) (fun it s₂ => PairAt3 prog w A h₀ env xi xc body Q E it s₂) E s := by
  refine S xi xc body Q J hj ?_ ?_
  · rintro i k t v m₁ nx s₁ own ⟨hh, tk, rfl⟩ hi ⟨u, rfl⟩ hJ ha hoff F₁ N₁
    have hsep : OwnOff own (news.map (·.1)) := by
      intro p hp b hb e
      obtain ⟨q, hq, rfl⟩ := List.mem_map.mp hb
      exact hoff p hp q hq e
    have N₂ : News h₀ env.locals hh (nx ++ own) := fun p hp => N₁ p ((List.mem_append.mp hp).elim (fun h => List.mem_append.mpr (.inr h)) fun h => List.mem_append.mpr (.inl h))
    refine wpAny_mono (turn i k t u m₁ nx hh tk own hi ha hsep hJ F₁ N₂) (fun f s₂ p => ?_) fun _ _ e => e
    have fin : InvEndN h₀ env.locals (J (i + 1)) own (news.map (·.1)) { s with heap := hh, toks := tk } s₂ → LoopStep3 h₀ env.locals own nx (J (i + 1)) { s with heap := hh, toks := tk } (fun v s' => Q (.ret v) s') (fun s' => Q .next s') .next s₂ := by
      rintro ⟨h', tk', m', news', nx', e, F', N', hn, ho, ha', hm⟩
      exact ⟨rfl, h', tk', m', nx', e, F', fun p hp => N' p ((List.mem_append.mp hp).elim (ho p) (hn p)), ha'.trans ha.symm, hm⟩
    cases f with
    | ret v => exact p
    | brk => exact p
    | next => exact fin p
    | cont => exact fin p
  · intro h' tk m' nx F' N' _ hJ
    exact done m' nx h' tk hJ F' N'
theorem ints_snoc {us : List Value} {g : List Int} {i : Nat} {v : Int} {t : Tok} (h : IntsAre us (g.take i)) (hv : g[i]? = some v) : IntsAre (us ++ [.int v t]) (g.take (i + 1)) := by
  rw [List.take_add_one, hv]
  exact h.append (.cons v t .nil)
/-- the ledger's first object may be changed -/
def UpdAt (l : Addr) (rest : List (Addr × Obj)) : Prop := ∀ p ∈ rest, p.1 ≠ l
theorem append_U {L l : Addr} {m : PySem.Str → Option Value} {its : Array Value} {n : Nat} {v : Value} {rest : List (Addr × Obj)} {Q : Value → Shared → Prop} (F : Fr h₀ L s.heap m) (N : News h₀ L s.heap ((l, listOf its n) :: rest)) (hU : UpdAt l rest)
    (h : ∀ h', Fr h₀ L h' m → News h₀ L h' ((l, listOf (its.push v) (n + 1)) :: rest) → Q .none { s with heap := h' }) (hsz : its.size ≤ sizeLine) : wpAny (model prog w) A (call (.builtin "list.append") [.ref l, v]) Q E s :=
  append_K F N (Upd.head hU) h hsz
/-- a loop over pairs that fills one list -/
theorem loop_fill {ks g : List Int} {m₀ : PySem.Str → Option Value} {l : Addr} {n₀ : Nat} {rest : List (Addr × Obj)} (S : PairSrc prog w A E h₀ env ItemKind.int ks xv s m₀ ((l, listOf #[] n₀) :: rest)) (hg : g.length = ks.length) (hne : ∀ p ∈ rest, p.1 ≠ l)
    (turn : ∀ (i : Nat) k t u us n h tk own, ks[i]? = some k → us.length = i → OwnOff own (l :: rest.map (·.1)) → UpdAt l (rest ++ own) → IntsAre us (g.take i) → Fr h₀ env.locals h (fun y => if y = xc then some (.int k u) else if y = xi then some (.int i t) else m₀ y) → News h₀ env.locals h ((l, listOf us.toArray n) :: (rest ++ own)) →
      wpAny (model prog w) A (execs body env) (InvPostN h₀ env.locals (fun m' nx => ∃ us' n', nx = (l, listOf us'.toArray n') :: rest ∧ us'.length = i + 1 ∧ IntsAre us' (g.take (i + 1)) ∧ ∀ z, z ≠ xi → z ≠ xc → m' z = m₀ z) own (l :: rest.map (·.1)) { s with heap := h, toks := tk } Q) E { s with heap := h, toks := tk })
    (done : ∀ u1 u2 us n h tk, IntsAre us g → Fr h₀ env.locals h (fun y => if y = xc then u1 else if y = xi then u2 else m₀ y) → News h₀ env.locals h ((l, listOf us.toArray n) :: rest) → Q .next { s with heap := h, toks := tk }) :
    wpAny (model prog w) A (pyIter xv) (fun it s₂ => PairAt3 prog w A h₀ env xi xc body Q E it s₂) E s := by
  refine loop_pairs S (fun i m' nx => ∃ us' n', nx = (l, listOf us'.toArray n') :: rest ∧ us'.length = i ∧ IntsAre us' (g.take i) ∧ ∀ z, z ≠ xi → z ≠ xc → m' z = m₀ z) ⟨[], n₀, rfl, rfl, .nil, fun _ _ _ => rfl⟩ ?_ ?_
  · rintro i k t u m₁ nx h tk own hi - hoff ⟨us, n, rfl, hl, hus, hm⟩ F₁ N₁
    have hU : UpdAt l (rest ++ own) := fun p hp => (List.mem_append.mp hp).elim (hne p) fun h => hoff.ne (List.mem_cons_self ..) p h
    refine turn i k t u us n h tk own hi hl hoff hU hus ?_ N₁
    have e : (fun y => if y = xc then some (Value.int k u) else if y = xi then some (Value.int i t) else m₁ y) = fun y => if y = xc then some (.int k u) else if y = xi then some (.int i t) else m₀ y := by
      funext y
      by_cases h1 : y = xc
      · simp [h1]
      · by_cases h2 : y = xi
        · simp [h2]
        · simp [h1, h2, hm y h2 h1]
    rw [← e]; exact F₁
  · rintro m₁ nx h tk ⟨us, n, rfl, hl, hus, hm⟩ F₁ N₁
    rw [← hg, List.take_length] at hus
    refine done (m₁ xc) (m₁ xi) us n h tk hus ?_ N₁
    have e : (fun y => if y = xc then m₁ xc else if y = xi then m₁ xi else m₀ y) = m₁ := by
      funext y
      by_cases h1 : y = xc
      · simp [h1]
      · by_cases h2 : y = xi
        · rw [if_neg h1, if_pos h2, h2]
        · simp [h1, h2, hm y h2 h1]
    rw [e]; exact F₁
theorem fill_end {L l : Addr} {h' : Heap} {m' m₀ : PySem.Str → Option Value} {us : List Value} {n i tk : Nat} {v : Int} {t : Tok} {g : List Int} {rest own : List (Addr × Obj)} {s₁ : Shared} (F : Fr h₀ L h' m') (N : News h₀ L h' ((l, listOf (us.toArray.push (.int v t)) (n + 1)) :: (rest ++ own)))
    (hl : us.length = i) (hus : IntsAre us (g.take i)) (hv : g[i]? = some v) (hm : ∀ z, z ≠ xi → z ≠ xc → m' z = m₀ z) :
    InvEndN h₀ L (fun m' nx => ∃ us' n', nx = (l, listOf us'.toArray n') :: rest ∧ us'.length = i + 1 ∧ IntsAre us' (g.take (i + 1)) ∧ ∀ z, z ≠ xi → z ≠ xc → m' z = m₀ z) own (l :: rest.map (·.1)) s₁ { s₁ with heap := h', toks := tk } := by
  rw [List.push_toArray] at N
  refine InvEndN.intro F N ⟨us ++ [.int v t], n + 1, rfl, by simp [hl], ints_snoc hus hv, hm⟩ rfl ?_ ?_
  · intro p hp
    rcases List.mem_cons.mp hp with rfl | hp
    · exact .head _
    · exact .tail _ (List.mem_append.mpr (.inl hp))
  · intro p hp
    exact .tail _ (List.mem_append.mpr (.inr hp))
end
end
section
open PySem PySem.W PySem.Calls PyProof.Rows PyProof
section
variable {prog : Program} {w : World} {A : Around} {E : Value → Shared → Prop} {s : Shared} {env : Env} {h₀ : Heap} {x z : PySem.Str} {body : List Stmt} {Q : Flow → Shared → Prop}
/-- what stands after i turns of a loop with one int that it keeps up -/
abbrev AccAt (x z : PySem.Str) (news : List (Addr × Obj)) (m₀ : PySem.Str → Option Value) (P : Nat → Int → Prop) (i : Nat) (m' : PySem.Str → Option Value) (nx : List (Addr × Obj)) : Prop :=
  nx = news ∧ (∃ v t, m' z = some (.int v t) ∧ P i v) ∧ ∀ y, y ≠ x → y ≠ z → m' y = m₀ y
/-- a loop over a range that keeps up one int -/
theorem loop_acc {r : Addr} {a₀ b₀ c₀ : Int} {t₀ u₀ v₀ : Tok} {n : Nat} {m₀ : PySem.Str → Option Value} {news : List (Addr × Obj)} {v : Int} {t : Tok} (hzx : z ≠ x)
    (P : Nat → Int → Prop)
    (hh : A.handled = none) (hr : IsRange s.heap r a₀ b₀ c₀ t₀ u₀ v₀) (hsmall : Builtin.Range.small a₀ b₀ c₀ = true) (hn : Builtin.Range.rangeSize a₀ b₀ c₀ = (n : Int)) (F : Fr h₀ env.locals s.heap m₀) (N : News h₀ env.locals s.heap news) (hz : m₀ z = some (.int v t)) (hj : P 0 v)
    (turn : ∀ (i : Nat) t v tv h tk own, i < n → P i v → Fr h₀ env.locals h (fun y => if y = x then some (.int (a₀ + (i : Int) * c₀) t) else if y = z then some (.int v tv) else m₀ y) → News h₀ env.locals h (news ++ own) →
      wpAny (model prog w) A (execs body env) (InvPostN h₀ env.locals (AccAt x z news m₀ P (i + 1)) own (news.map (·.1)) { s with heap := h, toks := tk } Q) E { s with heap := h, toks := tk })
    (done : ∀ (u : Option Value) v tv h tk, P n v → Fr h₀ env.locals h (fun y => if y = x then u else if y = z then some (.int v tv) else m₀ y) → News h₀ env.locals h news → Q .next { s with heap := h, toks := tk }) :
    wpAny (model prog w) A (pyIter (.ref r)) (fun it s₂ => LoopAtV prog w A h₀ env x body Q E it s₂) E s := by
  refine loop_range (AccAt x z news m₀ P) hh hr hsmall hn F N ⟨rfl, ⟨_, _, hz, hj⟩, fun _ _ _ => rfl⟩ ?_ ?_
  · rintro i t m₁ nx h tk own hi - - ⟨rfl, ⟨v, tv, hv, hP⟩, hm⟩ F₁ N₁
    refine turn i t v tv h tk own hi hP ?_ N₁
    have e : (fun y => if y = x then some (Value.int (a₀ + (i : Int) * c₀) t) else m₁ y) = fun y => if y = x then some (.int (a₀ + (i : Int) * c₀) t) else if y = z then some (.int v tv) else m₀ y := by
      funext y
      by_cases hy : y = x
      · simp [hy]
      · by_cases hy2 : y = z
        · subst hy2; simp [hy, hv]
        · simp [hy, hy2, hm y hy hy2]
    rw [← e]; exact F₁
  · rintro m₁ nx h tk ⟨rfl, ⟨v, tv, hv, hP⟩, hm⟩ F₁ N₁
    refine done (m₁ x) v tv h tk hP ?_ N₁
    have e : (fun y => if y = x then m₁ x else if y = z then some (.int v tv) else m₀ y) = m₁ := by
      funext y
      by_cases hy : y = x
      · simp [hy]
      · by_cases hy2 : y = z
        · subst hy2; simp [hy, hv]
        · simp [hy, hy2, hm y hy hy2]
    rw [e]; exact F₁
/-- the end of a turn of it -/
theorem acc_end {L : Addr} {h' : Heap} {m' m₀ : PySem.Str → Option Value} {tk : Nat} {news own : List (Addr × Obj)} {s₁ : Shared} {P : Nat → Int → Prop} {i : Nat} {v : Int} {t : Tok} (F : Fr h₀ L h' m') (N : News h₀ L h' (news ++ own))
    (hz : m' z = some (.int v t)) (hm : ∀ y, y ≠ x → y ≠ z → m' y = m₀ y) (hP : P i v) : InvEndN h₀ L (AccAt x z news m₀ P i) own (news.map (·.1)) s₁ { s₁ with heap := h', toks := tk } :=
  InvEndN.intro F N ⟨rfl, ⟨v, t, hz, hP⟩, hm⟩ rfl (fun p h => List.mem_append.mpr (.inl h)) (fun p h => List.mem_append.mpr (.inr h))
end
/-- looking from behind for the first c: after i turns -/
def Back (ks : List Int) (c : Int) (n : Nat) (d : Nat) (i : Nat) (v : Int) : Prop :=
  (v = n ∧ ∀ k, n ≤ k + i → k < n → ks[k]? ≠ some c) ∨ ∃ j : Nat, v = j + d ∧ ks[j]? = some c ∧ n ≤ j + i ∧ ∀ k, n ≤ k + i → k < j → ks[k]? ≠ some c
theorem Back.start {ks : List Int} {c : Int} {n d : Nat} : Back ks c n d 0 n := .inl ⟨rfl, fun k h1 h2 => by omega⟩
theorem Back.hit {ks : List Int} {c : Int} {n d i : Nat} {v : Int} (hi : i < n) (h : ks[n - 1 - i]? = some c) (e : v = ((n - 1 - i : Nat) : Int) + d) : Back ks c n d (i + 1) v :=
  .inr ⟨n - 1 - i, e, h, by omega, fun k h1 h2 => by omega⟩
theorem Back.miss {ks : List Int} {c : Int} {n d i : Nat} {v : Int} (hi : i < n) (b : Back ks c n d i v) (h : ks[n - 1 - i]? ≠ some c) : Back ks c n d (i + 1) v := by
  rcases b with ⟨e, hk⟩ | ⟨j, e, hj, h1, hk⟩
  · refine .inl ⟨e, fun k h1 h2 => ?_⟩
    by_cases hq : k = n - 1 - i
    · rw [hq]; exact h
    · exact hk k (by omega) h2
  · refine .inr ⟨j, e, hj, by omega, fun k h2 h3 => ?_⟩
    by_cases hq : k = n - 1 - i
    · rw [hq]; exact h
    · exact hk k (by omega) h3
theorem Back.over {ks : List Int} {c : Int} {d : Nat} {v : Int} (b : Back ks c ks.length d ks.length v) : v = ((if c ∈ ks then ks.idxOf c + d else ks.length : Nat) : Int) := by
  rcases b with ⟨e, hk⟩ | ⟨j, e, hj, h1, hk⟩
  · rw [if_neg (not_mem_of fun k hk' => hk k (by omega) hk'), e]
  · obtain ⟨a, b⟩ := idx_first hj fun k hk' => hk k (by omega) hk'
    rw [if_pos a, b, e]; simp
end
section
open PySem PySem.W PySem.Calls PyProof.Rows PyProof
section
variable {prog : Program} {w : World} {A : Around} {E : Value → Shared → Prop} {s : Shared} {h₀ : Heap} {L : Addr} {m : Str → Option Value} {env : Env}
/-- a block of turns by what holds after each -/
theorem rest_inv {elt : PySem.Expr} {x : Str} {scope : Scope} {cl : List (Str × Addr)} {S : List (Addr × Obj) → Prop} {P : Nat → Value → Prop} {Fin : List Value → List (Addr × Obj) → Prop} {n : Nat} {news : List (Addr × Obj)}
    (J : Nat → List Value → List (Addr × Obj) → Prop) (hj : J 0 [] news)
    (turn : ∀ (i : Nat) ys nw v I oI C oC D m₂ h tk (E' : Value → Shared → Prop), i < n → J i ys nw → P i v → LCg.NsObj oC m₂ → m₂ x = some v → Fr h₀ L h m → News h₀ L h ((I, oI) :: (C, oC) :: (D, LCg.lst ys) :: nw) → LCg.Off3 I C D nw → ((@Ne Nat I C) ∧ (@Ne Nat I D) ∧ (@Ne Nat C D)) →
      wpAny (model prog w) A (eval elt (compEnvC scope cl C env)) (LCg.CompEnd h₀ L m { s with heap := h, toks := tk } I oI C oC D (LCg.lst ys) S (fun y nw' => J (i + 1) (ys ++ [y]) nw')) E' { s with heap := h, toks := tk })
    (fin : ∀ ys nw, J n ys nw → Fin ys nw) :
    LCg.CompRest prog w A h₀ L m env elt x scope cl s S P Fin n 0 [] news := by
  have key : ∀ k i ys nw, i + k = n → J i ys nw → LCg.CompRest prog w A h₀ L m env elt x scope cl s S P Fin k i ys nw := by
    intro k
    induction k with
    | zero => intro i ys nw e hJ; obtain rfl : i = n := by omega
              exact LCg.CompRest.zero (fin ys nw hJ)
    | succ k ih =>
      intro i ys nw e hJ
      refine LCg.CompRest.succ fun v I oI C oC D m₂ h tk E' hP hC hx F N off ne => ?_
      refine wpAny_mono (turn i ys nw v I oI C oC D m₂ h tk E' (by omega) hJ hP hC hx F N off ne) (fun y s₂ he => ?_) fun _ _ e => e
      obtain ⟨h', tk', nw', e1, F', N', off', hS, hJ'⟩ := he
      exact ⟨h', tk', nw', e1, F', N', off', hS, ih _ _ _ (by omega) hJ'⟩
  exact key n 0 [] news (by omega) hj
/-- the source of a block: an octet string -/
def SrcB (prog : Program) (w : World) (A : Around) (h₀ : Heap) (L : Addr) (m : Str → Option Value) (env : Env) (elt : PySem.Expr) (x : Str) (scope : Scope) (cl : List (Str × Addr)) (Fin : Shared → List Value → List (Addr × Obj) → Prop) (xv : Value) (s₁ : Shared) : Prop :=
  ∃ b t ks news, xv = .bytes b t ∧ KBw.bInts b = ks ∧ A.handled = none ∧ Fr h₀ L s₁.heap m ∧ News h₀ L s₁.heap news ∧ ks.length ≤ sizeLine ∧
    ∀ s₂ : Shared, (∃ h, s₂ = { s₁ with heap := h }) → LCg.CompRest prog w A h₀ L m env elt x scope cl s₂ (fun _ => True) (fun i v => ∃ k u, ks[i]? = some k ∧ v = .int k u) (Fin s₂) ks.length 0 [] news
theorem bytes_walks {I : Addr} (hh : A.handled = none) (b : Array UInt8) (t : Tok) {ks : List Int} (hk : KBw.bInts b = ks) : Walks prog w A I [I] [I] ks.length (fun i v => ∃ k u, ks[i]? = some k ∧ v = .int k u) (fun i h => KBw.IsBytesIter h I b t i) := by
  subst hk
  have W : Walks prog w A I [I] [I] b.size (fun i v => ∃ c u, b[i]? = some c ∧ v = .int (c.toNat : Int) u) (fun i h => KBw.IsBytesIter h I b t i) := KBw.walks hh I b t
  rw [KBw.ints_length]
  exact { sub := W.sub, frame := W.frame, done := W.done, self := W.self,
          item := fun i s Q E hi st hQ => W.item i s Q E hi st fun v h' tk hP => hQ v h' tk (by obtain ⟨c, u, hc, rfl⟩ := hP; exact ⟨_, u, KBw.ints_get hc, rfl⟩) }
theorem ListComp_B {elt iter : PySem.Expr} {x : Str} {px : Pos} {scope : Scope} {cl : List (Str × Addr)} {pos : Pos} {Q : Value → Shared → Prop} (F₀ : Fr h₀ L s.heap m)
    (hclos : closureFor scope env = pure cl) (hcell : ∀ y ∈ scope.names, y.2 ≠ .cell) (hkind : scope.kind = .function)
    (hnames : ∀ y ∈ scope.names, y.2 = .local → scope.names.lookup y.1 = some .local) (hx : scope.names.lookup x = some .local)
    (h : wpAny (model prog w) A (eval iter env) (SrcB prog w A h₀ L m env elt x scope cl (fun s₂ => LCg.FinE h₀ L m s₂ Q)) E s)
    (hs : ∀ x, foldedSetIterable iter env x = pure x := by intro _; rfl) :
    wpAny (model prog w) A (eval (.ListComp elt [⟨.Name x px, iter, [], 0⟩] scope pos) env) Q E s := by
  rw [eval_ListComp]
  refine wpAny_comprehension_free (use := none) rfl hs hclos hkind hnames (wpAny_mono h (fun xv s₁ h₁ => ?_) fun _ _ e => e)
  obtain ⟨b, t, ks, news, rfl, hk, hh, F, N, hsz, R⟩ := h₁
  refine KBw.pyIter_bytes ?_
  refine LCg.block_U (bytes_walks hh b t hk) hsz (fun i h st => let ⟨o, ho, _⟩ := st; ⟨o, ho⟩) ?_ hcell hkind hx ⟨_, Heap.get?_push_size _ rfl, rfl, rfl⟩ (fun b hb => ?_)
      (F.keeps fun _ _ e => Heap.get?_push_of_some _ e) (N.grown fun _ _ e => Heap.get?_push_of_some _ e) (Nat.ne_of_lt F.ns.lt) (next_is_new F) (fun p hp => Nat.ne_of_lt (Heap.lt_size (N p hp).1)) trivial (R _ ⟨_, rfl⟩) ?_
  · intro i h h' o nw st e e' _ _ _
    obtain ⟨o2, e2, r⟩ := st
    rw [e] at e2; cases e2
    exact ⟨o, e', r⟩
  · rw [List.mem_singleton.mp hb]
    show s₁.heap.objs.size < (s₁.heap.push _).objs.size
    rw [Heap.size_push]; exact Nat.lt_succ_self _
  · intro D C h tk m' ys news' F' N' o1 hn hC₀ hD₀ hCL hDL hCD offC fin
    refine ⟨m', hn, fun h'' hs'' => fin D h'' tk (F'.change hs'' hCL hC₀) (fun p hp => ?_) o1⟩
    refine ⟨hs''.extBut _ _ ?_ (N' p hp).1, (N' p hp).2⟩
    rcases List.mem_cons.mp hp with rfl | hp
    · exact Ne.symm hCD
    · exact offC p hp
theorem srcB {elt : PySem.Expr} {x : Str} {scope : Scope} {cl : List (Str × Addr)} {Fin : Shared → List Value → List (Addr × Obj) → Prop} {b : Array UInt8} {t : Tok} {ks : List Int} {news : List (Addr × Obj)} {s₁ : Shared}
    (hk : KBw.bInts b = ks) (hh : A.handled = none) (F : Fr h₀ L s₁.heap m) (N : News h₀ L s₁.heap news) (hsz : ks.length ≤ 64)
    (h : ∀ g, LCg.CompRest prog w A h₀ L m env elt x scope cl { s₁ with heap := g } (fun _ => True) (fun i v => ∃ k u, ks[i]? = some k ∧ v = .int k u) (Fin { s₁ with heap := g }) ks.length 0 [] news) :
    SrcB prog w A h₀ L m env elt x scope cl Fin (.bytes b t) s₁ := ⟨b, t, ks, news, rfl, hk, hh, F, N, Nat.le_trans hsz (by decide), fun _ ⟨g, e⟩ => e ▸ h g⟩
/-- the end of a turn that gives an int -/
def IntEnd (h₀ : Heap) (L : Addr) (m : Str → Option Value) (s : Shared) (news : List (Addr × Obj)) (k : Int) (y : Value) (s' : Shared) : Prop :=
  ∃ h' tk' own t, s' = { s with heap := h', toks := tk' } ∧ y = .int k t ∧ Fr h₀ L h' m ∧ News h₀ L h' (own ++ news)
/-- a block that gives ints and leaves the ledger -/
theorem rest_ints {elt : PySem.Expr} {x : Str} {scope : Scope} {cl : List (Str × Addr)} {S : List (Addr × Obj) → Prop} {P : Nat → Value → Prop} {Fin : List Value → List (Addr × Obj) → Prop} {g : List Int} {news : List (Addr × Obj)} (hS : S news)
    (turn : ∀ (i : Nat) ys v k I oI C oC D m₂ h tk (E' : Value → Shared → Prop), g[i]? = some k → P i v → LCg.NsObj oC m₂ → m₂ x = some v → Fr h₀ L h m → News h₀ L h ((I, oI) :: (C, oC) :: (D, LCg.lst ys) :: news) →
      wpAny (model prog w) A (eval elt (compEnvC scope cl C env)) (IntEnd h₀ L m { s with heap := h, toks := tk } ((I, oI) :: (C, oC) :: (D, LCg.lst ys) :: news) k) E' { s with heap := h, toks := tk })
    (fin : ∀ ys, IntsAre ys g → Fin ys news) :
    LCg.CompRest prog w A h₀ L m env elt x scope cl s S P Fin g.length 0 [] news := by
  refine rest_inv (fun i ys nw => nw = news ∧ ys.length = i ∧ IntsAre ys (g.take i)) ⟨rfl, rfl, .nil⟩ ?_ ?_
  · rintro i ys nw v I oI C oC D m₂ h tk E' hi ⟨rfl, hl, hys⟩ hP hC hx F N off ne
    have hk : g[i]? = some g[i] := by simp [hi]
    refine wpAny_mono (turn i ys v g[i] I oI C oC D m₂ h tk E' hk hP hC hx F N) (fun y s₂ he => ?_) fun _ _ e => e
    obtain ⟨h', tk', own, t, rfl, rfl, F', N'⟩ := he
    exact ⟨h', tk', nw, rfl, F', fun p hp => N' p (List.mem_append.mpr (.inr hp)), off, hS, rfl, by simp [hl], ints_snoc hys hk⟩
  · rintro ys nw ⟨rfl, hl, hys⟩
    rw [List.take_length] at hys
    exact fin ys hys
end
end
section
open PySem PySem.W PySem.Calls PyProof.Rows PyProof
section
variable {prog : Program} {w : World} {A : Around} {E : Value → Shared → Prop} {s : Shared}
abbrev BAt (b : Array UInt8) (i : Nat) (v : Value) : Prop := ∃ c u, b[i]? = some c ∧ v = .int (c.toNat : Int) u
/-- a list that is drawn out of an octet string -/
theorem extend_B {R : Result → Shared → Prop} (hh : A.handled = none) (b : Array UInt8) (t : Tok) (S : Addr) (c₀ : Nat) (hS : s.heap.get? S = some { cls := .type "list", data := .seq #[] c₀ }) (hn : b.size ≤ sizeLine)
    (hR : ∀ h' tk acc c', (∀ b o, b ≠ S → s.heap.get? b = some o → h'.get? b = some o) → h'.get? S = some { cls := .type "list", dict := none, data := .seq acc c', slots := #[] } → ItemsOf (BAt b) acc b.size → R (.ok (.ret .none)) { s with heap := h', toks := tk }) :
    wpAny (model prog w) A.in1 (Builtin.List.listExtendWith (.ref S) (.bytes b t) .none)
      (fun fin s' => match fin with | .done f => R (.ok f) s' | .again c' => c'.quiet = true ∧ codeAny (model prog w) A c' R s') (fun e s' => R (.error e) s') s := by
  have hlt := Heap.lt_size hS
  unfold Builtin.List.listExtendWith
  refine wpAny_bind (wpAny_typeOf (T := "bytes") (v := .bytes b t) rfl ?_)
  have a1 : Builtin.List.listSameRef (.ref S) (.bytes b t) = false := rfl
  have a2 : (Value.type "bytes" == Value.type "list") = false := by decide
  have a3 : (Value.type "bytes" == Value.type "tuple") = false := by decide
  simp only [a1, a2, a3, Bool.or_false, Bool.false_eq_true, if_false]
  refine wpAny_bind (KBw.pyIter_bytes ?_)
  refine wpAny_bind (wpAny_holding ?_)
  unfold Builtin.List.listLengthHint
  refine wpAny_bind (wpAny_specialOf (T := "bytes") (v := .bytes b t) rfl FB.slot_bytes_len.lookup ?_)
  wp_delta
  refine wpAny_bind (wpAny_isInstance (T := "bytes") (v := .bytes b t) (b := true) rfl (by rw [isSubtype_type]; kernel_rfl) ?_)
  show wpAny _ _ (typeOf (Value.bytes b t) >>= _) _ _ _
  refine wpAny_bind (wpAny_typeOf (T := "bytes") (v := .bytes b t) rfl ?_)
  refine wpAny_pure ?_
  rw [if_neg (by decide)]
  have W := (KBw.walks (prog := prog) (w := w) (A := A.in1) hh s.heap.objs.size b t).toS
  refine wpAny_pure ⟨plainId_quiet F.plain_extend_loop _, codeAny_extend_loopS W hn S (fun hm => Nat.ne_of_lt hlt (List.mem_singleton.mp hm)) _ b.size 0 _ _ _ rfl (Nat.zero_le _) ⟨_, Heap.get?_push_size _ rfl, rfl, rfl⟩ (Heap.get?_push_of_some _ hS) (ItemsOf.nil _) fun s' acc c' hm hS' hacc => ?_⟩
  rw [Moved.eq_with hm]
  refine hR s'.heap s'.toks acc c' (fun b ob hb e => hm.heap b ob (fun hmem => ?_) (Heap.get?_push_of_some _ e)) hS' hacc
  rcases List.mem_cons.mp hmem with e' | hmem
  · exact hb e'
  · exact absurd (Heap.lt_size e) (by rw [List.mem_singleton.mp hmem]; exact Nat.lt_irrefl _)
theorem init_B {R : Result → Shared → Prop} (hh : A.handled = none) (b : Array UInt8) (t : Tok) (S : Addr) (hS : s.heap.get? S = some { cls := .type "list", data := .seq #[] }) (hn : b.size ≤ sizeLine)
    (hR : ∀ h' tk acc c', (∀ b o, b ≠ S → s.heap.get? b = some o → h'.get? b = some o) → h'.get? S = some { cls := .type "list", dict := none, data := .seq acc c', slots := #[] } → ItemsOf (BAt b) acc b.size → R (.ok (.ret .none)) { s with heap := h', toks := tk }) :
    wpAny (model prog w) A.in1 (Builtin.«list.__init__» ⟨[.ref S, .bytes b t], []⟩)
      (fun fin s' => match fin with | .done f => R (.ok f) s' | .again c' => c'.quiet = true ∧ codeAny (model prog w) A c' R s') (fun e s' => R (.error e) s') s := by
  show wpAny _ _ (do let old ← Builtin.List.listItems (.ref S); Builtin.List.listUpdate (.ref S) (fun _ => #[]); letGo old.toList.reverse; Builtin.List.listExtendWith (.ref S) (.bytes b t) .none) _ _ s
  refine wpAny_bind ?_
  unfold Builtin.List.listItems
  refine wpAny_bind (wpAny_seqItems hS rfl (wpAny_pure ?_))
  show wpAny _ _ (updateSeq S (fun _ => #[]) >>= fun _ => letGo (#[] : Array Value).toList.reverse >>= fun _ => Builtin.List.listExtendWith (.ref S) (.bytes b t) .none) _ _ s
  refine wpAny_bind (wpAny_updateSeq hS rfl ?_)
  refine wpAny_bind (wpAny_letGo ?_)
  refine extend_B hh b t S _ (Heap.get?_update_self (Obj.mapSeq (fun _ => (#[] : Array Value))) hS rfl) hn fun h' tk acc c' hk hS' hacc => ?_
  exact hR h' tk acc c' (fun b o hb e => hk b o hb ((Heap.get?_update_other _ _ (Ne.symm hb)).trans e)) hS' hacc
theorem list_B {h₀ : Heap} {L : Addr} {m : Str → Option Value} {news : List (Addr × Obj)} {Q : Value → Shared → Prop} {b : Array UInt8} {t : Tok} {ks : List Int} (hk : KBw.bInts b = ks) (hn : ks.length ≤ 64) (hh : A.handled = none) (Fh : Fr h₀ L s.heap m) (N : News h₀ L s.heap news)
    (h : ∀ D us c h' tk, Fr h₀ L h' m → News h₀ L h' ((D, listOf (List.toArray us) c) :: news) → (∀ p ∈ news, @LT.lt Nat _ p.1 D) → IntsAre us ks → us.length = ks.length → Q (.ref D) { s with heap := h', toks := tk }) :
    wpAny (model prog w) A (call (.type "list") [.bytes b t]) Q E s := by
  subst hk
  rw [KBw.ints_length] at hn
  refine callType_codes (Q₁ := fun obj s₁ => obj = .ref s.heap.objs.size ∧ s₁ = { s with heap := s.heap.push { cls := .type "list", data := .seq #[] } }) F.called_list (F.typeCall_list_1 _) F.entry_list_init
    (code_list_new _ ⟨rfl, rfl⟩) fun obj s₁ h₁ => ?_
  obtain ⟨rfl, rfl⟩ := h₁
  have hS : (s.heap.push { cls := .type "list", data := .seq #[] }).get? s.heap.objs.size = some { cls := .type "list", data := .seq #[] } := Heap.get?_push_size _ rfl
  refine ⟨⟨_, hS, rfl⟩, F.args_list_init_2 _ _, init_B (A := A.in1) hh b t _ hS (Nat.le_trans hn (by decide)) fun h' tk acc c hk hD hI => ?_⟩
  have up : ∀ b o, s.heap.get? b = some o → h'.get? b = some o := fun b o e => hk b o (Nat.ne_of_lt (Heap.lt_size e)) (Heap.get?_push_of_some _ e)
  have hD' : h'.get? s.heap.objs.size = some (listOf (List.toArray acc.toList) c) := by
    rw [Array.toArray_toList]
    exact hD
  have hl : acc.toList.length = (KBw.bInts b).length := by rw [Array.length_toList, KBw.ints_length]; exact hI.1
  refine ⟨rfl, h _ acc.toList c h' tk (Fh.keeps up) (news_pushed Fh N up hD' rfl) (fun p hp => Heap.lt_size (N p hp).1) ?_ hl⟩
  have key : ∀ (vs : List Value) (ns : List Int), vs.length = ns.length → (∀ (j : Nat) (v : Value), vs[j]? = some v → ∃ (u : Tok) (k : Int), ns[j]? = some k ∧ v = Value.int k u) → IntsAre vs ns := by
    intro vs
    induction vs with
    | nil => intro ns e _; cases ns with
      | nil => exact .nil
      | cons => simp at e
    | cons v vs ih =>
      intro ns e h
      cases ns with
      | nil => simp at e
      | cons k ns =>
        obtain ⟨u, k', hk', rfl⟩ := h 0 v rfl
        obtain rfl : k = k' := by simpa using hk'
        exact .cons _ _ (ih ns (by simpa using e) fun j v hv => h (j + 1) v hv)
  refine key _ _ hl fun j v hv => ?_
  obtain ⟨c, u, hc, rfl⟩ := hI.2 j v (by rw [← hv, Array.getElem?_toList])
  exact ⟨u, _, KBw.ints_get hc, rfl⟩
end
end
section
open PySem PySem.W PySem.Calls PyProof.Rows
set_option maxHeartbeats 8000000
theorem fill0 : (PySem.Challenge.rw_pb0226_01 = PySem.Challenge.rw_pb0226_01 ∧ hd.heap_39 = hd.heap_39) := by
  w_top off
  k_fill
  exact ⟨rfl, rfl⟩

abbrev prog0 : Program := PySem.Challenge.rw_pb0226_01.row.prog
/-- a call of f upon vs comes back with R t, where t is a token; all that stood stands -/
abbrev Tells (w : World) (loose : List Str) (mean : ExcName → Option Value) (mg mb : Str → Option Value) (f : Addr) (dp' un' : Nat) (vs : List Value) (R : Tok → Value) : Prop :=
  ∀ (dp un : Nat) (gd : Option (List Code)) (cn : Str) (cs : Scope) (a : Addr) (ccd : Value) (cl : List (Str × Addr)) (outer : List Env) (A₀ : Around) (base h₀ : Heap) (L : Addr) (m : Str → Option Value) (news : List (Addr × Obj)) (s : Shared) (Q E : Value → Shared → Prop),
    Below A₀ base outer h₀ → Fr h₀ L s.heap m → (hd.heap_39 w.params).In h₀ → News h₀ L s.heap news → Top topProg loose mean mg mb h₀ → cs.kind = .function →
    dp + dp' < recursionLimit → un + un' < cLine →
    (∀ (t : Tok) (h' : Heap) (tk' : Nat), Fr h₀ L h' m → News h₀ L h' news → Q (R t) { s with heap := h', toks := tk' }) →
      wpAny (model prog0 w) (ktrTop dp un gd cn cs L a ccd cl outer) (call (.ref f) vs) Q E s

section
variable {w : World} {loose : List Str} {mean : ExcName → Option Value} {mg mb : Str → Option Value}
theorem clip_one {n : Nat} {i : Int} (h0 : 0 ≤ i) (h1 : i < n) : clipAt n i = i.toNat ∧ clipAt n (i + ((1 : Nat) : Int)) = i.toNat + 1 ∧ i.toNat < n := by
  obtain ⟨j, rfl⟩ := Int.eq_ofNat_of_zero_le h0
  have hj : j < n := Int.ofNat_lt.mp h1
  exact ⟨(clipAt_nat n j).trans (Nat.min_eq_left (Nat.le_of_lt hj)), (clipAt_nat n (j + 1)).trans (Nat.min_eq_left hj), hj⟩
theorem lies_at_tells {o x : Array UInt8} {t u v : Tok} {i : Int} {ks : List Int} {c : Int} (ho : KBw.bInts o = ks) (hx : KBw.bInts x = [c]) (hn : ks.length ≤ 64) (h0 : 0 ≤ i) (h1 : i < ks.length) :
    Tells w loose mean mg mb 62 1 8 [.bytes o t, .bytes x u, .int i v] (fun _ => .bool (decide (ks[i.toNat]? = some c))) := by
  intro dp un gd cn cs a ccd cl outer A₀ base h₀ L m news s Q E B F X N T hk hd9 hu9 hret
  refine wpAny_call ?_
  k_dflt cell_enter
  k_steps
  rename Fr h₀ L _ _ => kF
  rename News h₀ L _ _ => kN
  rename KBw.bInts (KBy.picked _ _ _) = _ => kP
  refine end_bool hret kF kN sub_refl ?_
  have e1 : clipAt ks.length i = i.toNat := (clip_one h0 h1).1
  have e2 : clipAt ks.length (i + ([c].length : Nat)) = i.toNat + 1 := (clip_one h0 h1).2.1
  rw [eq_ints, kP, hx, e1, e2, Nat.add_sub_cancel_left]
  exact decide_eq_decide.mpr (one_at (clip_one h0 h1).2.2)
theorem tells_use {f : Addr} {dp' un' : Nat} {vs : List Value} {R : Tok → Value} {dp un : Nat} {gd : Option (List Code)} {cn : Str} {cs : Scope} {a : Addr} {ccd : Value} {cl : List (Str × Addr)} {outer : List Env} {A₀ : Around} {base h₀ : Heap} {L : Addr} {m : Str → Option Value} {news : List (Addr × Obj)} {s : Shared} {Q E : Value → Shared → Prop}
    (C : Tells w loose mean mg mb f dp' un' vs R) (B : Below A₀ base outer h₀) (F : Fr h₀ L s.heap m) (X : (hd.heap_39 w.params).In h₀) (N : News h₀ L s.heap news) (T : Top topProg loose mean mg mb h₀) (hk : cs.kind = .function) (hd : dp + dp' < recursionLimit) (hu : un + un' < cLine)
    (ret : ∀ (t : Tok) (h' : Heap) (tk' : Nat), Fr h₀ L h' m → News h₀ L h' news → Q (R t) { s with heap := h', toks := tk' }) : wpAny (model prog0 w) (ktrTop dp un gd cn cs L a ccd cl outer) (call (.ref f) vs) Q E s :=
  C _ _ _ _ _ _ _ _ _ _ _ _ _ _ _ _ _ _ B F X N T hk hd hu ret
end
section
variable {w : World} {loose : List Str} {mean : ExcName → Option Value} {mg mb : Str → Option Value}
local macro_rules | `(tactic| walk_at "pyIter ref") => `(tactic| (refine stop_here ?_))
local macro_rules | `(tactic| walk_at "call ref") => `(tactic| (
  refine' tells_use (lies_at_tells ?a1 ?a2 ?a3 ?a4 ?a5) ?k1 ?k2 ?k3 ?k4 ?k5 ?kK ?kd ?ku ?_;
  (case k1 => k_asm); (case k2 => k_asm); (case k3 => k_asm); (case k4 => k_asm); (case k5 => k_asm); (case kK => first | exact rfl | assumption); (case kd => ktr_room); (case ku => ktr_units);
  (case a1 => assumption); (case a2 => assumption); (case a3 => assumption); (case a4 => omega); (case a5 => omega);
  intro t9 h9 tk9 F9 N9; (try dsimp only); (try k_fold)))
theorem first_at_tells {o x : Array UInt8} {t u v : Tok} {ks : List Int} {c : Int} (ho : KBw.bInts o = ks) (hx : KBw.bInts x = [c]) (hn : ks.length ≤ 64) :
    Tells w loose mean mg mb 69 2 16 [.bytes o t, .bytes x u, .int 0 v] (fun t => .int (if c ∈ ks then (ks.idxOf c : Nat) else -1) t) := by
  intro dp un gd cn cs a ccd cl outer A₀ base h₀ L m news s Q E B F X N T hk hd9 hu9 hret
  refine wpAny_call ?_
  k_dflt cell_enter
  k_steps
  · simp at *
  · unfold Stop
    rename IsRange _ _ _ _ _ _ _ _ => hr
    rename Fr _ _ _ _ => F1
    rename News _ _ _ _ => N1
    with_unfolding_all refine' loop_find (n := ks.length) (fun j => ∀ k, k < j → ks[k]? ≠ some c) rfl hr ?_ ?_ F1 N1 ?_ (fun i' t' h' tk' own' hi' hP' F' N' => ?_) (fun u' h' tk' hP' F' N' => ?_)
    · exact small_one (by decide) (by decide) (by omega) (by omega)
    · rw [rangeSize_nat]; simp
    · exact fun _ h => absurd h (Nat.not_lt_zero _)
    · k_steps
      · rename Fr h₀ L _ _ => kF
        rename News h₀ L _ _ => kN
        rename ks[_]? = some c => hc
        refine end_int hret kF kN sub_left ?_
        rw [show (0 + (i' : Int) * 1).toNat = i' by omega] at hc
        have hx := idx_first hc hP'
        rw [if_pos hx.1, hx.2]
        omega
      · rename ¬ ks[_]? = some c => hc
        rw [show (0 + (i' : Int) * 1).toNat = i' by omega] at hc
        rename Fr _ _ _ _ => F2
        rename News _ _ _ _ => N2
        refine InvEndN.intro F2 N2 ⟨rfl, ?_, ?_⟩ rfl (fun p h => List.mem_append.mpr (.inl h)) (fun p h => List.mem_append.mpr (.inr h))
        · intro z hz; simp [hz]
        · intro k hk
          rcases Nat.lt_or_eq_of_le (Nat.le_of_lt_succ hk) with h1 | rfl
          · exact hP' k h1
          · exact hc
    · k_steps
      rename Fr h₀ L _ _ => kF
      rename News h₀ L _ _ => kN
      refine end_int hret kF kN sub_refl ?_
      rw [if_neg (not_mem_of hP')]
end
end
section
open PySem PySem.W PySem.Calls PyProof.Rows
set_option maxHeartbeats 8000000
theorem fill2 : (PySem.Challenge.rw_pb0226_01 = PySem.Challenge.rw_pb0226_01 ∧ hd.heap_39 = hd.heap_39) := by
  w_top off
  k_fill
  exact ⟨rfl, rfl⟩
def sb (ks : List Int) : Option Int → Nat
  | none => 0
  | some c => if c ∈ ks then ks.idxOf c + 1 else ks.length
def se (ks : List Int) : Option Int → Nat
  | none => ks.length
  | some c => if c ∈ ks then ks.idxOf c else ks.length
section
variable {w : World} {loose : List Str} {mean : ExcName → Option Value} {mg mb : Str → Option Value}
local macro_rules | `(tactic| walk_at "call ref") => `(tactic| (
  refine' tells_use (first_at_tells ?a1 ?a2 ?a3) ?k1 ?k2 ?k3 ?k4 ?k5 ?kK ?kd ?ku ?_;
  (case k1 => k_asm); (case k2 => k_asm); (case k3 => k_asm); (case k4 => k_asm); (case k5 => k_asm); (case kK => first | exact rfl | assumption); (case kd => ktr_room); (case ku => ktr_units);
  (case a1 => assumption); (case a2 => assumption); (case a3 => assumption);
  intro t9 h9 tk9 F9 N9; (try dsimp only); (try k_fold)))
theorem stretch_begin_none {o : Array UInt8} {t : Tok} {ks : List Int} :
    Tells w loose mean mg mb 104 3 24 [.bytes o t, .none] (fun t => .int (sb ks none : Nat) t) := by
  intro dp un gd cn cs a ccd cl outer A₀ base h₀ L m news s Q E B F X N T hk hd9 hu9 hret
  refine wpAny_call ?_
  k_dflt cell_enter
  k_steps
  rename Fr h₀ L _ _ => kF
  rename News h₀ L _ _ => kN
  exact end_int hret kF kN sub_refl rfl
theorem stretch_begin_some {o x : Array UInt8} {t u : Tok} {ks : List Int} {c : Int} (ho : KBw.bInts o = ks) (hx : KBw.bInts x = [c]) (hn : ks.length ≤ 64) :
    Tells w loose mean mg mb 104 3 24 [.bytes o t, .bytes x u] (fun t => .int (sb ks (some c) : Nat) t) := by
  intro dp un gd cn cs a ccd cl outer A₀ base h₀ L m news s Q E B F X N T hk hd9 hu9 hret
  refine wpAny_call ?_
  k_dflt cell_enter
  k_steps
  all_goals (rename Fr h₀ L _ _ => kF; rename News h₀ L _ _ => kN; refine end_int hret kF kN sub_refl ?_; unfold sb; split at * <;> simp_all <;> omega)
theorem stretch_end_none {o : Array UInt8} {t : Tok} {ks : List Int} (ho : KBw.bInts o = ks) (hn : ks.length ≤ 64) :
    Tells w loose mean mg mb 111 3 24 [.bytes o t, .none] (fun t => .int (se ks none : Nat) t) := by
  intro dp un gd cn cs a ccd cl outer A₀ base h₀ L m news s Q E B F X N T hk hd9 hu9 hret
  refine wpAny_call ?_
  k_dflt cell_enter
  k_steps
  rename Fr h₀ L _ _ => kF
  rename News h₀ L _ _ => kN
  exact end_int hret kF kN sub_refl rfl
theorem stretch_end_some {o x : Array UInt8} {t u : Tok} {ks : List Int} {c : Int} (ho : KBw.bInts o = ks) (hx : KBw.bInts x = [c]) (hn : ks.length ≤ 64) :
    Tells w loose mean mg mb 111 3 24 [.bytes o t, .bytes x u] (fun t => .int (se ks (some c) : Nat) t) := by
  intro dp un gd cn cs a ccd cl outer A₀ base h₀ L m news s Q E B F X N T hk hd9 hu9 hret
  refine wpAny_call ?_
  k_dflt cell_enter
  k_steps
  all_goals (rename Fr h₀ L _ _ => kF; rename News h₀ L _ _ => kN; refine end_int hret kF kN sub_refl ?_; unfold se; split at * <;> simp_all <;> omega)
/-- an octet, or none -/
def IsOct (v : Value) : Option Int → Prop
  | none => v = .none
  | some c => ∃ a t, v = .bytes a t ∧ KBw.bInts a = [c]
theorem stretch_begin_tells {o : Array UInt8} {t : Tok} {ks : List Int} {v : Value} {c : Option Int} (ho : KBw.bInts o = ks) (hx : IsOct v c) (hn : ks.length ≤ 64) :
    Tells w loose mean mg mb 104 3 24 [.bytes o t, v] (fun t => .int (sb ks c : Nat) t) := by
  cases c with
  | none => cases hx; exact stretch_begin_none
  | some c => obtain ⟨a, u, rfl, hx⟩ := hx; exact stretch_begin_some ho hx hn
theorem stretch_end_tells {o : Array UInt8} {t : Tok} {ks : List Int} {v : Value} {c : Option Int} (ho : KBw.bInts o = ks) (hx : IsOct v c) (hn : ks.length ≤ 64) :
    Tells w loose mean mg mb 111 3 24 [.bytes o t, v] (fun t => .int (se ks c : Nat) t) := by
  cases c with
  | none => cases hx; exact stretch_end_none ho hn
  | some c => obtain ⟨a, u, rfl, hx⟩ := hx; exact stretch_end_some ho hx hn
end
end
section
open PySem PySem.W PySem.Calls PyProof.Rows
set_option maxHeartbeats 8000000
theorem fill3 : (PySem.Challenge.rw_pb0226_01 = PySem.Challenge.rw_pb0226_01 ∧ hd.heap_39 = hd.heap_39) := by
  w_top off
  k_fill
  exact ⟨rfl, rfl⟩
/-- one octet, turned -/
def turn1 (ws gs : List Int) (k : Int) : Int := if k ∈ ws then gs.getD (ws.idxOf k) 0 else k
/-- what converted gives -/
def convL (ws gs : List Int) (lo hi : Nat) (ks : List Int) : List Int := ks.mapIdx fun i k => if lo ≤ i ∧ i < hi then turn1 ws gs k else k
theorem idx_lt {ks : List Int} {i : Int} (h : i ∈ ks) : ((ks.idxOf i : Nat) : Int) < (ks.length : Int) := by
  have := List.idxOf_lt_length_of_mem h
  omega
theorem turn1_in {ws gs : List Int} {k : Int} (hk : 0 ≤ k ∧ k < 256) (hg : ∀ n ∈ gs, 0 ≤ n ∧ n < 256) : 0 ≤ turn1 ws gs k ∧ turn1 ws gs k < 256 := by
  unfold turn1
  split
  · exact KBw.getD_in hg
  · exact hk
theorem convL_in {ws gs ks : List Int} {lo hi : Nat} (hk : ∀ n ∈ ks, 0 ≤ n ∧ n < 256) (hg : ∀ n ∈ gs, 0 ≤ n ∧ n < 256) : KBa.In (convL ws gs lo hi ks) := by
  intro n hn
  unfold convL at hn
  obtain ⟨i, hi, rfl⟩ := List.mem_mapIdx.mp hn
  split
  · exact turn1_in (hk _ (List.getElem_mem hi)) hg
  · exact hk _ (List.getElem_mem hi)
theorem convL_length {ws gs ks : List Int} {lo hi : Nat} : (convL ws gs lo hi ks).length = ks.length := by simp [convL]
section
variable {w : World} {loose : List Str} {mean : ExcName → Option Value} {mg mb : Str → Option Value}
local macro_rules | `(tactic| walk_at "call ref") => `(tactic| (
  (first | (refine' tells_use (stretch_begin_tells ?a1 ?a2 ?a3) ?k1 ?k2 ?k3 ?k4 ?k5 ?kK ?kd ?ku ?_) | (refine' tells_use (stretch_end_tells ?a1 ?a2 ?a3) ?k1 ?k2 ?k3 ?k4 ?k5 ?kK ?kd ?ku ?_));
  (case k1 => k_asm); (case k2 => k_asm); (case k3 => k_asm); (case k4 => k_asm); (case k5 => k_asm); (case kK => first | exact rfl | assumption); (case kd => ktr_room); (case ku => ktr_units);
  (case a1 => assumption); (case a2 => assumption); (case a3 => assumption);
  intro t9 h9 tk9 F9 N9; (try dsimp only); (try k_fold)))
local macro_rules | `(tactic| walk_at "call type:enumerate") => `(tactic| (k_here; k_dflt (refine' call_enum_bytes ?a1 ?a2 ?a3 ?a4 ?_; (case a1 => assumption); (case a2 => rfl); (case a3 => k_asm); (case a4 => k_asm)); intro h' e' F' N' P'))
local macro_rules | `(tactic| walk_at "pyIter ref") => `(tactic| (refine stop_here ?_))
local macro_rules | `(tactic| walk_at "call builtin:list.append") => `(tactic| (k_here; (with_reducible show wpAny _ _ (call (Value.builtin _) [Value.ref _, _]) _ _ _); k_dflt (refine' append_U ?k1 ?k2 ?k3 ?_ ?z; (case k1 => k_asm); (case k2 => k_asm); (case k3 => assumption); (case z => (simp only [List.size_toArray, sizeLine_eq]; omega))); intro h' F' N'))
local macro_rules | `(tactic| walk_at "compareOp In int bytes") => `(tactic| (k_here; (with_reducible show wpAny _ _ (compareOp CmpOp.In (Value.int _ _) (Value.bytes _ _)) _ _ _); (refine in_K (by assumption) (by omega) (by omega) ?_)))
local macro_rules | `(tactic| walk_at "getMethod bytes") => `(tactic| (k_here; (with_reducible refine method ?_)))
local macro_rules | `(tactic| walk_at "call builtin:bytes.index") => `(tactic| (k_here; (with_reducible show wpAny _ _ (call (Value.builtin "bytes.index") [Value.bytes _ _, Value.int _ _]) _ _ _); (refine index_K (by assumption) (by first | assumption | exact of_decide_eq_true (by assumption)) ?_); intro _ _; (have hidx := idx_lt (by first | assumption | exact of_decide_eq_true (by assumption)))))
theorem converted_tells {o x g : Array UInt8} {t u v : Tok} {vb va : Value} {bf af : Option Int} {ks ws gs : List Int} (ho : KBw.bInts o = ks) (hx : KBw.bInts x = ws) (hg : KBw.bInts g = gs) (hvb : IsOct vb bf) (hva : IsOct va af) (hn : ks.length ≤ 64) (hw : ws.length ≤ 64) (hl : ws.length = gs.length) :
    Tells w loose mean mg mb 118 4 40 [.bytes o t, .bytes x u, .bytes g v, vb, va] (fun t => .bytes (byteArr (convL ws gs (sb ks af) (se ks bf) ks)) t) := by
  intro dp un gd cn cs a ccd cl outer A₀ base h₀ L m news s Q E B F X N T hk hd9 hu9 hret
  refine wpAny_call ?_
  k_dflt cell_enter
  k_steps
  · omega
  · unfold Stop
    rename PairSrcL _ _ _ _ _ _ _ _ _ _ _ _ => hS
    rename News _ _ _ _ => N1
    rename Fr _ _ _ _ => F1
    rename _ ∧ AllLt _ _ => l1
    have hb : ∀ (i : Nat) (k : Int), ks[i]? = some k → 0 ≤ k ∧ k < 256 := fun i k h => KBw.ints_in (b := o) (by rw [ho]; exact List.mem_of_getElem? h)
    have hin : KBa.In (convL ws gs (sb ks af) (se ks bf) ks) := convL_in (fun n h => KBw.ints_in (b := o) (by rw [ho]; exact h)) (fun n h => KBw.ints_in (b := g) (by rw [hg]; exact h))
    have hcl : (convL ws gs (sb ks af) (se ks bf) ks).length = ks.length := convL_length
    with_unfolding_all refine' loop_fill (g := convL ws gs (sb ks af) (se ks bf) ks) (hS _ rfl) hcl ?_ (fun i' k' t' u' us' n' h' tk' own' hi' hl' hoff' hU' hus' F' N' => ?_) (fun u1' u2' us' n' h' tk' hus' F' N' => ?_)
    · intro p hp
      rcases List.mem_cons.mp hp with rfl | hp
      · exact Nat.ne_of_lt l1.1
      · exact Nat.ne_of_lt (ktn_ltOf l1.2 p hp)
    · have hk9 := hb _ _ hi'
      have hlt9 : i' < ks.length := by
        obtain ⟨h, _⟩ := List.getElem?_eq_some_iff.mp hi'
        exact h
      have hg9 : (convL ws gs (sb ks af) (se ks bf) ks)[i']? = some (if sb ks af ≤ i' ∧ i' < se ks bf then turn1 ws gs k' else k') := by
        unfold convL
        rw [List.getElem?_mapIdx, hi']; rfl
      k_steps
      all_goals (rename Fr _ _ _ _ => F2; rename News _ _ _ _ => N2; refine fill_end F2 N2 hl' hus' ?_ ?_)
      all_goals first
        | (intro z h1 h2; simp only [h1, h2, if_false]; done)
        | (intro z h1 h2; simp [h1, h2]; done)
        | (rw [hg9]; congr 1; unfold turn1; (repeat' split) <;> first | rfl | omega | contradiction)
    · k_steps
      rename Fr h₀ L _ _ => kF
      rename News h₀ L _ _ => kN
      exact end_bytes hret kF kN (fun p h => .tail _ (.tail _ h)) rfl
end
end
section
open PySem PySem.W PySem.Calls PyProof.Rows
set_option maxHeartbeats 1000000
theorem fillD4 : (PySem.Challenge.rw_pb0226_01 = PySem.Challenge.rw_pb0226_01 ∧ hd.heap_39 = hd.heap_39) := by
  w_top off
  k_fill
  exact ⟨rfl, rfl⟩
section
variable {w : World} {loose : List Str} {mean : ExcName → Option Value} {mg mb : Str → Option Value}
def turnI (o b st : Int) : Int := if b ≤ o ∧ o < b + 26 then b + Int.fmod (o - b + st) 26 else o
theorem turned_tells {o b st : Int} {t u v : Tok} :
    Tells w loose mean mg mb 172 1 8 [.int o t, .int b u, .int st v] (fun t => .int (turnI o b st) t) := by
  intro dp un gd cn cs a ccd cl outer A₀ base h₀ L m news s Q E B F X N T hk hd9 hu9 hret
  refine wpAny_call ?_
  k_dflt cell_enter
  k_steps
  all_goals (rename Fr h₀ L _ _ => kF; rename News h₀ L _ _ => kN; refine end_int hret kF kN sub_refl ?_; unfold turnI; first | rw [if_pos (by omega)] | rw [if_neg (by omega)])
/-- an octet as an int, or none -/
inductive IsOctI : Value → Option Int → Prop
  | none : IsOctI .none none
  | some (c : Int) (t : Tok) : IsOctI (.int c t) (some c)
local macro_rules | `(tactic| walk_at "pyIter ref") => `(tactic| (refine stop_here ?_))
theorem item_nat {prog : Program} {w : World} {A : Around} {E : Value → Shared → Prop} {s : Shared} {value slice : PySem.Expr} {b : Array UInt8} {t ui : Tok} {ks : List Int} {j : Nat} {Q : Value → Shared → Prop} (hk : KBw.bInts b = ks) (hn : ks.length ≤ 64) (hj : j < ks.length)
    (h : ∀ k t' tk, ks[j]? = some k → 0 ≤ k → k < 256 → Q (.int k t') { s with toks := tk })
    (hs : subscripted slice false (.bytes b t) (.int j ui) = operate [.bytes b t, .int j ui] (getItem (.bytes b t) (.int j ui)) := by with_unfolding_all rfl)
    (ht : ∀ r, letTemporaryGo value (.bytes b t) r = pure () := by intro _; with_unfolding_all rfl) : wpAny (model prog w) A (subscriptTail value slice (.bytes b t) (.int j ui)) Q E s := by
  refine KBw.item_K hk (by omega) (by omega) (by omega) ?_ hs ht
  intro _ _ h0 h1
  refine h _ _ _ ?_ h0 h1
  simp [List.getD_eq_getElem?_getD, hj]
local macro_rules | `(tactic| walk_at "subscriptTail") => `(tactic| (k_here; (with_reducible show wpAny _ _ (subscriptTail _ _ (Value.bytes _ _) (Value.int _ _)) _ _ _); k_dflt (refine' item_nat ?a ?b ?c ?_; (case a => assumption); (case b => assumption); (case c => assumption)); intro kx9 tx9 ty9 gx9 lx9 hx9))
theorem between_end {h₀ h' : Heap} {L D D1 : Addr} {m : Str → Option Value} {news : List (Addr × Obj)} {s : Shared} {Q : Value → Shared → Prop} {tk' : Nat} {t1 t2 : Tok} {x y : Int} {bx ex : Nat} {ob : Obj}
    (hret : ∀ (t1 t2 : Tok) (T : Addr) (h' : Heap) (tk' : Nat), Fr h₀ L h' m → News h₀ L h' ((T, { cls := .type "tuple", data := .seq #[.int bx t1, .int ex t2] }) :: news) → (∀ p ∈ news, @LT.lt Nat _ p.1 T) → Q (.ref T) { s with heap := h', toks := tk' })
    (F : Fr h₀ L h' m) (N : News h₀ L h' ((D, { cls := .type "tuple", data := .seq #[.int x t1, .int y t2] }) :: (D1, ob) :: news)) (hl : ∀ p ∈ news, @LT.lt Nat _ p.1 D) (e1 : x = bx) (e2 : y = ex) : Q (.ref D) { s with heap := h', toks := tk' } := by
  subst e1 e2
  have N' : News h₀ L h' ((D, { cls := .type "tuple", data := .seq #[.int bx t1, .int ex t2] }) :: news) := fun p hp => N p (by
    rcases List.mem_cons.mp hp with rfl | hp
    · exact .head _
    · exact .tail _ (.tail _ hp))
  exact hret _ _ _ _ _ F N' hl
/-- after i turns of the loop that looks for the end -/
def EndP (ks : List Int) (n : Nat) : Option Int → Nat → Int → Prop
  | none, _, v => v = n
  | some c, i, v => Back ks c n 0 i v
theorem endp_start {ks : List Int} {n : Nat} {bf : Option Int} : EndP ks n bf 0 n := by
  cases bf with
  | none => exact rfl
  | some c => exact Back.start
theorem endp_over {ks : List Int} {bf : Option Int} {v : Int} (h : EndP ks ks.length bf ks.length v) : v = ((se ks bf : Nat) : Int) := by
  cases bf with
  | none => exact h
  | some c => have h := Back.over h; simpa [se] using h
theorem between_ok {o : Array UInt8} {t : Tok} {ks : List Int} {vb va : Value} {bf af : Option Int} (ho : KBw.bInts o = ks) (hn : ks.length ≤ 64) (hvb : IsOctI vb bf) (hva : IsOctI va af) :
  ∀ (dp un : Nat) (gd : Option (List Code)) (cn : Str) (cs : Scope) (a : Addr) (ccd : Value) (cl : List (Str × Addr)) (outer : List Env) (A₀ : Around) (base h₀ : Heap) (L : Addr) (m : Str → Option Value) (news : List (Addr × Obj)) (s : Shared) (Q E : Value → Shared → Prop),
    Below A₀ base outer h₀ → Fr h₀ L s.heap m → (hd.heap_39 w.params).In h₀ → News h₀ L s.heap news → Top topProg loose mean mg mb h₀ → cs.kind = .function →
    dp + 1 < recursionLimit → un + 8 < cLine →
    (∀ (t1 t2 : Tok) (T : Addr) (h' : Heap) (tk' : Nat), Fr h₀ L h' m → News h₀ L h' ((T, { cls := .type "tuple", data := .seq #[.int (sb ks af : Nat) t1, .int (se ks bf : Nat) t2] }) :: news) → (∀ p ∈ news, @LT.lt Nat _ p.1 T) → Q (.ref T) { s with heap := h', toks := tk' }) →
      wpAny (model prog0 w) (ktrTop dp un gd cn cs L a ccd cl outer) (call (.ref 179) [.bytes o t, vb, va]) Q E s := by
  intro dp un gd cn cs a ccd cl outer A₀ base h₀ L m news s Q E B F X N T hk hd9 hu9 hret
  refine wpAny_call ?_
  k_dflt cell_enter
  rename Fr _ _ _ _ => F0
  replace F0 := fr_to (m' := fun y => List.lookup y [(Str.ofString "after", va), (Str.ofString "before", vb), (Str.ofString "octets", Value.bytes o t)]) F0 (by with_unfolding_all rfl)
  k_steps
  unfold Stop
  rename IsRange _ _ _ _ _ _ _ _ => hr
  rename Fr _ _ _ _ => F1
  rename News _ _ _ _ => N1
  with_unfolding_all refine' loop_acc (z := Str.ofString "end") (n := ks.length) (by decide) (EndP ks ks.length bf) rfl hr ?_ ?_ F1 N1 rfl endp_start (fun i' t' v' tv' h' tk' own' hi' hP' F' N' => ?_) (fun u' v' tv' h' tk' hP' F' N' => ?_)
  · exact small_down (by omega) (by omega) (by omega) (by omega)
  · rw [rangeSize_downNat]; omega
  · cases hvb with
    | none =>
      k_steps
      rename Fr _ _ _ _ => F2
      rename News _ _ _ _ => N2
      exact acc_end F2 N2 rfl (fun y h1 h2 => by simp [h1, h2]) hP'
    | some c tc =>
      rw [show ((ks.length : Int) - 1 + (i' : Int) * -1) = ((ks.length - 1 - i' : Nat) : Int) by omega] at F'
      have hj : ks.length - 1 - i' < ks.length := by omega
      have hh : ks[ks.length - 1 - i']? = some c → Back ks c ks.length 0 (i' + 1) ((ks.length - 1 - i' : Nat) : Int) := fun h => Back.hit hi' h (by first | omega | (simp; done) | rfl)
      have hm : ks[ks.length - 1 - i']? ≠ some c → Back ks c ks.length 0 (i' + 1) v' := fun h => Back.miss hi' hP' h
      generalize ks.length - 1 - i' = j at F' hj hh hm
      k_steps
      all_goals rename Fr _ _ _ _ => F2
      all_goals rename News _ _ _ _ => N2
      all_goals rename ks[_]? = some _ => gx
      · rename _ = c => ec
        subst ec
        exact acc_end F2 N2 rfl (fun y h1 h2 => by simp [h1, h2]) (hh gx)
      · rename _ ≠ c => nc
        exact acc_end F2 N2 rfl (fun y h1 h2 => by simp [h1, h2]) (hm (by rw [gx]; intro e; exact nc (Option.some.inj e)))
  · have hO := endp_over hP'
    subst hO
    clear hP' F1 N1 hr
    cases hva with
    | none =>
      k_steps
      rename Fr h₀ L _ _ => kF
      rename News h₀ L _ _ => kN
      rename _ ∧ AllLt _ _ => kl
      exact between_end hret kF kN (ktn_ltOf kl.2) (by simp [sb]) rfl
    | some d td =>
      k_steps
      unfold Stop
      rename IsRange _ _ _ _ _ _ _ _ => hr
      rename Fr _ _ _ _ => F1
      rename News _ _ _ _ => N1
      with_unfolding_all refine' loop_acc (z := Str.ofString "begin") (n := ks.length) (by decide) (Back ks d ks.length 1) rfl hr ?_ ?_ F1 N1 rfl Back.start (fun i' t' v' tv' h' tk' own' hi' hP' F' N' => ?_) (fun u' v' tv' h' tk' hP' F' N' => ?_)
      · exact small_down (by omega) (by omega) (by omega) (by omega)
      · rw [rangeSize_downNat]; omega
      · rw [show ((ks.length : Int) - 1 + (i' : Int) * -1) = ((ks.length - 1 - i' : Nat) : Int) by omega] at F'
        have hj : ks.length - 1 - i' < ks.length := by omega
        have hh : ks[ks.length - 1 - i']? = some d → Back ks d ks.length 1 (i' + 1) (((ks.length - 1 - i' : Nat) : Int) + 1) := fun h => Back.hit hi' h (by first | omega | (simp; done) | rfl)
        have hm : ks[ks.length - 1 - i']? ≠ some d → Back ks d ks.length 1 (i' + 1) v' := fun h => Back.miss hi' hP' h
        generalize ks.length - 1 - i' = j at F' hj hh hm
        k_steps
        all_goals rename Fr _ _ _ _ => F2
        all_goals rename News _ _ _ _ => N2
        all_goals rename ks[_]? = some _ => gx
        · rename _ = d => ec
          subst ec
          exact acc_end F2 N2 rfl (fun y h1 h2 => by simp [h1, h2]) (hh gx)
        · rename _ ≠ d => nc
          exact acc_end F2 N2 rfl (fun y h1 h2 => by simp [h1, h2]) (hm (by rw [gx]; intro e; exact nc (Option.some.inj e)))
      · have hO := hP'.over
        subst hO
        clear hP' F1 N1 hr
        k_steps
        rename Fr h₀ L _ _ => kF
        rename News h₀ L _ _ => kN
        rename _ ∧ AllLt _ _ => kl
        exact between_end hret kF kN (ktn_ltOf kl.2) (by simp [sb]) rfl
end
end
section
open PySem PySem.W PySem.Calls PyProof.Rows
local macro_rules | `(tactic| k_ne) => `(tactic| (refine neN ?_; (try dsimp only); with_reducible (first | assumption | exact Nat.ne_of_lt ‹_› | exact ne1 ‹_› | exact ne2 ‹_› | exact ne3 ‹_› | exact ne4 ‹_› | exact ne5 ‹_› | exact ne6 ‹_› | exact ne7 ‹_› | exact ne8 ‹_› | exact ne9 ‹_› | exact neA ‹_› | exact neB ‹_› | exact neC ‹_› | exact neD ‹_› | exact ne0 ‹_› | (refine Ne.symm ?_; first | assumption | exact Nat.ne_of_lt ‹_› | exact ne1 ‹_› | exact ne2 ‹_› | exact ne3 ‹_› | exact ne4 ‹_› | exact ne5 ‹_› | exact ne6 ‹_› | exact ne7 ‹_› | exact ne8 ‹_› | exact ne9 ‹_› | exact neA ‹_› | exact neB ‹_› | exact neC ‹_› | exact neD ‹_› | exact ne0 ‹_›))))
local macro_rules | `(tactic| k_all) => `(tactic| first | assumption | exact all_ne (by assumption) (by omega))
local macro_rules | `(tactic| k_room) => `(tactic| ktr_room)
local macro_rules | `(tactic| k_mem) => `(tactic| ((repeat (first | exact mem_hd | ktr_member | refine mem_tl ?_)); done))
section
local macro_rules | `(tactic| ktr_room) => `(tactic| ((try simp only [depth_under_make, depth_under_kw, depth_in1, depth_deeper, depth_caller, Nat.add_assoc]); (with_reducible refine room_lit (by assumption) ?_); decide))
local macro_rules | `(tactic| ktr_units) => `(tactic| ((try simp only [units_in1, units_deeper, Around.mark_units, units_caller, Nat.add_assoc]); (with_reducible refine units_lit (by assumption) ?_); decide))
section
open PySem PySem.W PySem.Calls PyProof.Rows
local macro_rules | `(tactic| walk_at "subscriptTail") => `(tactic| (k_here; (with_reducible show wpAny _ _ (subscriptTail _ _ (Value.ref _) (Value.int _ _)) _ _ _); k_dflt (refine' item_tupleT ?t ?a ?b ?c ?d ?_; (case t => exact News.isTup (by k_asm) (by k_mem)); (case a => decide); (case b => decide); (case c => rfl); (case d => rfl); k_whole)))
section
local macro_rules | `(tactic| walk_at "no such key") => `(tactic| fail)
open PySem PySem.W PySem.Calls PyProof.Rows
set_option maxHeartbeats 2000000
theorem fill5 : (PySem.Challenge.rw_pb0226_01 = PySem.Challenge.rw_pb0226_01 ∧ hd.heap_39 = hd.heap_39) := by
  w_top off
  k_fill
  exact ⟨rfl, rfl⟩
abbrev tup (vs : Array Value) : Obj := { cls := .type "tuple", data := .seq vs }
/-- what an operand stands for: its octets -/
inductive Opd (ks : List Int) (led : List (Addr × Obj)) : Value → Int → List Int → Prop
  | text {a : Addr} {t u : Tok} {x : Array UInt8} {size : Int} {c : List Int} : (a, tup #[.str (Str.ofString "text") t, .bytes x u]) ∈ led → KBw.bInts x = c → Opd ks led (.ref a) size c
  | zero {a : Addr} {t u : Tok} {size : Int} : (a, tup #[.str (Str.ofString "figure") t, .str (Str.ofString "ZERO") u]) ∈ led → 0 ≤ size → size ≤ 64 → Opd ks led (.ref a) size (List.replicate size.toNat 48)
  | space {a : Addr} {t u : Tok} {size : Int} : (a, tup #[.str (Str.ofString "figure") t, .str (Str.ofString "SPACE") u]) ∈ led → 0 ≤ size → size ≤ 64 → Opd ks led (.ref a) size (List.replicate size.toNat 32)
  | item {a : Addr} {t u : Tok} {x y z : Value} {size : Int} : (a, tup #[.str (Str.ofString "ref") t, .str (Str.ofString "I") u, x, y, z]) ∈ led → Opd ks led (.ref a) size ks
theorem Opd.mono {ks : List Int} {led led' : List (Addr × Obj)} {v : Value} {size : Int} {c : List Int} (h : Opd ks led v size c) (hs : ∀ p ∈ led, p ∈ led') : Opd ks led' v size c := by
  cases h with
  | text m e => exact .text (hs _ m) e
  | zero m a b => exact .zero (hs _ m) a b
  | space m a b => exact .space (hs _ m) a b
  | item m => exact .item (hs _ m)
theorem Opd.in {ks : List Int} {led : List (Addr × Obj)} {v : Value} {size : Int} {c : List Int} (h : Opd ks led v size c) (hk : KBa.In ks) : KBa.In c := by
  cases h with
  | text m e => exact fun n h => KBw.ints_in (by rw [e]; exact h)
  | zero m a b => exact fun n h => by have := List.eq_of_mem_replicate h; omega
  | space m a b => exact fun n h => by have := List.eq_of_mem_replicate h; omega
  | item m => exact hk
abbrev TellsAt (w : World) (loose : List Str) (mean : ExcName → Option Value) (mg mb : Str → Option Value) (f : Addr) (dp' un' : Nat) (nw : List (Addr × Obj)) (vs : List Value) (R : Tok → Value) : Prop :=
  ∀ (dp un : Nat) (gd : Option (List Code)) (cn : Str) (cs : Scope) (a : Addr) (ccd : Value) (cl : List (Str × Addr)) (outer : List Env) (A₀ : Around) (base h₀ : Heap) (L : Addr) (m : Str → Option Value) (s : Shared) (Q E : Value → Shared → Prop),
    Below A₀ base outer h₀ → Fr h₀ L s.heap m → (hd.heap_39 w.params).In h₀ → News h₀ L s.heap nw → Top topProg loose mean mg mb h₀ → cs.kind = .function →
    dp + dp' < recursionLimit → un + un' < cLine → CodeHd base 164 160 →
    (∀ (t : Tok) (h' : Heap) (tk' : Nat), Fr h₀ L h' m → News h₀ L h' nw → Q (R t) { s with heap := h', toks := tk' }) →
      wpAny (model prog0 w) (ktrTop dp un gd cn cs L a ccd cl outer) (call (.ref f) vs) Q E s
/-- the function at f fetches operands of the ledger led -/
structure FetchOk (w : World) (loose : List Str) (mean : ExcName → Option Value) (mg mb : Str → Option Value) (ks : List Int) (led : List (Addr × Obj)) (f : Addr) : Prop where
  go : ∀ (nw : List (Addr × Obj)) (v : Value) (size : Int) (c : List Int) (tk : Tok), (∀ p ∈ led, p ∈ nw) → Opd ks led v size c → KBa.In c → TellsAt w loose mean mg mb f 1 8 nw [v, .int size tk] (fun t => .bytes (byteArr c) t)
theorem rep_eq {n : Nat} {c : UInt8} {k : Int} (h : k.toNat.toUInt8 = c) : (List.replicate n [c]).flatten.toArray = byteArr (List.replicate n k) := by
  unfold byteArr
  rw [List.flatten_replicate_singleton, List.map_replicate, h]
/-- the n-th lambda among a call's arguments, of an assignment in the def's body -/
noncomputable def lamOf : List Stmt → Nat → Option (Arguments × Expr × Scope)
  | .FunctionDef n _ (_ :: .Assign _ (.Call _ (.Lambda a b s _ :: .Lambda a' b' s' _ :: _) _ _) _ :: _) _ _ _ _ _ _ _ :: r, k =>
    if n == Str.ofString "_law_converted" then (if k = 0 then some (a, b, s) else some (a', b', s')) else lamOf r k
  | _ :: r, k => lamOf r k
  | [], _ => none
theorem mem_swap {α : Type} {x y : α} {r : List α} : ∀ p ∈ x :: y :: r, p ∈ y :: x :: r := fun p hp => by
  rcases List.mem_cons.mp hp with rfl | hp
  · exact .tail _ (.head _)
  · rcases List.mem_cons.mp hp with rfl | hp
    · exact .head _
    · exact .tail _ (.tail _ hp)
theorem sub_tl {α : Type} {led nw : List α} {b : α} (h : ∀ p ∈ led, p ∈ nw) : ∀ p ∈ led, p ∈ b :: nw := fun p hp => .tail _ (h p hp)
section
variable {w : World} {loose : List Str} {mean : ExcName → Option Value} {mg mb : Str → Option Value}
local macro_rules | `(tactic| walk_at "eval Dict") => `(tactic| (k_here; k_dflt (refine' kdn_str ?q ?F ?N ?b ?a ?l ?e ?n ?_; (case q => rfl); (case F => k_asm); (case N => k_asm); (case b => exact Top.nolimit (by k_asm)); (case a => rfl); (case l => rfl); (case e => exact List.cons_ne_nil _ _); (case n => exact Nat.le_of_ble_eq_true rfl)); intro d' h' o' F' N' l1 lo' hd'; (try k_lt l1)))
theorem fetch_ok {la : Arguments} {lb : PySem.Expr} {ls : Scope} (hlam : lamOf prog0.main.body 0 = some (la, lb, ls)) {led : List (Addr × Obj)} {f1 c1 Lc : Addr} {oc oo : Obj} {vs : Array Value} {tq t : Tok} {qual : Str} {pm ct : Value} {o : Array UInt8} {ks : List Int}
    (n1 : (f1, kla_obj (Str.ofString "<lambda>") qual la lb ls [(Str.ofString "octets", Lc)] pm c1 ct) ∈ led) (n2 : (c1, oc) ∈ led) (d1 : oc.data = .fields vs) (d2 : vs[1]? = some (.str qual tq)) (n3 : (Lc, oo) ∈ led) (d3 : oo.data = .cell (some (.bytes o t))) (ho : KBw.bInts o = ks) :
    FetchOk w loose mean mg mb ks led f1 := by
  cases hlam
  refine ⟨?_⟩
  intro nw v size c tk hs hO hin
  have m1 := hs _ n1
  have m2 := hs _ n2
  have m3 := hs _ n3
  clear n1 n2 n3
  intro dp un gd cn cs a ccd cl outer A₀ base h₀ L m s Q E B F X N T hk hd9 hu9 hcd9 hret
  cases hO with
  | text m e =>
    have m4 := hs _ m
    refine wpAny_call ?_
    k_dflt (refine' kla_code ?k1 ?k2 ?k3 ?k4 ?k5 ?kA ?kF ?kK ?k6 ?k7 ?k8 ?k9 ?kB ?_ ?c2 ?c3 ?c4 ?c5; (case kA => exact rfl); (case kF => exact rfl); (case kK => assumption); (case k1 => k_asm); (case k2 => k_asm); (case k3 => k_asm); (case k4 => k_asm); (case k5 => k_asm); (case k6 => k_mem); (case k7 => exact codeRec_news (by k_asm) (by k_mem) (by assumption) (by assumption)); (case k8 => ktr_room); (case k9 => exact rfl); (case c5 => decide); (case kB => exact locs rfl); (case c2 => exact rfl); (case c3 => exact rfl); (case c4 => exact rfl); k_whole; intro g' L' h' FG' F' N' B' X' T'; (try dsimp only); (try k_lift B'); (try k_fold))
    k_steps
    rename Fr h₀ L _ _ => kF
    rename News h₀ L _ _ => kN
    exact end_bytes hret kF kN sub_refl (ints_inj (by rw [e, KBa.ints_make hin]))
  | zero m e1 e2 =>
    have m4 := hs _ m
    refine wpAny_call ?_
    k_dflt (refine' kla_code ?k1 ?k2 ?k3 ?k4 ?k5 ?kA ?kF ?kK ?k6 ?k7 ?k8 ?k9 ?kB ?_ ?c2 ?c3 ?c4 ?c5; (case kA => exact rfl); (case kF => exact rfl); (case kK => assumption); (case k1 => k_asm); (case k2 => k_asm); (case k3 => k_asm); (case k4 => k_asm); (case k5 => k_asm); (case k6 => k_mem); (case k7 => exact codeRec_news (by k_asm) (by k_mem) (by assumption) (by assumption)); (case k8 => ktr_room); (case k9 => exact rfl); (case c5 => decide); (case kB => exact locs rfl); (case c2 => exact rfl); (case c3 => exact rfl); (case c4 => exact rfl); k_whole; intro g' L' h' FG' F' N' B' X' T'; (try dsimp only); (try k_lift B'); (try k_fold))
    k_steps
    rename Fr h₀ L _ _ => kF
    rename News h₀ L _ _ => kN
    exact end_bytes hret kF kN (sub_tl sub_refl) (rep_eq rfl)
  | space m e1 e2 =>
    have m4 := hs _ m
    refine wpAny_call ?_
    k_dflt (refine' kla_code ?k1 ?k2 ?k3 ?k4 ?k5 ?kA ?kF ?kK ?k6 ?k7 ?k8 ?k9 ?kB ?_ ?c2 ?c3 ?c4 ?c5; (case kA => exact rfl); (case kF => exact rfl); (case kK => assumption); (case k1 => k_asm); (case k2 => k_asm); (case k3 => k_asm); (case k4 => k_asm); (case k5 => k_asm); (case k6 => k_mem); (case k7 => exact codeRec_news (by k_asm) (by k_mem) (by assumption) (by assumption)); (case k8 => ktr_room); (case k9 => exact rfl); (case c5 => decide); (case kB => exact locs rfl); (case c2 => exact rfl); (case c3 => exact rfl); (case c4 => exact rfl); k_whole; intro g' L' h' FG' F' N' B' X' T'; (try dsimp only); (try k_lift B'); (try k_fold))
    k_steps
    rename Fr h₀ L _ _ => kF
    rename News h₀ L _ _ => kN
    exact end_bytes hret kF kN (sub_tl sub_refl) (rep_eq rfl)
  | item m =>
    have m4 := hs _ m
    refine wpAny_call ?_
    k_dflt (refine' kla_code ?k1 ?k2 ?k3 ?k4 ?k5 ?kA ?kF ?kK ?k6 ?k7 ?k8 ?k9 ?kB ?_ ?c2 ?c3 ?c4 ?c5; (case kA => exact rfl); (case kF => exact rfl); (case kK => assumption); (case k1 => k_asm); (case k2 => k_asm); (case k3 => k_asm); (case k4 => k_asm); (case k5 => k_asm); (case k6 => k_mem); (case k7 => exact codeRec_news (by k_asm) (by k_mem) (by assumption) (by assumption)); (case k8 => ktr_room); (case k9 => exact rfl); (case c5 => decide); (case kB => exact locs rfl); (case c2 => exact rfl); (case c3 => exact rfl); (case c4 => exact rfl); k_whole; intro g' L' h' FG' F' N' B' X' T'; (try dsimp only); (try k_lift B'); (try k_fold))
    k_steps
    rename Fr h₀ L _ _ => kF
    rename News h₀ L _ _ => kN
    exact end_bytes hret kF kN sub_refl (ints_inj (by rw [ho, KBa.ints_make hin]))
/-- the function at f plants -/
structure PlantOk (w : World) (loose : List Str) (mean : ExcName → Option Value) (mg mb : Str → Option Value) (led : List (Addr × Obj)) (f l I : Addr) : Prop where
  go : ∀ (r : Array UInt8) (tr : Tok) (dp un : Nat) (gd : Option (List Code)) (cn : Str) (cs : Scope) (a : Addr) (ccd : Value) (cl : List (Str × Addr)) (outer : List Env) (A₀ : Around) (base h₀ : Heap) (L : Addr) (m : Str → Option Value) (s : Shared) (Q E : Value → Shared → Prop),
    Below A₀ base outer h₀ → Fr h₀ L s.heap m → (hd.heap_39 w.params).In h₀ → News h₀ L s.heap ((l, listOf #[] 0) :: led) → Top topProg loose mean mg mb h₀ → cs.kind = .function →
    dp + 1 < recursionLimit → un + 8 < cLine → CodeHd base 164 160 →
    (∀ (T : Addr) (t : Tok) (h' : Heap) (tk' : Nat), Fr h₀ L h' m → News h₀ L h' ((l, listOf #[.ref T] 1) :: (T, tup #[.ref I, .bytes r t]) :: led) → Q .none { s with heap := h', toks := tk' }) →
      wpAny (model prog0 w) (ktrTop dp un gd cn cs L a ccd cl outer) (call (.ref f) [.ref I, .bytes r tr]) Q E s
theorem plant_ok {la : Arguments} {lb : PySem.Expr} {ls : Scope} (hlam : lamOf prog0.main.body 1 = some (la, lb, ls)) {led : List (Addr × Obj)} {f2 c2 Lc l I : Addr} {oc oo : Obj} {vs : Array Value} {tq : Tok} {qual : Str} {pm ct : Value}
    (m1 : (f2, kla_obj (Str.ofString "<lambda>") qual la lb ls [(Str.ofString "planted", Lc)] pm c2 ct) ∈ led) (m2 : (c2, oc) ∈ led) (d1 : oc.data = .fields vs) (d2 : vs[1]? = some (.str qual tq)) (m3 : (Lc, oo) ∈ led) (d3 : oo.data = .cell (some (.ref l))) (hne : ∀ p ∈ led, p.1 ≠ l) :
    PlantOk w loose mean mg mb led f2 l I := by
  cases hlam
  refine ⟨?_⟩
  intro r tr dp un gd cn cs a ccd cl outer A₀ base h₀ L m s Q E B F X N T hk hd9 hu9 hcd9 hret
  refine wpAny_call ?_
  k_dflt (refine' kla_code ?k1 ?k2 ?k3 ?k4 ?k5 ?kA ?kF ?kK ?k6 ?k7 ?k8 ?k9 ?kB ?_ ?c2 ?c3 ?c4 ?c5; (case kA => exact rfl); (case kF => exact rfl); (case kK => assumption); (case k1 => k_asm); (case k2 => k_asm); (case k3 => k_asm); (case k4 => k_asm); (case k5 => k_asm); (case k6 => k_mem); (case k7 => exact codeRec_news (by k_asm) (by k_mem) (by assumption) (by assumption)); (case k8 => ktr_room); (case k9 => exact rfl); (case c5 => decide); (case kB => exact locs rfl); (case c2 => exact rfl); (case c3 => exact rfl); (case c4 => exact rfl); k_whole; intro g' L' h' FG' F' N' B' X' T'; (try dsimp only); (try k_lift B'); (try k_fold))
  k_steps
  rename Fr h₀ L _ _ => kF
  rename News h₀ L _ _ => kN
  exact hret _ _ _ _ kF fun p hp => kN p (mem_swap p hp)
end
end
section
open PySem PySem.W PySem.Calls PyProof.Rows
set_option maxHeartbeats 2000000
theorem fill6 : (PySem.Challenge.rw_pb0226_01 = PySem.Challenge.rw_pb0226_01 ∧ hd.heap_39 = hd.heap_39) := by
  w_top off
  k_fill
  exact ⟨rfl, rfl⟩
def OptOpd (ks : List Int) (led : List (Addr × Obj)) (v : Value) : Option Int → Prop
  | none => v = .none
  | some c => ∃ a, v = .ref a ∧ Opd ks led (.ref a) 1 [c]
theorem oct_none : IsOct .none none := rfl
section
variable {w : World} {loose : List Str} {mean : ExcName → Option Value} {mg mb : Str → Option Value}
theorem fetch_use {ks : List Int} {led : List (Addr × Obj)} {f : Addr} {nw : List (Addr × Obj)} {v : Value} {size : Int} {c : List Int} {tk : Tok}
    {dp un : Nat} {gd : Option (List Code)} {cn : Str} {cs : Scope} {a : Addr} {ccd : Value} {cl : List (Str × Addr)} {outer : List Env} {A₀ : Around} {base h₀ : Heap} {L : Addr} {m : Str → Option Value} {s : Shared} {Q E : Value → Shared → Prop}
    (C : FetchOk w loose mean mg mb ks led f) (hk9 : KBa.In ks) (hs : ∀ p ∈ led, p ∈ nw) (hO : Opd ks led v size c) (B : Below A₀ base outer h₀) (F : Fr h₀ L s.heap m) (X : (hd.heap_39 w.params).In h₀) (N : News h₀ L s.heap nw) (T : Top topProg loose mean mg mb h₀) (hk : cs.kind = .function) (hd : dp + 1 < recursionLimit) (hu : un + 8 < cLine) (hc : CodeHd base 164 160)
    (ret : ∀ (t : Tok) (h' : Heap) (tk' : Nat), KBw.bInts (byteArr c) = c → Fr h₀ L h' m → News h₀ L h' nw → Q (.bytes (byteArr c) t) { s with heap := h', toks := tk' }) : wpAny (model prog0 w) (ktrTop dp un gd cn cs L a ccd cl outer) (call (.ref f) [v, .int size tk]) Q E s :=
  C.go nw v size c tk hs hO (hO.in hk9) _ _ _ _ _ _ _ _ _ _ _ _ _ _ _ _ _ B F X N T hk hd hu hc fun t h' tk' => ret t h' tk' (KBa.ints_make (hO.in hk9))
theorem plant_use {led nw : List (Addr × Obj)} {f l I : Addr} {r : Array UInt8} {tr : Tok}
    {dp un : Nat} {gd : Option (List Code)} {cn : Str} {cs : Scope} {a : Addr} {ccd : Value} {cl : List (Str × Addr)} {outer : List Env} {A₀ : Around} {base h₀ : Heap} {L : Addr} {m : Str → Option Value} {s : Shared} {Q E : Value → Shared → Prop}
    (C : PlantOk w loose mean mg mb led f l I) (hs : ∀ p ∈ (l, listOf #[] 0) :: led, p ∈ nw) (B : Below A₀ base outer h₀) (F : Fr h₀ L s.heap m) (X : (hd.heap_39 w.params).In h₀) (N : News h₀ L s.heap nw) (T : Top topProg loose mean mg mb h₀) (hk : cs.kind = .function) (hd : dp + 1 < recursionLimit) (hu : un + 8 < cLine) (hc : CodeHd base 164 160)
    (ret : ∀ (T : Addr) (t : Tok) (h' : Heap) (tk' : Nat), Fr h₀ L h' m → News h₀ L h' ((l, listOf #[.ref T] 1) :: (T, tup #[.ref I, .bytes r t]) :: led) → Q .none { s with heap := h', toks := tk' }) : wpAny (model prog0 w) (ktrTop dp un gd cn cs L a ccd cl outer) (call (.ref f) [.ref I, .bytes r tr]) Q E s :=
  C.go r tr _ _ _ _ _ _ _ _ _ _ _ _ _ _ _ _ _ B F X (fun p hp => N p (hs p hp)) T hk hd hu hc ret
abbrev handsDict (w : World) (f1 f2 : Addr) (k1 k2 k3 k4 k5 k6 k7 : Tok) : Obj := dictOf [
  { hash := PyData.keyHash w.params (Str.ofString "fetch"), key := .str (Str.ofString "fetch") k1, val := .ref f1 },
  { hash := PyData.keyHash w.params (Str.ofString "plant"), key := .str (Str.ofString "plant") k2, val := .ref f2 },
  { hash := PyData.keyHash w.params (Str.ofString "amount"), key := .str (Str.ofString "amount") k3, val := .none },
  { hash := PyData.keyHash w.params (Str.ofString "keep"), key := .str (Str.ofString "keep") k4, val := .none },
  { hash := PyData.keyHash w.params (Str.ofString "spot"), key := .str (Str.ofString "spot") k5, val := .none },
  { hash := PyData.keyHash w.params (Str.ofString "bring"), key := .str (Str.ofString "bring") k6, val := .none },
  { hash := PyData.keyHash w.params (Str.ofString "room"), key := .str (Str.ofString "room") k7, val := .none }] 7
/-- an octet, or none, as a value -/
def octV : Option Int → Tok → Value
  | none, _ => .none
  | some c, t => .bytes (byteArr [c]) t
theorem OptOpd.oct {ks : List Int} {led : List (Addr × Obj)} {v : Value} {c : Option Int} (h : OptOpd ks led v c) (hk : KBa.In ks) (t : Tok) : IsOct (octV c t) c := by
  cases c with
  | none => rfl
  | some c =>
    obtain ⟨a, _, hO⟩ := h
    exact ⟨_, _, rfl, KBa.ints_make (hO.in hk)⟩
abbrev TellsIn (w : World) (loose : List Str) (mean : ExcName → Option Value) (mg mb : Str → Option Value) (f : Addr) (dp' un' : Nat) (led : List (Addr × Obj)) (vs : List Value) (R : Tok → Value) : Prop :=
  ∀ (nw : List (Addr × Obj)), (∀ p ∈ led, p ∈ nw) → TellsAt w loose mean mg mb f dp' un' nw vs R
theorem tellsIn_use {f : Addr} {dp' un' : Nat} {led nw : List (Addr × Obj)} {vs : List Value} {R : Tok → Value} {dp un : Nat} {gd : Option (List Code)} {cn : Str} {cs : Scope} {a : Addr} {ccd : Value} {cl : List (Str × Addr)} {outer : List Env} {A₀ : Around} {base h₀ : Heap} {L : Addr} {m : Str → Option Value} {s : Shared} {Q E : Value → Shared → Prop}
    (C : TellsIn w loose mean mg mb f dp' un' led vs R) (hs : ∀ p ∈ led, p ∈ nw) (B : Below A₀ base outer h₀) (F : Fr h₀ L s.heap m) (X : (hd.heap_39 w.params).In h₀) (N : News h₀ L s.heap nw) (T : Top topProg loose mean mg mb h₀) (hk : cs.kind = .function) (hd : dp + dp' < recursionLimit) (hu : un + un' < cLine) (hc : CodeHd base 164 160)
    (ret : ∀ (t : Tok) (h' : Heap) (tk' : Nat), Fr h₀ L h' m → News h₀ L h' nw → Q (R t) { s with heap := h', toks := tk' }) : wpAny (model prog0 w) (ktrTop dp un gd cn cs L a ccd cl outer) (call (.ref f) vs) Q E s :=
  C nw hs _ _ _ _ _ _ _ _ _ _ _ _ _ _ _ _ _ B F X N T hk hd hu hc ret
theorem end_none {h₀ h' : Heap} {L : Addr} {m : Str → Option Value} {news : List (Addr × Obj)} {s : Shared} {Q : Value → Shared → Prop} {tk' : Nat} (hret : ∀ (t : Tok) (h' : Heap) (tk' : Nat), Fr h₀ L h' m → News h₀ L h' news → Q .none { s with heap := h', toks := tk' }) (F : Fr h₀ L h' m) (N : News h₀ L h' news) : Q .none { s with heap := h', toks := tk' } := hret 0 h' tk' F N
local macro_rules | `(tactic| walk_at "call ref") => `(tactic| (
  (rename FetchOk _ _ _ _ _ _ _ _ => hf9);
  refine' fetch_use hf9 (by assumption) ?s ?o ?k1 ?k2 ?k3 ?k4 ?k5 ?kK ?kd ?ku ?kc ?_;
  (case k1 => k_asm); (case k2 => k_asm); (case k3 => k_asm); (case k4 => k_asm); (case k5 => k_asm); (case kK => first | exact rfl | assumption); (case kd => ktr_room); (case ku => ktr_units); (case kc => kn_code);
  (case o => assumption);
  (case s => (repeat (first | exact sub_refl | with_reducible assumption | refine sub_tl ?_)));
  intro t9 h9 tk9 i9 F9 N9; (try dsimp only); (try k_fold)))
theorem sought_none {led : List (Addr × Obj)} {x : Addr} : TellsIn w loose mean mg mb 125 1 8 led [.none, .ref x] (fun t => octV none t) := by
  intro nw hs
  intro dp un gd cn cs a ccd cl outer A₀ base h₀ L m s Q E B F X N T hk hd9 hu9 hcd9 hret
  refine wpAny_call ?_
  k_dflt cell_enter
  k_steps
  rename Fr h₀ L _ _ => kF
  rename News h₀ L _ _ => kN
  exact end_none hret kF kN
theorem sought_ref {ks c : List Int} {led : List (Addr × Obj)} {f1 f2 x d W : Addr} {k1 k2 k3 k4 k5 k6 k7 : Tok} {fd1 : FuncData} (hf : FetchOk w loose mean mg mb ks led f1) (mf1 : (f1, ({ cls := .type "function", data := .func fd1 } : Obj)) ∈ led)
    (mx : (x, instObj 86 d) ∈ led) (md : (d, handsDict w f1 f2 k1 k2 k3 k4 k5 k6 k7) ∈ led) (hW : Opd ks led (.ref W) 1 c) (hks : KBa.In ks) : TellsIn w loose mean mg mb 125 3 24 led [.ref W, .ref x] (fun t => .bytes (byteArr c) t) := by
  intro nw hs
  replace mf1 := hs _ mf1
  replace mx := hs _ mx
  replace md := hs _ md
  intro dp un gd cn cs a ccd cl outer A₀ base h₀ L m s Q E B F X N T hk hd9 hu9 hcd9 hret
  refine wpAny_call ?_
  k_dflt cell_enter
  k_steps
  rename Fr h₀ L _ _ => kF
  rename News h₀ L _ _ => kN
  exact end_bytes hret kF kN sub_refl rfl
theorem sought_opt {ks : List Int} {led : List (Addr × Obj)} {f1 f2 x d : Addr} {v : Value} {c : Option Int} {k1 k2 k3 k4 k5 k6 k7 : Tok} {fd1 : FuncData} (hf : FetchOk w loose mean mg mb ks led f1) (mf1 : (f1, ({ cls := .type "function", data := .func fd1 } : Obj)) ∈ led)
    (mx : (x, instObj 86 d) ∈ led) (md : (d, handsDict w f1 f2 k1 k2 k3 k4 k5 k6 k7) ∈ led) (hv : OptOpd ks led v c) (hks : KBa.In ks) : TellsIn w loose mean mg mb 125 3 24 led [v, .ref x] (fun t => octV c t) := by
  cases c with
  | none =>
    cases hv
    intro nw hs
    intro dp un gd cn cs a ccd cl outer A₀ base h₀ L m s Q E B F X N T hk hd9 hu9 hcd9 hret
    exact sought_none nw hs dp un gd cn cs a ccd cl outer A₀ base h₀ L m s Q E B F X N T hk (by omega) (by omega) hcd9 hret
  | some c =>
    obtain ⟨a, rfl, hO⟩ := hv
    exact sought_ref hf mf1 mx md hO hks
end
section
variable {w : World} {loose : List Str} {mean : ExcName → Option Value} {mg mb : Str → Option Value}
local macro_rules | `(tactic| walk_at "call ref") => `(tactic| (k_dflt (
  refine' tells_use (converted_tells ?a1 ?a2 ?a3 ?a4 ?a5 ?a6 ?a7 ?a8) ?k1 ?k2 ?k3 ?k4 ?k5 ?kK ?kd ?ku ?_;
  (case k1 => k_asm); (case k2 => k_asm); (case k3 => k_asm); (case k4 => k_asm); (case k5 => k_asm); (case kK => first | exact rfl | assumption); (case kd => ktr_room); (case ku => ktr_units);
  (case a1 => assumption); (case a2 => assumption); (case a3 => assumption);
  (case a4 => exact OptOpd.oct (by assumption) (by assumption) _); (case a5 => exact OptOpd.oct (by assumption) (by assumption) _); (case a6 => assumption); (case a7 => assumption); (case a8 => assumption);
  intro t9 h9 tk9 F9 N9; (try dsimp only); (try k_fold))))
local macro_rules | `(tactic| walk_at "call ref") => `(tactic| (
  (rename PlantOk _ _ _ _ _ _ _ _ _ => hf9);
  refine' plant_use hf9 ?s ?k1 ?k2 ?k3 ?k4 ?k5 ?kK ?kd ?ku ?kc ?_;
  (case k1 => k_asm); (case k2 => k_asm); (case k3 => k_asm); (case k4 => k_asm); (case k5 => k_asm); (case kK => first | exact rfl | assumption); (case kd => ktr_room); (case ku => ktr_units); (case kc => kn_code);
  (case s => (repeat (first | exact sub_refl | refine sub_tl ?_)));
  intro T9 t9 h9 tk9 F9 N9; (try dsimp only); (try k_fold)))
local macro_rules | `(tactic| walk_at "call ref") => `(tactic| (
  (rename FetchOk _ _ _ _ _ _ _ _ => hf9);
  refine' fetch_use hf9 (by assumption) ?s ?o ?k1 ?k2 ?k3 ?k4 ?k5 ?kK ?kd ?ku ?kc ?_;
  (case k1 => k_asm); (case k2 => k_asm); (case k3 => k_asm); (case k4 => k_asm); (case k5 => k_asm); (case kK => first | exact rfl | assumption); (case kd => ktr_room); (case ku => ktr_units); (case kc => kn_code);
  (case o => assumption);
  (case s => (repeat (first | exact sub_refl | refine sub_tl ?_)));
  intro t9 h9 tk9 i9 F9 N9; (try dsimp only); (try k_fold)))
local macro_rules | `(tactic| walk_at "call ref") => `(tactic| (k_dflt (
  refine' tellsIn_use (sought_opt (by assumption) ?m1 ?m2 ?m3 (by assumption) (by assumption)) ?s ?k1 ?k2 ?k3 ?k4 ?k5 ?kK ?kd ?ku ?kc ?_;
  (case m1 => assumption); (case m2 => assumption); (case m3 => assumption);
  (case k1 => k_asm); (case k2 => k_asm); (case k3 => k_asm); (case k4 => k_asm); (case k5 => k_asm); (case kK => first | exact rfl | assumption); (case kd => ktr_room); (case ku => ktr_units); (case kc => kn_code);
  (case s => (repeat (first | exact sub_refl | refine sub_tl ?_)));
  intro t9 h9 tk9 F9 N9; (try dsimp only); (try k_fold))))
local macro_rules | `(tactic| walk_at "call ref") => `(tactic| (k_dflt (
  refine' tellsIn_use (sought_ref (by assumption) ?m1 ?m2 ?m3 (by assumption) (by assumption)) ?s ?k1 ?k2 ?k3 ?k4 ?k5 ?kK ?kd ?ku ?kc ?_;
  (case m1 => assumption); (case m2 => assumption); (case m3 => assumption);
  (case k1 => k_asm); (case k2 => k_asm); (case k3 => k_asm); (case k4 => k_asm); (case k5 => k_asm); (case kK => first | exact rfl | assumption); (case kd => ktr_room); (case ku => ktr_units); (case kc => kn_code);
  (case s => (repeat (first | exact sub_refl | refine sub_tl ?_)));
  intro t9 h9 tk9 F9 N9; (try dsimp only); (try k_fold))))
theorem convert_with_ok {ks ws gs : List Int} {led : List (Addr × Obj)} {f1 f2 l I D x d W G : Addr} {vb va : Value} {bf af : Option Int} {t0 k1 k2 k3 k4 k5 k6 k7 : Tok} (hf : FetchOk w loose mean mg mb ks led f1) (hp : PlantOk w loose mean mg mb led f2 l I)
    {fd1 fd2 : FuncData} (mf1 : (f1, ({ cls := .type "function", data := .func fd1 } : Obj)) ∈ led) (mf2 : (f2, ({ cls := .type "function", data := .func fd2 } : Obj)) ∈ led) (mD : (D, tup #[.str (Str.ofString "convert") t0, .ref I, .ref W, .ref G, vb, va]) ∈ led) (mx : (x, instObj 86 d) ∈ led) (md : (d, handsDict w f1 f2 k1 k2 k3 k4 k5 k6 k7) ∈ led)
    (hI : Opd ks led (.ref I) 1 ks) (hW : Opd ks led (.ref W) 1 ws) (hG : Opd ks led (.ref G) ws.length gs) (hvb : OptOpd ks led vb bf) (hva : OptOpd ks led va af) (hks : KBa.In ks) (hn : ks.length ≤ 64) (hw : ws.length ≤ 64) (hl : ws.length = gs.length) :
  ∀ (dp un : Nat) (gd : Option (List Code)) (cn : Str) (cs : Scope) (a : Addr) (ccd : Value) (cl : List (Str × Addr)) (outer : List Env) (A₀ : Around) (base h₀ : Heap) (L : Addr) (m : Str → Option Value) (s : Shared) (Q E : Value → Shared → Prop),
    Below A₀ base outer h₀ → Fr h₀ L s.heap m → (hd.heap_39 w.params).In h₀ → News h₀ L s.heap ((l, listOf #[] 0) :: led) → Top topProg loose mean mg mb h₀ → cs.kind = .function →
    dp + 6 < recursionLimit → un + 60 < cLine → CodeHd base 164 160 →
    (∀ (T : Addr) (t t' : Tok) (h' : Heap) (tk' : Nat), Fr h₀ L h' m → News h₀ L h' ((l, listOf #[.ref T] 1) :: (T, tup #[.ref I, .bytes (byteArr (convL ws gs (sb ks af) (se ks bf) ks)) t]) :: led) → Q (.str (Str.ofString "") t') { s with heap := h', toks := tk' }) →
      wpAny (model prog0 w) (ktrTop dp un gd cn cs L a ccd cl outer) (call (.ref 139) [.ref D, .ref x]) Q E s := by
  intro dp un gd cn cs a ccd cl outer A₀ base h₀ L m s Q E B F X N T hk hd9 hu9 hcd9 hret
  have hwi : KBw.bInts (byteArr ws) = ws := KBa.ints_make (hW.in hks)
  have hgi : KBw.bInts (byteArr gs) = gs := KBa.ints_make (hG.in hks)
  have hki : KBw.bInts (byteArr ks) = ks := KBa.ints_make hks
  refine wpAny_call ?_
  k_dflt cell_enter
  k_steps
  rename Fr h₀ L _ _ => kF
  rename News h₀ L _ _ => kN
  exact hret _ _ _ _ _ kF kN
end
end
section
open PySem PySem.W PySem.Calls PyProof.Rows
set_option maxHeartbeats 4000000
theorem fill7 : (PySem.Challenge.rw_pb0226_01 = PySem.Challenge.rw_pb0226_01 ∧ hd.heap_39 = hd.heap_39) := by
  w_top off
  k_fill
  exact ⟨rfl, rfl⟩
def qualL : Str := (Str.ofString "_law_converted" ++ Str.ofString ".<locals>.") ++ Str.ofString "<lambda>"
/-- the code object of one of the two lambdas -/
structure LamCode (oc : Obj) : Prop where
  data : ∃ vs t, oc.data = .fields vs ∧ vs[1]? = some (.str qualL t)
abbrev tabFull (c1 c2 : Addr) : Obj := tabObj (#[] ++ #[rawInt ((92 : Nat) : Int), rawInt ((18 : Nat) : Int), .ref c1] ++ #[rawInt ((92 : Nat) : Int), rawInt ((167 : Nat) : Int), .ref c2])
theorem OptOpd.mono {ks : List Int} {led led' : List (Addr × Obj)} {v : Value} {c : Option Int} (h : OptOpd ks led v c) (hs : ∀ p ∈ led, p ∈ led') : OptOpd ks led' v c := by
  cases c with
  | none => exact h
  | some c => obtain ⟨a, e, hO⟩ := h; exact ⟨a, e, hO.mono hs⟩
theorem sub13 {α : Type} {p0 p1 p2 p3 p4 p5 p6 p7 p8 p9 q1 q2 q3 : α} {r : List α} : ∀ p ∈ r, p ∈ p0 :: p1 :: p2 :: p3 :: p4 :: p5 :: p6 :: p7 :: p8 :: p9 :: q1 :: q2 :: q3 :: r := fun p hp => by
  iterate 13 apply List.Mem.tail
  exact hp
theorem news3 {h₀ h : Heap} {L : Addr} {x y z : Addr × Obj} {rest nw : List (Addr × Obj)} (N : News h₀ L h nw) (hx : x ∈ nw) (hy : y ∈ nw) (hz : z ∈ nw) (hr : ∀ p ∈ rest, p ∈ nw) : News h₀ L h (x :: y :: z :: rest) := fun p hp => N p (by
  rcases List.mem_cons.mp hp with rfl | hp
  · exact hx
  · rcases List.mem_cons.mp hp with rfl | hp
    · exact hy
    · rcases List.mem_cons.mp hp with rfl | hp
      · exact hz
      · exact hr p hp)
theorem sub15 {α : Type} {p0 p1 p2 p3 p4 p5 p6 p7 p8 p9 q1 q2 q3 q4 q5 : α} {r : List α} : ∀ p ∈ r, p ∈ p0 :: p1 :: p2 :: p3 :: p4 :: p5 :: p6 :: p7 :: p8 :: p9 :: q1 :: q2 :: q3 :: q4 :: q5 :: r := fun p hp => by
  iterate 15 apply List.Mem.tail
  exact hp
theorem news_out10 {h₀ h : Heap} {L : Addr} {p0 p1 p2 p3 p4 p5 p6 p7 p8 p9 q : Addr × Obj} {r : List (Addr × Obj)} (N : News h₀ L h (p0 :: p1 :: p2 :: p3 :: p4 :: p5 :: p6 :: p7 :: p8 :: p9 :: q :: r)) :
    News h₀ L h (q :: p0 :: p1 :: p2 :: p3 :: p4 :: p5 :: p6 :: p7 :: p8 :: p9 :: r) := fun p hp =>
  N p ((List.perm_middle (l₁ := [p0, p1, p2, p3, p4, p5, p6, p7, p8, p9]) (l₂ := r) (a := q)).mem_iff.mpr hp)
section
variable {w : World} {loose : List Str} {mean : ExcName → Option Value} {mg mb : Str → Option Value}
local macro_rules | `(tactic| walk_at "call ref") => `(tactic| ((with_reducible show wpAny _ _ (call (Value.ref 139) _) _ _ _); refine stop_here ?_))
theorem law_converted_fresh {o : Array UInt8} {t : Tok} {ks ws gs : List Int} {W G : Addr} {vb va : Value} {bf af : Option Int} (ho : KBw.bInts o = ks) (hn : ks.length ≤ 64) (hw : ws.length ≤ 64) (hl : ws.length = gs.length) :
  ∀ (dp un : Nat) (gd : Option (List Code)) (cn : Str) (cs : Scope) (a : Addr) (ccd : Value) (cl : List (Str × Addr)) (outer : List Env) (A₀ : Around) (base h₀ : Heap) (L : Addr) (m : Str → Option Value) (rest : List (Addr × Obj)) (s : Shared) (Q E : Value → Shared → Prop),
    Below A₀ base outer h₀ → Fr h₀ L s.heap m → (hd.heap_39 w.params).In h₀ → News h₀ L s.heap ((160, tabObj #[]) :: rest) → Top topProg loose mean mg mb h₀ → cs.kind = .function →
    dp + 8 < recursionLimit → un + 80 < cLine → (∀ p ∈ rest, p.1 ≠ 160) → CodeHd base 164 160 → Opd ks rest (.ref W) 1 ws → Opd ks rest (.ref G) ws.length gs → OptOpd ks rest vb bf → OptOpd ks rest va af →
    (∀ (t : Tok) (h' : Heap) (tk' : Nat) (c1 c2 : Addr) (oc1 oc2 : Obj), LamCode oc1 → LamCode oc2 → (∀ p ∈ rest, @LT.lt Nat _ p.1 c1) → @LT.lt Nat _ c1 c2 → @LT.lt Nat _ 160 c1 → Fr h₀ L h' m → News h₀ L h' ((160, tabFull c1 c2) :: (c1, oc1) :: (c2, oc2) :: rest) → Q (.bytes (byteArr (convL ws gs (sb ks af) (se ks bf) ks)) t) { s with heap := h', toks := tk' }) →
      wpAny (model prog0 w) (ktrTop dp un gd cn cs L a ccd cl outer) (call (.ref 165) [.bytes o t, .ref W, .ref G, vb, va]) Q E s := by
  intro dp un gd cn cs a ccd cl outer A₀ base h₀ L m rest s Q E B F X N T hk hd9 hu9 hne hcd9 hW hG hvb hva hret
  refine wpAny_call ?_
  k_dflt (refine' code_defC ?k1 ?k2 ?k3 ?k4 ?k5 ?kA ?kF ?kK ?k6 ?k7 ?k8 ?k9 ?kB ?kD ?_ ?c2 ?c3 ?c4; (case kA => exact rfl); (case kF => exact rfl); (case kK => assumption); (case k1 => k_asm); (case k2 => k_asm); (case k3 => k_asm); (case k4 => k_asm); (case k5 => k_asm); (case k6 => k_is); (case k7 => k_is); (case k8 => ktr_room); (case k9 => exact BindsTo.of_eq rfl); (case kB => exact rfl); (case kD => decide +kernel); (case c2 => exact rfl); (case c3 => exact rfl); (case c4 => exact rfl); k_whole; intro g' L' h' tk' cells' FG' F' N' Y' B' X' T' l1; (try k_lt l1); k_cells Y'; (try simp only [List.cons_append, List.nil_append] at N'); (try dsimp only); (try k_lift B'); (try k_fold))
  rename Fr _ _ _ _ => F0
  replace F0 := fr_to (m' := fun y => if y = Str.ofString "after" then some va else if y = Str.ofString "before" then some vb else if y = Str.ofString "given" then some (Value.ref G) else if y = Str.ofString "wanted" then some (Value.ref W) else none) F0 (by with_unfolding_all rfl)
  have l9 : ∀ p ∈ rest, @LT.lt Nat _ p.1 L' := ktn_ltOf l1.2
  have q1 : @LT.lt Nat _ 160 (L' + 1) := Nat.lt_succ_of_lt l1.1
  have q2 : @LT.lt Nat _ 160 (L' + 1 + 1) := Nat.lt_succ_of_lt q1
  have q3 : @LT.lt Nat _ (L' + 1) (L' + 1 + 1) := Nat.lt_succ_self _
  k_steps
  unfold Stop
  rename News _ _ _ _ => N1
  have N2 := news_out10 N1
  have hks : KBa.In ks := fun n h => KBw.ints_in (b := o) (by rw [ho]; exact h)
  refine' convert_with_ok (ks := ks) (ws := ws) (gs := gs) (bf := bf) (af := af) (fetch_ok ?l0 (List.mem_of_getElem? (i := 8) rfl) (List.mem_of_getElem? (i := 9) rfl) ?d1 ?d2 (List.mem_of_getElem? (i := 11) rfl) ?d3 ho) (plant_ok ?l1 (List.mem_of_getElem? (i := 6) rfl) (List.mem_of_getElem? (i := 7) rfl) ?e1 ?e2 (List.mem_of_getElem? (i := 10) rfl) ?e3 ?e4) (List.mem_of_getElem? (i := 8) rfl) (List.mem_of_getElem? (i := 6) rfl) (List.mem_of_getElem? (i := 0) rfl) (List.mem_of_getElem? (i := 4) rfl) (List.mem_of_getElem? (i := 5) rfl) ?hI ?hW ?hG ?hvb ?hva hks hn hw hl _ _ _ _ _ _ _ _ _ _ _ _ _ _ _ _ _ ?k1 ?k2 ?k3 N2 ?k5 ?kK ?kd ?ku ?kc ?_
  case d1 => assumption
  case d2 => assumption
  case d3 => assumption
  case e1 => assumption
  case e2 => assumption
  case e3 => assumption
  case e4 =>
    iterate 13 refine List.forall_mem_cons.mpr ⟨by k_ne, ?_⟩
    exact all_ne l9 (by omega)
  case l0 => kernel_rfl
  case l1 => kernel_rfl
  case hI => exact .item (List.mem_of_getElem? (i := 1) rfl)
  case hW => exact hW.mono sub13
  case hG => exact hG.mono sub13
  case hvb => exact hvb.mono sub13
  case hva => exact hva.mono sub13
  case k1 => k_asm
  case k2 => k_asm
  case k3 => k_asm
  case k5 => k_asm
  case kK => exact rfl
  case kd => ktr_room
  case ku => ktr_units
  case kc => kn_code
  intro T9 t9 t9' h9 tk9 F9 N9
  (try dsimp only)
  (try k_fold)
  k_steps
  rename Fr h₀ L _ _ => kF
  rename News h₀ L _ _ => kN
  refine' hret _ _ _ _ _ _ _ ?a ?b ?c ?d ?e kF (news3 kN (List.mem_of_getElem? (i := 14) rfl) (List.mem_of_getElem? (i := 11) rfl) (List.mem_of_getElem? (i := 9) rfl) sub15)
  case a => exact ⟨⟨_, _, by assumption, by assumption⟩⟩
  case b => exact ⟨⟨_, _, by assumption, by assumption⟩⟩
  case c => exact fun p hp => Nat.lt_trans (l9 p hp) (by omega)
  case d => exact Nat.lt_trans (by assumption) (by omega)
  case e => omega
end
end
section
local macro_rules | `(tactic| walk_at "no such key") => `(tactic| fail)
open PySem PySem.W PySem.Calls PyProof.Rows
set_option maxHeartbeats 4000000
theorem fill8 : (PySem.Challenge.rw_pb0226_01 = PySem.Challenge.rw_pb0226_01 ∧ hd.heap_39 = hd.heap_39) := by
  w_top off
  k_fill
  exact ⟨rfl, rfl⟩
section
variable {w : World} {loose : List Str} {mean : ExcName → Option Value} {mg mb : Str → Option Value}
local macro_rules | `(tactic| walk_at "call ref") => `(tactic| ((with_reducible show wpAny _ _ (call (Value.ref 139) _) _ _ _); refine stop_here ?_))
theorem news_out8 {h₀ h : Heap} {L : Addr} {p0 p1 p2 p3 p4 p5 p6 p7 q : Addr × Obj} {r : List (Addr × Obj)} (N : News h₀ L h (p0 :: p1 :: p2 :: p3 :: p4 :: p5 :: p6 :: p7 :: q :: r)) :
    News h₀ L h (q :: p0 :: p1 :: p2 :: p3 :: p4 :: p5 :: p6 :: p7 :: r) := fun p hp =>
  N p ((List.perm_middle (l₁ := [p0, p1, p2, p3, p4, p5, p6, p7]) (l₂ := r) (a := q)).mem_iff.mpr hp)
theorem sub10 {α : Type} {p0 p1 p2 p3 p4 p5 p6 p7 p8 p9 : α} {r : List α} : ∀ p ∈ r, p ∈ p0 :: p1 :: p2 :: p3 :: p4 :: p5 :: p6 :: p7 :: p8 :: p9 :: r := fun p hp => by
  iterate 10 apply List.Mem.tail
  exact hp
/-- the two lambdas' codes are made, and stand in the ledger -/
structure LamTab (nw : List (Addr × Obj)) (c1 c2 : Addr) (oc1 oc2 : Obj) : Prop where
  tab : (160, tabFull c1 c2) ∈ nw
  m1 : (c1, oc1) ∈ nw
  m2 : (c2, oc2) ∈ nw
  k1 : LamCode oc1
  k2 : LamCode oc2
theorem LamTab.mono {nw nw' : List (Addr × Obj)} {c1 c2 : Addr} {oc1 oc2 : Obj} (h : LamTab nw c1 c2 oc1 oc2) (hs : ∀ p ∈ nw, p ∈ nw') : LamTab nw' c1 c2 oc1 oc2 := ⟨hs _ h.tab, hs _ h.m1, hs _ h.m2, h.k1, h.k2⟩
theorem law_converted_hit {o : Array UInt8} {t : Tok} {ks ws gs : List Int} {W G c1 c2 : Addr} {oc1 oc2 : Obj} {vb va : Value} {bf af : Option Int} {nw : List (Addr × Obj)} (ho : KBw.bInts o = ks) (hn : ks.length ≤ 64) (hw : ws.length ≤ 64) (hl : ws.length = gs.length)
    (hT : LamTab nw c1 c2 oc1 oc2) (hW : Opd ks nw (.ref W) 1 ws) (hG : Opd ks nw (.ref G) ws.length gs) (hvb : OptOpd ks nw vb bf) (hva : OptOpd ks nw va af) :
    TellsAt w loose mean mg mb 165 8 80 nw [.bytes o t, .ref W, .ref G, vb, va] (fun t => .bytes (byteArr (convL ws gs (sb ks af) (se ks bf) ks)) t) := by
  obtain ⟨mt, m1, m2, ⟨vs1, t1, d1, e1⟩, ⟨vs2, t2, d2, e2⟩⟩ := hT
  intro dp un gd cn cs a ccd cl outer A₀ base h₀ L m s Q E B F X N T hk hd9 hu9 hcd9 hret
  refine wpAny_call ?_
  k_dflt (refine' code_defC ?k1 ?k2 ?k3 ?k4 ?k5 ?kA ?kF ?kK ?k6 ?k7 ?k8 ?k9 ?kB ?kD ?_ ?c2 ?c3 ?c4; (case kA => exact rfl); (case kF => exact rfl); (case kK => assumption); (case k1 => k_asm); (case k2 => k_asm); (case k3 => k_asm); (case k4 => k_asm); (case k5 => k_asm); (case k6 => k_is); (case k7 => k_is); (case k8 => ktr_room); (case k9 => exact BindsTo.of_eq rfl); (case kB => exact rfl); (case kD => decide +kernel); (case c2 => exact rfl); (case c3 => exact rfl); (case c4 => exact rfl); k_whole; intro g' L' h' tk' cells' FG' F' N' Y' B' X' T' l1; (try k_lt l1); k_cells Y'; (try simp only [List.cons_append, List.nil_append] at N'); (try dsimp only); (try k_lift B'); (try k_fold))
  rename Fr _ _ _ _ => F0
  replace F0 := fr_to (m' := fun y => if y = Str.ofString "after" then some va else if y = Str.ofString "before" then some vb else if y = Str.ofString "given" then some (Value.ref G) else if y = Str.ofString "wanted" then some (Value.ref W) else none) F0 (by with_unfolding_all rfl)
  k_steps
  unfold Stop
  rename News _ _ _ _ => N1
  have N2 := news_out8 N1
  have hks : KBa.In ks := fun n h => KBw.ints_in (b := o) (by rw [ho]; exact h)
  refine' convert_with_ok (ks := ks) (ws := ws) (gs := gs) (bf := bf) (af := af) (fetch_ok ?l0 (List.mem_of_getElem? (i := 7) rfl) (sub10 _ m1) d1 e1 (List.mem_of_getElem? (i := 9) rfl) ?d3 ho) (plant_ok ?l1 (List.mem_of_getElem? (i := 6) rfl) (sub10 _ m2) d2 e2 (List.mem_of_getElem? (i := 8) rfl) ?e3 ?e4) (List.mem_of_getElem? (i := 7) rfl) (List.mem_of_getElem? (i := 6) rfl) (List.mem_of_getElem? (i := 0) rfl) (List.mem_of_getElem? (i := 4) rfl) (List.mem_of_getElem? (i := 5) rfl) ?hI ?hW ?hG ?hvb ?hva hks hn hw hl _ _ _ _ _ _ _ _ _ _ _ _ _ _ _ _ _ ?k1 ?k2 ?k3 N2 ?k5 ?kK ?kd ?ku ?kc ?_
  case d3 => assumption
  case e3 => assumption
  case e4 =>
    iterate 10 refine List.forall_mem_cons.mpr ⟨by k_ne, ?_⟩
    exact all_ne l1 (by omega)
  case l0 => kernel_rfl
  case l1 => kernel_rfl
  case hI => exact .item (List.mem_of_getElem? (i := 1) rfl)
  case hW => exact hW.mono sub10
  case hG => exact hG.mono sub10
  case hvb => exact hvb.mono sub10
  case hva => exact hva.mono sub10
  case k1 => k_asm
  case k2 => k_asm
  case k3 => k_asm
  case k5 => k_asm
  case kK => exact rfl
  case kd => ktr_room
  case ku => ktr_units
  case kc => kn_code
  intro T9 t9 t9' h9 tk9 F9 N9
  (try dsimp only)
  (try k_fold)
  k_steps
  rename Fr h₀ L _ _ => kF
  rename News h₀ L _ _ => kN
  exact end_bytes hret kF kN (fun p hp => .tail _ (.tail _ (sub10 p hp))) rfl
end
end
section
open PySem PySem.W PySem.Calls PyProof.Rows
set_option maxHeartbeats 4000000
theorem fill9 : (PySem.Challenge.rw_pb0226_01 = PySem.Challenge.rw_pb0226_01 ∧ hd.heap_39 = hd.heap_39) := by
  w_top off
  k_fill
  exact ⟨rfl, rfl⟩
section
variable {w : World} {loose : List Str} {mean : ExcName → Option Value} {mg mb : Str → Option Value}
local macro_rules | `(tactic| walk_at "call ref") => `(tactic| ((with_reducible show wpAny _ _ (call (Value.ref 165) _) _ _ _); refine stop_here ?_))
theorem news_out4 {h₀ h : Heap} {L : Addr} {p0 p1 p2 p3 q : Addr × Obj} {r : List (Addr × Obj)} (N : News h₀ L h (p0 :: p1 :: p2 :: p3 :: q :: r)) :
    News h₀ L h (q :: p0 :: p1 :: p2 :: p3 :: r) := fun p hp =>
  N p ((List.perm_middle (l₁ := [p0, p1, p2, p3]) (l₂ := r) (a := q)).mem_iff.mpr hp)
def smallL : List Int := [97, 98, 99, 100, 101, 102, 103, 104, 105, 106, 107, 108, 109, 110, 111, 112, 113, 114, 115, 116, 117, 118, 119, 120, 121, 122]
def greatL : List Int := [65, 66, 67, 68, 69, 70, 71, 72, 73, 74, 75, 76, 77, 78, 79, 80, 81, 82, 83, 84, 85, 86, 87, 88, 89, 90]
theorem law_written_ok :
  ∀ (dp un : Nat) (gd : Option (List Code)) (cn : Str) (cs : Scope) (a : Addr) (ccd : Value) (cl : List (Str × Addr)) (outer : List Env) (A₀ : Around) (base h₀ : Heap) (L : Addr) (m : Str → Option Value) (rest : List (Addr × Obj)) (s : Shared) (Q E : Value → Shared → Prop),
    Below A₀ base outer h₀ → Fr h₀ L s.heap m → (hd.heap_39 w.params).In h₀ → News h₀ L s.heap ((160, tabObj #[]) :: rest) → Top topProg loose mean mg mb h₀ → cs.kind = .function →
    dp + 10 < recursionLimit → un + 100 < cLine → (∀ p ∈ rest, p.1 ≠ 160) → CodeHd base 164 160 →
    (∀ (h' : Heap) (tk' : Nat) (c1 c2 : Addr) (oc1 oc2 : Obj), LamCode oc1 → LamCode oc2 → (∀ p ∈ rest, @LT.lt Nat _ p.1 c1) → @LT.lt Nat _ c1 c2 → @LT.lt Nat _ 160 c1 → Fr h₀ L h' m → News h₀ L h' ((160, tabFull c1 c2) :: (c1, oc1) :: (c2, oc2) :: rest) → Q (.bool true) { s with heap := h', toks := tk' }) →
      wpAny (model prog0 w) (ktrTop dp un gd cn cs L a ccd cl outer) (call (.ref 186) []) Q E s := by
  intro dp un gd cn cs a ccd cl outer A₀ base h₀ L m rest s Q E B F X N T hk hd9 hu9 hne hcd9 hret
  refine wpAny_call ?_
  k_dflt cell_enter
  k_steps
  unfold Stop
  rename News _ _ _ _ => N1
  have N2 := news_out4 N1
  refine' law_converted_fresh (ks := [97, 98, 122]) (ws := smallL) (gs := greatL) (bf := some 122) (af := none) rfl (by decide) (by decide) rfl _ _ _ _ _ _ _ _ _ _ _ _ _ _ _ _ _ _ ?k1 ?k2 ?k3 N2 ?k5 ?kK ?kd ?ku ?hne ?kc (.text (List.mem_of_getElem? (i := 3) rfl) rfl) (.text (List.mem_of_getElem? (i := 2) rfl) rfl) ⟨_, rfl, .text (List.mem_of_getElem? (i := 0) rfl) rfl⟩ rfl ?_
  case k1 => k_asm
  case k2 => k_asm
  case k3 => k_asm
  case k5 => k_asm
  case kK => exact rfl
  case kd => ktr_room
  case ku => ktr_units
  case kc => kn_code
  case hne =>
    iterate 4 refine List.forall_mem_cons.mpr ⟨by k_ne, ?_⟩
    exact hne
  intro t9 h9 tk9 c1 c2 oc1 oc2 kk1 kk2 lt1 lt2 lt3 F9 N9
  rw [show byteArr (convL smallL greatL (sb [97, 98, 122] none) (se [97, 98, 122] (some 122)) [97, 98, 122]) = #[65, 66, 122] by kernel_rfl]
  (try dsimp only)
  (try k_fold)
  k_steps
  unfold Stop
  rename News _ _ _ _ => N3
  refine' law_converted_hit (ks := [97, 48, 98, 123, 66]) (ws := smallL) (gs := greatL) (bf := none) (af := some 48) rfl (by decide) (by decide) rfl ⟨List.mem_of_getElem? (i := 1) rfl, List.mem_of_getElem? (i := 2) rfl, List.mem_of_getElem? (i := 3) rfl, kk1, kk2⟩ (.text (List.mem_of_getElem? (i := 7) rfl) rfl) (.text (List.mem_of_getElem? (i := 6) rfl) rfl) rfl ⟨_, rfl, .zero (List.mem_of_getElem? (i := 0) rfl) (by decide) (by decide)⟩ _ _ _ _ _ _ _ _ _ _ _ _ _ _ _ _ _ ?k1 ?k2 ?k3 N3 ?k5 ?kK ?kd ?ku ?kc ?_
  case k1 => k_asm
  case k2 => k_asm
  case k3 => k_asm
  case k5 => k_asm
  case kK => exact rfl
  case kd => ktr_room
  case ku => ktr_units
  case kc => kn_code
  intro t8 h8 tk8 F8 N8
  rw [show byteArr (convL smallL greatL (sb [97, 48, 98, 123, 66] (some 48)) (se [97, 48, 98, 123, 66] none) [97, 48, 98, 123, 66]) = #[97, 48, 66, 123, 66] by kernel_rfl]
  (try dsimp only)
  (try k_fold)
  k_steps
  unfold Stop
  rename News _ _ _ _ => N4
  refine' law_converted_hit (ks := [89, 101, 97, 114, 32, 56, 53]) (ws := [56, 32, 53]) (gs := [48, 48, 48]) (bf := none) (af := none) rfl (by decide) (by decide) rfl ⟨List.mem_of_getElem? (i := 3) rfl, List.mem_of_getElem? (i := 4) rfl, List.mem_of_getElem? (i := 5) rfl, kk1, kk2⟩ (.text (List.mem_of_getElem? (i := 1) rfl) rfl) (.zero (List.mem_of_getElem? (i := 0) rfl) (by decide) (by decide)) rfl rfl _ _ _ _ _ _ _ _ _ _ _ _ _ _ _ _ _ ?k1 ?k2 ?k3 N4 ?k5 ?kK ?kd ?ku ?kc ?_
  case k1 => k_asm
  case k2 => k_asm
  case k3 => k_asm
  case k5 => k_asm
  case kK => exact rfl
  case kd => ktr_room
  case ku => ktr_units
  case kc => kn_code
  intro t7 h7 tk7 F7 N7
  rw [show byteArr (convL [56, 32, 53] [48, 48, 48] (sb [89, 101, 97, 114, 32, 56, 53] none) (se [89, 101, 97, 114, 32, 56, 53] none) [89, 101, 97, 114, 32, 56, 53]) = #[89, 101, 97, 114, 48, 48, 48] by kernel_rfl]
  (try dsimp only)
  (try k_fold)
  k_steps
  rename Fr h₀ L _ _ => kF
  rename News h₀ L _ _ => kN
  exact hret _ _ c1 c2 oc1 oc2 kk1 kk2 (fun p hp => lt1 p (.tail _ (.tail _ (.tail _ (.tail _ hp))))) lt2 lt3 kF (news3 kN (List.mem_of_getElem? (i := 3) rfl) (List.mem_of_getElem? (i := 4) rfl) (List.mem_of_getElem? (i := 5) rfl) (fun p hp => sub10 p hp))
end
end
end
section
local macro_rules | `(tactic| walk_at "no such key") => `(tactic| fail)
open PySem PySem.W PySem.Calls PyProof.Rows
set_option maxHeartbeats 4000000
theorem fillD1 : (PySem.Challenge.rw_pb0226_01 = PySem.Challenge.rw_pb0226_01 ∧ hd.heap_39 = hd.heap_39) := by
  w_top off
  k_fill
  exact ⟨rfl, rfl⟩
theorem nameBlock_B {M : Model} {A : Around} {E : Value → Shared → Prop} {s : Shared} {K : Frag} {h₀ h₁ : Heap} {L : Addr} {m mg mb : Str → Option Value} {p : Program} {loose : List Str} {mean : ExcName → Option Value} {env : Env} {x : Str} {pos : Pos} {v : Value} {Q : Value → Shared → Prop}
    (hkeep : ∀ b o, h₁.get? b = some o → s.heap.get? b = some o) (F : Fr h₀ L h₁ m) (X : K.In h₀) (T : Top p loose mean mg mb h₀) (e : nsIn K mainGlobals x = some none) (hv : bootBuiltins x = some v) (hn : x ≠ "__name__") (h : Q v s)
    (hg : env.globals = mainGlobals) (hb : env.builtins = builtinsNs) (hk : env.scope.kind = .function) (hx : env.kindOf x = some .globalImplicit) (hd : (x == ("__debug__" : Str)) = false) : wpAny M A (eval (.Name x pos) env) Q E s :=
  Name_function_global hk hx (loadGlobal_builtin (env := env) (by rw [hg]; exact (T.g.keeps F.keep).keeps hkeep) (mg_none_of X T.g e) (by rw [hb]; exact (T.b.keeps F.keep).keeps hkeep) ((T.builtins x hn).trans hv) h) hd
theorem news_drop3 {h₀ h : Heap} {L : Addr} {x y z : Addr × Obj} {rest : List (Addr × Obj)} (N : News h₀ L h (x :: y :: z :: rest)) : News h₀ L h (x :: y :: rest) := fun p hp => N p (by
  rcases List.mem_cons.mp hp with rfl | hp
  · exact .head _
  · rcases List.mem_cons.mp hp with rfl | hp
    · exact .tail _ (.head _)
    · exact .tail _ (.tail _ (.tail _ hp)))
theorem neGn {d : Addr} : ∀ {l : List (Addr × Obj)}, GnNe d l → ∀ p ∈ l, p.1 ≠ d
  | [], _, _, h => nomatch h
  | q :: r, h, p, hp => by
    rcases List.mem_cons.mp hp with rfl | hp
    · exact h.1
    · exact neGn h.2 p hp
section
variable {w : World} {loose : List Str} {mean : ExcName → Option Value} {mg mb : Str → Option Value}
local macro_rules | `(tactic| walk_at "eval Name") => `(tactic| (k_here; k_inBlock; k_dflt (refine' nameBlock_B (by assumption) ?k1 ?k2 ?k3 ?k4 ?k5 ?k6 ?_ ?k7 ?k8 ?k9 ?k10 ?k11; (case k7 => rfl); (case k8 => rfl); (case k9 => rfl); (case k10 => rfl); (case k11 => decide); (case k1 => k_asm); (case k2 => k_asm); (case k3 => k_asm); (case k4 => k_is); (case k5 => boot_by_name); (case k6 => decide); k_whole)))
local macro_rules | `(tactic| walk_at "eval ListComp") => `(tactic| (k_here; (try k_iter_made); (with_reducible apply ListComp_DCn); (case hh => with_unfolding_all rfl); (case hclos => with_unfolding_all rfl); (case hcell => decide); (case hkind => with_unfolding_all rfl); (case hnames => decide); (case hx => with_unfolding_all rfl); (case hs => intro _; with_unfolding_all rfl); (case' h => with_reducible refine wpAny_compPack ?_)))
theorem pen_ok {lst : Addr} {vs : List Value} {ns : List Int} :
  ∀ (dp un : Nat) (gd : Option (List Code)) (cn : Str) (cs : Scope) (a : Addr) (ccd : Value) (cl : List (Str × Addr)) (outer : List Env) (A₀ : Around) (base h₀ : Heap) (L : Addr) (m : Str → Option Value) (rest : List (Addr × Obj)) (s : Shared) (Q E : Value → Shared → Prop),
    Below A₀ base outer h₀ → Fr h₀ L s.heap m → (hd.heap_39 w.params).In h₀ → News h₀ L s.heap rest → Top topProg loose mean mg mb h₀ → cs.kind = .function →
    dp + 1 < recursionLimit → un + 8 < cLine → base.IsList lst vs.toArray → IntsAre vs ns → ns.length ≤ 63 →
    (∀ (h' : Heap) (tk' : Nat) (P l : Addr) (n : Nat) (t1 t2 : Tok) (us : List Value) (ks : List Int), IntsAre us ks → ks.length ≤ 48 → Fr h₀ L h' m → News h₀ L h' ((P, listOf #[.ref l, .int 0 t1, .int 0 t2] 0) :: (l, listOf us.toArray n) :: rest) → (∀ p ∈ rest, p.1 ≠ l) → (∀ p ∈ rest, @LT.lt Nat _ p.1 P) → @LT.lt Nat _ l P → Q (.ref P) { s with heap := h', toks := tk' }) →
      wpAny (model prog0 w) (ktrTop dp un gd cn cs L a ccd cl outer) (call (.ref 144) [.ref lst]) Q E s := by
  intro dp un gd cn cs a ccd cl outer A₀ base h₀ L m rest s Q E B F X N T hk hd9 hu9 hlst hints hlen hret
  refine wpAny_call ?_
  k_dflt cell_enter
  k_steps
  rename Fr h₀ L _ _ => kF
  rename News h₀ L _ _ => kN
  rename IntsAre _ (List.map _ _) => gI
  rename _ ∧ GnNe _ _ => gA
  rename _ ∧ _ ∧ AllLt _ _ => l5
  refine hret _ _ _ _ _ _ _ _ _ gI ?_ kF (news_drop3 kN) ?_ (ktn_ltOf l5.2.2) l5.1
  · rw [List.length_map, List.length_take]; omega
  · exact neGn gA.2
end
end
section
local macro_rules | `(tactic| walk_at "no such key") => `(tactic| fail)
open PySem PySem.W PySem.Calls PyProof.Rows
set_option maxHeartbeats 1000000
theorem fillD2 : (PySem.Challenge.rw_pb0226_01 = PySem.Challenge.rw_pb0226_01 ∧ hd.heap_39 = hd.heap_39) := by
  w_top off
  k_fill
  exact ⟨rfl, rfl⟩
abbrev penObj (l : Addr) (k r : Int) (t1 t2 : Tok) (n : Nat) : Obj := listOf #[.ref l, .int k t1, .int r t2] n
section
variable {w : World} {loose : List Str} {mean : ExcName → Option Value} {mg mb : Str → Option Value}
local macro_rules | `(tactic| walk_at "compareOp NotEq ref ref") => `(tactic| (k_here; (with_reducible show wpAny _ _ (compareOp CmpOp.NotEq (Value.ref _) (Value.ref _)) _ _ _); k_dflt (refine' ne_intsK ?k1 ?k2 ?k3 ?k4 ?k5 ?_; (case k1 => exact News.isList (by k_asm) (by k_mem)); (case k2 => assumption); (case k3 => exact News.isList (by k_asm) (by k_mem)); (case k4 => exact IntsAre.nil); (case k5 => ktr_units); k_whole)))
theorem bnd1 {c k M : Int} (h0 : 0 ≤ k) (h1 : k ≤ 1000) (hM : 0 < M) (hM2 : M ≤ 2 ^ 32) : (Int.fmod c M + 26407 * k + 3307).natAbs < 2 ^ 64 := by
  have a := fmod_lo c hM
  have b := fmod_hi c hM
  omega
theorem bnd2 {c k M : Int} (h0 : 0 ≤ k) (h1 : k ≤ 1000) (hM : 0 < M) (hM2 : M ≤ 2 ^ 32) : (Int.fmod c M * (2 * k + 7207) + 26407 * k * k + 41).natAbs < 2 ^ 64 := by
  have a := fmod_lo c hM
  have b := fmod_hi c hM
  have p1 : 0 ≤ Int.fmod c M * (2 * k + 7207) := Int.mul_nonneg a (by omega)
  have p2 : Int.fmod c M * (2 * k + 7207) ≤ 2 ^ 32 * 9207 := Int.mul_le_mul (by omega) (by omega) (by omega) (by decide)
  have q1 : 0 ≤ 26407 * k * k := Int.mul_nonneg (by omega) h0
  have q2 : 26407 * k * k ≤ 26407000 * 1000 := Int.mul_le_mul (by omega) (by omega) (by omega) (by decide)
  generalize Int.fmod c M * (2 * k + 7207) = X at *
  generalize 26407 * k * k = Y at *
  omega
section
variable {prog : Program} {w : World} {A : Around} {E : Value → Shared → Prop} {s : Shared} {t u : Tok} {a n : Int} {Q : Value → Shared → Prop}
theorem pow_any (ha : a.natAbs < 2 ^ 64) (hn : 0 ≤ n) (hn2 : n ≤ 1000000) (h : ∀ V : Int, Q (.int V s.toks) { s with toks := s.toks + 1 }) : wpAny (model prog w) A (binaryOp .Pow (.int a t) (.int n u)) Q E s :=
  pow_int_small hn hn2 ha (h _)
theorem pow10 (h : Q (.int 1000000000000000000 s.toks) { s with toks := s.toks + 1 }) : wpAny (model prog w) A (binaryOp .Pow (.int 10 t) (.int 18 u)) Q E s :=
  pow_int_small (by decide) (by decide) (by decide) (by simpa using h)
end
local macro_rules | `(tactic| walk_at "binaryOp Pow int int") => `(tactic| first | (with_reducible refine pow10 ?_) | (refine pow_any (by first | exact bnd1 (by omega) (by omega) (by decide) (by decide) | exact bnd2 (by omega) (by omega) (by decide) (by decide)) (by decide) (by decide) ?_; intro V9))
/-- where two ways meet: the flow goes on with one int kept up, or the block is left -/
def JoinEnd (h₀ : Heap) (L : Addr) (x : Str) (m : Str → Option Value) (news : List (Addr × Obj)) (s : Shared) (Q : Flow → Shared → Prop) (fl : Flow) (s' : Shared) : Prop :=
  (∃ (h' : Heap) (tk' : Nat) (c : Int) (tc : Tok), fl = .next ∧ s' = { s with heap := h', toks := tk' } ∧ Fr h₀ L h' (fun y => if y = x then some (.int c tc) else m y) ∧ News h₀ L h' news) ∨ Q fl s'
theorem join_at {M : Model} {A : Around} {t : Sem Flow} {Q : Flow → Shared → Prop} {E : Value → Shared → Prop} {s : Shared} {h₀ : Heap} {L : Addr} (x : Str) {m : Str → Option Value} {v₀ : Option Value} {news : List (Addr × Obj)}
    (_ : Fr h₀ L s.heap (fun y => if y = x then v₀ else m y)) (_ : News h₀ L s.heap news)
    (h1 : wpAny M A t (JoinEnd h₀ L x m news s Q) E s)
    (h2 : ∀ (h' : Heap) (tk' : Nat) (c : Int) (tc : Tok), Fr h₀ L h' (fun y => if y = x then some (.int c tc) else m y) → News h₀ L h' news → Q .next { s with heap := h', toks := tk' }) : wpAny M A t Q E s :=
  wpAny_mono h1 (fun fl s' h => by
    rcases h with ⟨h', tk', c, tc, rfl, rfl, F, N⟩ | h
    · exact h2 h' tk' c tc F N
    · exact h) fun _ _ e => e
theorem news_tl {h₀ h : Heap} {L : Addr} {x : Addr × Obj} {r : List (Addr × Obj)} (N : News h₀ L h (x :: r)) : News h₀ L h r := fun z hz => N z (.tail _ hz)
theorem join_end {h₀ h' : Heap} {L : Addr} {x : Str} {m m' : Str → Option Value} {news news' : List (Addr × Obj)} {s : Shared} {Q : Flow → Shared → Prop} {tk' : Nat} {c : Int} {tc : Tok} (F : Fr h₀ L h' m') (N : News h₀ L h' news') (hc : m' x = some (.int c tc)) (hm : ∀ y, y ≠ x → m' y = m y) (hs : ∀ p ∈ news, p ∈ news') :
    JoinEnd h₀ L x m news s Q .next { s with heap := h', toks := tk' } := by
  refine .inl ⟨h', tk', c, tc, rfl, rfl, ?_, fun p hp => N p (hs p hp)⟩
  have e : (fun y => if y = x then some (.int c tc) else m y) = m' := by
    funext y
    by_cases hy : y = x
    · subst hy; rw [if_pos rfl, hc]
    · rw [if_neg hy, hm y hy]
  rw [e]; exact F
local macro_rules | `(tactic| walk_at "exec If") => `(tactic| (refine stop_here ?_))
theorem draw_ok {P l : Addr} {n nl : Nat} {t1 t2 tm : Tok} {k r many : Int} {us : List Value} {ks : List Int} {rest : List (Addr × Obj)} (hI : IntsAre us ks) (hks : ks.length ≤ 48) (hk0 : 0 ≤ k) (hk1 : k ≤ 1000) (hr : 0 ≤ r) (hm1 : 1 ≤ many) (hm2 : many ≤ 256) (hPl : @LT.lt Nat _ l P) (hPr : ∀ p ∈ rest, p.1 ≠ P) :
  ∀ (dp un : Nat) (gd : Option (List Code)) (cn : Str) (cs : Scope) (a : Addr) (ccd : Value) (cl : List (Str × Addr)) (outer : List Env) (A₀ : Around) (base h₀ : Heap) (L : Addr) (m : Str → Option Value) (s : Shared) (Q E : Value → Shared → Prop),
    Below A₀ base outer h₀ → Fr h₀ L s.heap m → (hd.heap_39 w.params).In h₀ → News h₀ L s.heap ((P, penObj l k r t1 t2 n) :: (l, listOf us.toArray nl) :: rest) → Top topProg loose mean mg mb h₀ → cs.kind = .function →
    dp + 1 < recursionLimit → un + 100 < cLine →
    (∀ (h' : Heap) (tk' : Nat) (n' : Nat) (t1 t2 td : Tok) (k' r' d : Int), 0 ≤ d → d < many → k ≤ k' → k' ≤ k + 1 → 0 ≤ r' → Fr h₀ L h' m → News h₀ L h' ((P, penObj l k' r' t1 t2 n') :: (l, listOf us.toArray nl) :: rest) → Q (.int d td) { s with heap := h', toks := tk' }) →
      wpAny (model prog0 w) (ktrTop dp un gd cn cs L a ccd cl outer) (call (.ref 151) [.ref P, .int many tm]) Q E s := by
  intro dp un gd cn cs a ccd cl outer A₀ base h₀ L m s Q E B F X N T hk hd9 hu9 hret
  refine wpAny_call ?_
  k_dflt cell_enter
  rename Fr _ _ _ _ => F0
  replace F0 := fr_to (m' := fun y => List.lookup y [(Str.ofString "many", Value.int many tm), (Str.ofString "pen", Value.ref P)]) F0 (by with_unfolding_all rfl)
  k_steps
  unfold Stop
  refine wpAny_If ?_
  k_steps
  · rename Fr h₀ L _ _ => kF
    rename News h₀ L _ _ => kN
    refine hret _ _ _ _ _ _ _ _ _ (fmod_lo _ (by omega)) (fmod_hi _ (by omega)) (Int.le_refl _) (by omega) (Int.fdiv_nonneg hr (by omega)) kF kN
  · unfold Stop
    rename Fr _ _ _ _ => F1
    rename News _ _ _ _ => N1
    refine join_at (Str.ofString "cell") F1 (news_tl N1) ?_ (fun h2 tk2 c2 tc2 F2 N2 => ?_)
    · refine wpAny_If ?_
      k_steps
      · rename Fr _ _ _ _ => kF
        rename News _ _ _ _ => kN
        exact join_end kF kN rfl (fun y h => by rw [if_neg h]) (fun p hp => .tail _ (.tail _ hp))
      · exfalso
        have h9 : ks = [] := List.length_eq_zero_iff.mp (by omega)
        simp_all
      · rename Fr _ _ _ _ => kF
        rename News _ _ _ _ => kN
        exact join_end kF kN rfl (fun y h => by rw [if_neg h, if_neg h]) (fun p hp => .tail _ (.tail _ hp))
    · clear F1 N1
      have F2 := fr_to (m' := fun y => if y = Str.ofString "cell" then some (Value.int c2 tc2) else if y = Str.ofString "turn" then some (Value.int k t1) else List.lookup y [(Str.ofString "many", Value.int many tm), (Str.ofString "pen", Value.ref P)]) F2 (by with_unfolding_all rfl)
      (try dsimp only)
      (try k_fold)
      k_steps
      unfold Stop
      rename Fr _ _ _ _ => F1
      rename News _ _ _ _ => N1
      refine join_at (Str.ofString "cell") F1 N1 ?_ (fun h3 tk3 c3 tc3 F3 N3 => ?_)
      · refine wpAny_If ?_
        k_steps
        · refine .inr ?_
          (try dsimp only)
          k_steps
          rename Fr h₀ L _ _ => kF
          rename News h₀ L _ _ => kN
          refine hret _ _ _ _ _ _ _ _ _ (fmod_lo _ (by omega)) (fmod_hi _ (by omega)) ?_ ?_ ?_ kF kN
          · omega
          · omega
          · refine Int.fdiv_nonneg ?_ (by omega)
            (repeat' split) <;> omega
        · exact join_end F1 N1 rfl (fun y h => by rw [if_neg h]) (fun p hp => hp)
        · exact join_end F1 N1 rfl (fun y h => by rw [if_neg h]) (fun p hp => hp)
      · clear F1 N1
        (try dsimp only)
        (try k_fold)
        k_steps
        rename Fr h₀ L _ _ => kF
        rename News h₀ L _ _ => kN
        refine hret _ _ _ _ _ _ _ _ _ (fmod_lo _ (by omega)) (fmod_hi _ (by omega)) ?_ ?_ hr kF kN
        · omega
        · omega
end
end
section
open PySem PySem.W PySem.Calls PyProof.Rows
set_option maxHeartbeats 1000000
theorem fillD3 : (PySem.Challenge.rw_pb0226_01 = PySem.Challenge.rw_pb0226_01 ∧ hd.heap_39 = hd.heap_39) := by
  w_top off
  k_fill
  exact ⟨rfl, rfl⟩
theorem draw_use {w : World} {loose : List Str} {mean : ExcName → Option Value} {mg mb : Str → Option Value} {P l : Addr} {n nl : Nat} {t1 t2 tm : Tok} {k r many : Int} {us : List Value} {ks : List Int} {rest : List (Addr × Obj)} {dp un : Nat} {gd : Option (List Code)} {cn : Str} {cs : Scope} {a : Addr} {ccd : Value} {cl : List (Str × Addr)} {outer : List Env} {A₀ : Around} {base h₀ : Heap} {L : Addr} {m : Str → Option Value} {s : Shared} {Q E : Value → Shared → Prop}
    (hI : IntsAre us ks) (hks : ks.length ≤ 48) (hk0 : 0 ≤ k) (hk1 : k ≤ 1000) (hr : 0 ≤ r) (hm1 : 1 ≤ many) (hm2 : many ≤ 256) (hPl : @LT.lt Nat _ l P) (hPr : ∀ p ∈ rest, p.1 ≠ P)
    (B : Below A₀ base outer h₀) (F : Fr h₀ L s.heap m) (X : (hd.heap_39 w.params).In h₀) (N : News h₀ L s.heap ((P, penObj l k r t1 t2 n) :: (l, listOf us.toArray nl) :: rest)) (T : Top topProg loose mean mg mb h₀) (hk : cs.kind = .function) (hd : dp + 1 < recursionLimit) (hu : un + 100 < cLine)
    (ret : ∀ (h' : Heap) (tk' : Nat) (n' : Nat) (t1 t2 td : Tok) (k' r' d : Int), 0 ≤ d → d < many → k ≤ k' → k' ≤ k + 1 → 0 ≤ r' → Fr h₀ L h' m → News h₀ L h' ((P, penObj l k' r' t1 t2 n') :: (l, listOf us.toArray nl) :: rest) → Q (.int d td) { s with heap := h', toks := tk' }) :
      wpAny (model prog0 w) (ktrTop dp un gd cn cs L a ccd cl outer) (call (.ref 151) [.ref P, .int many tm]) Q E s :=
  draw_ok hI hks hk0 hk1 hr hm1 hm2 hPl hPr _ _ _ _ _ _ _ _ _ _ _ _ _ _ _ _ _ B F X N T hk hd hu ret
section
variable {w : World} {loose : List Str} {mean : ExcName → Option Value} {mg mb : Str → Option Value}
local macro_rules | `(tactic| walk_at "call ref") => `(tactic| (k_dflt (
  refine' draw_use (by assumption) (by assumption) ?a1 ?a2 ?a3 ?a4 ?a5 ?a6 ?a7 ?k1 ?k2 ?k3 ?k4 ?k5 ?kK ?kd ?ku ?_;
  (case k1 => k_asm); (case k2 => k_asm); (case k3 => k_asm); (case k4 => k_asm); (case k5 => k_asm); (case kK => first | exact rfl | assumption); (case kd => ktr_room); (case ku => ktr_units);
  (case a1 => omega); (case a2 => omega); (case a3 => omega); (case a4 => omega); (case a5 => omega); (case a6 => assumption); (case a7 => assumption);
  intro h9 tk9 n9 t1 t2 td k9 r9 d9 hd1 hd2 hd3 hd4 hd5 F9 N9; (try dsimp only); (try k_fold))))
theorem item_any {prog : Program} {w : World} {A : Around} {E : Value → Shared → Prop} {s : Shared} {value slice : PySem.Expr} {l : Addr} {vs : List Value} {k : Int} {u : Tok} {Q : Value → Shared → Prop} (hl : s.heap.IsList l vs.toArray) (h0 : 0 ≤ k) (h1 : k < vs.length) (h2 : vs.length ≤ 1000) (h : ∀ v ∈ vs, Q v s)
    (hs : subscripted slice false (.ref l) (.int k u) = operate [.ref l, .int k u] (getItem (.ref l) (.int k u)) := by with_unfolding_all rfl) (hg : ∀ r, letTemporaryGo value (.ref l) r = pure () := by intro _; with_unfolding_all rfl) :
    wpAny (model prog w) A (subscriptTail value slice (.ref l) (.int k u)) Q E s := by
  have hlt : k.toNat < vs.length := by omega
  exact item_list hl h0 (by omega) (x := vs[k.toNat]) (by simp [hlt]) (h _ (List.getElem_mem hlt)) hs hg
local macro_rules | `(tactic| walk_at "call builtin:len") => `(tactic| (refine stop_here ?_))
local macro_rules | `(tactic| walk_at "subscriptTail") => `(tactic| (k_here; (with_reducible show wpAny _ _ (subscriptTail _ _ (Value.ref _) (Value.int _ _)) _ _ _); (refine stop_here ?_)))
/-- _law_pick: one of the items -/
theorem pick_ok {P l S : Addr} {n nl ns : Nat} {t1 t2 : Tok} {k r : Int} {us vs : List Value} {ks : List Int} {rest : List (Addr × Obj)} (hI : IntsAre us ks) (hks : ks.length ≤ 48) (hk0 : 0 ≤ k) (hk1 : k ≤ 1000) (hr : 0 ≤ r) (hPl : @LT.lt Nat _ l P) (hPr : ∀ p ∈ rest, p.1 ≠ P)
    (hS : (S, listOf vs.toArray ns) ∈ rest) (hx1 : 1 ≤ vs.length) (hx2 : vs.length ≤ 64) :
  ∀ (dp un : Nat) (gd : Option (List Code)) (cn : Str) (cs : Scope) (a : Addr) (ccd : Value) (cl : List (Str × Addr)) (outer : List Env) (A₀ : Around) (base h₀ : Heap) (L : Addr) (m : Str → Option Value) (s : Shared) (Q E : Value → Shared → Prop),
    Below A₀ base outer h₀ → Fr h₀ L s.heap m → (hd.heap_39 w.params).In h₀ → News h₀ L s.heap ((P, penObj l k r t1 t2 n) :: (l, listOf us.toArray nl) :: rest) → Top topProg loose mean mg mb h₀ → cs.kind = .function →
    dp + 2 < recursionLimit → un + 110 < cLine →
    (∀ (h' : Heap) (tk' : Nat) (n' : Nat) (t1 t2 : Tok) (k' r' : Int) (v : Value), v ∈ vs → k ≤ k' → k' ≤ k + 1 → 0 ≤ r' → Fr h₀ L h' m → News h₀ L h' ((P, penObj l k' r' t1 t2 n') :: (l, listOf us.toArray nl) :: rest) → Q v { s with heap := h', toks := tk' }) →
      wpAny (model prog0 w) (ktrTop dp un gd cn cs L a ccd cl outer) (call (.ref 158) [.ref P, .ref S]) Q E s := by
  intro dp un gd cn cs a ccd cl outer A₀ base h₀ L m s Q E B F X N T hk hd9 hu9 hret
  refine wpAny_call ?_
  k_dflt cell_enter
  k_steps
  unfold Stop
  rename News _ _ _ _ => kN
  refine len_list (items := vs.toArray) (kN.isList (.tail _ (.tail _ hS))) (by simp only [List.size_toArray]; omega) ?_
  simp only [List.size_toArray]
  (try dsimp only)
  k_steps
  unfold Stop
  rename News _ _ _ _ => kN
  refine item_any (kN.isList (.tail _ (.tail _ hS))) (by omega) (by omega) (by omega) ?_
  intro v9 hv9
  (try dsimp only)
  k_steps
  rename Fr h₀ L _ _ => kF
  rename News h₀ L _ _ => kN
  refine hret _ _ _ _ _ _ _ _ hv9 ?_ ?_ ?_ kF kN <;> assumption
end
end
section
open PySem PySem.W PySem.Calls PyProof.Rows
set_option maxHeartbeats 1000000
/-- what the law says is due -/
def dueL (lo hi : Nat) (os : List Int) : List Int := os.mapIdx fun i k => if (lo ≤ i ∧ i < hi) ∧ 97 ≤ k ∧ k ≤ 122 then turnI k 97 0 - 32 else k
theorem dueL_at {lo hi i : Nat} {os : List Int} (h : i < os.length) : (dueL lo hi os)[i]? = some (if (lo ≤ i ∧ i < hi) ∧ 97 ≤ os.getD i 0 ∧ os.getD i 0 ≤ 122 then turnI (os.getD i 0) 97 0 - 32 else os.getD i 0) := by
  simp [dueL, h]
theorem up1 : ∀ n : Nat, n < 256 → turn1 smallL greatL n = if 97 ≤ (n : Int) ∧ (n : Int) ≤ 122 then turnI n 97 0 - 32 else n := by decide +kernel
theorem of_oct {p : Int → Prop} (h : ∀ n : Nat, n < 256 → p n) {k : Int} (hk : 0 ≤ k ∧ k < 256) : p k := by
  obtain ⟨n, rfl⟩ := Int.eq_ofNat_of_zero_le hk.1
  exact h n (by omega)
theorem due_conv {lo hi : Nat} {os : List Int} (hk : ∀ n ∈ os, 0 ≤ n ∧ n < 256) : dueL lo hi os = convL smallL greatL lo hi os := by
  unfold dueL convL
  refine List.ext_getElem (by simp) fun i h1 h2 => ?_
  simp only [List.getElem_mapIdx]
  have hi9 : i < os.length := by simpa using h1
  have e := of_oct (p := fun k => turn1 smallL greatL k = if 97 ≤ k ∧ k ≤ 122 then turnI k 97 0 - 32 else k) up1 (hk _ (List.getElem_mem hi9))
  rw [e]
  by_cases ha : lo ≤ i ∧ i < hi <;> simp [ha]
end
section
open PySem PySem.W PySem.Calls PyProof.Rows
set_option maxHeartbeats 8000000
theorem fillD5 : (PySem.Challenge.rw_pb0226_01 = PySem.Challenge.rw_pb0226_01 ∧ hd.heap_39 = hd.heap_39) := by
  w_top off
  k_fill
  exact ⟨rfl, rfl⟩
theorem pick_use {w : World} {loose : List Str} {mean : ExcName → Option Value} {mg mb : Str → Option Value} {P l S : Addr} {n nl ns : Nat} {t1 t2 : Tok} {k r : Int} {us vs : List Value} {ks : List Int} {rest : List (Addr × Obj)} {dp un : Nat} {gd : Option (List Code)} {cn : Str} {cs : Scope} {a : Addr} {ccd : Value} {cl : List (Str × Addr)} {outer : List Env} {A₀ : Around} {base h₀ : Heap} {L : Addr} {m : Str → Option Value} {s : Shared} {Q E : Value → Shared → Prop}
    (hI : IntsAre us ks) (hks : ks.length ≤ 48) (hk0 : 0 ≤ k) (hk1 : k ≤ 1000) (hr : 0 ≤ r) (hPl : @LT.lt Nat _ l P) (hPr : ∀ p ∈ rest, p.1 ≠ P) (hS : (S, listOf vs.toArray ns) ∈ rest) (hx1 : 1 ≤ vs.length) (hx2 : vs.length ≤ 64)
    (B : Below A₀ base outer h₀) (F : Fr h₀ L s.heap m) (X : (hd.heap_39 w.params).In h₀) (N : News h₀ L s.heap ((P, penObj l k r t1 t2 n) :: (l, listOf us.toArray nl) :: rest)) (T : Top topProg loose mean mg mb h₀) (hk : cs.kind = .function) (hd : dp + 2 < recursionLimit) (hu : un + 110 < cLine)
    (ret : ∀ (h' : Heap) (tk' : Nat) (n' : Nat) (t1 t2 : Tok) (k' r' : Int) (v : Value), v ∈ vs → k ≤ k' → k' ≤ k + 1 → 0 ≤ r' → Fr h₀ L h' m → News h₀ L h' ((P, penObj l k' r' t1 t2 n') :: (l, listOf us.toArray nl) :: rest) → Q v { s with heap := h', toks := tk' }) :
      wpAny (model prog0 w) (ktrTop dp un gd cn cs L a ccd cl outer) (call (.ref 158) [.ref P, .ref S]) Q E s :=
  pick_ok hI hks hk0 hk1 hr hPl hPr hS hx1 hx2 _ _ _ _ _ _ _ _ _ _ _ _ _ _ _ _ _ B F X N T hk hd hu ret
theorem between_use {w : World} {loose : List Str} {mean : ExcName → Option Value} {mg mb : Str → Option Value} {o : Array UInt8} {t : Tok} {ks : List Int} {vb va : Value} {bf af : Option Int} {dp un : Nat} {gd : Option (List Code)} {cn : Str} {cs : Scope} {a : Addr} {ccd : Value} {cl : List (Str × Addr)} {outer : List Env} {A₀ : Around} {base h₀ : Heap} {L : Addr} {m : Str → Option Value} {news : List (Addr × Obj)} {s : Shared} {Q E : Value → Shared → Prop}
    (ho : KBw.bInts o = ks) (hn : ks.length ≤ 64) (hvb : IsOctI vb bf) (hva : IsOctI va af)
    (B : Below A₀ base outer h₀) (F : Fr h₀ L s.heap m) (X : (hd.heap_39 w.params).In h₀) (N : News h₀ L s.heap news) (T : Top topProg loose mean mg mb h₀) (hk : cs.kind = .function) (hd : dp + 1 < recursionLimit) (hu : un + 8 < cLine)
    (ret : ∀ (t1 t2 : Tok) (T : Addr) (h' : Heap) (tk' : Nat), Fr h₀ L h' m → News h₀ L h' ((T, { cls := .type "tuple", data := .seq #[.int (sb ks af : Nat) t1, .int (se ks bf : Nat) t2] }) :: news) → (∀ p ∈ news, @LT.lt Nat _ p.1 T) → Q (.ref T) { s with heap := h', toks := tk' }) :
      wpAny (model prog0 w) (ktrTop dp un gd cn cs L a ccd cl outer) (call (.ref 179) [.bytes o t, vb, va]) Q E s :=
  between_ok ho hn hvb hva _ _ _ _ _ _ _ _ _ _ _ _ _ _ _ _ _ _ B F X N T hk hd hu ret
theorem le_two {a b c : Int} (h1 : b ≤ a + 1) (h2 : c ≤ b + 1) : c ≤ a + 2 := by omega
theorem sub11n {α : Type} {p0 p1 p2 p3 p4 p5 p6 p7 p8 p9 p10 : α} {r : List α} : ∀ p ∈ r, p ∈ p0 :: p1 :: p2 :: p3 :: p4 :: p5 :: p6 :: p7 :: p8 :: p9 :: p10 :: r := fun p hp => by
  iterate 11 apply List.Mem.tail
  exact hp
theorem news_pen6 {h₀ h : Heap} {L : Addr} {x0 x1 x2 x3 x4 x5 p q : Addr × Obj} {r : List (Addr × Obj)} (N : News h₀ L h (x0 :: x1 :: x2 :: x3 :: x4 :: x5 :: p :: q :: r)) :
    News h₀ L h (p :: q :: x0 :: x1 :: x2 :: x3 :: x4 :: x5 :: r) := fun z hz => N z ((List.perm_append_comm_assoc [x0, x1, x2, x3, x4, x5] [p, q] r).mem_iff.mpr hz)
theorem ne_of_objs {h₀ h : Heap} {L : Addr} {led : List (Addr × Obj)} {a b : Addr} {oa ob : Obj} (N : News h₀ L h led) (ha : (a, oa) ∈ led) (hb : (b, ob) ∈ led) (hne : oa ≠ ob) : a ≠ b := fun e => hne (by
  subst e
  exact Option.some.inj ((N _ ha).1.symm.trans (N _ hb).1))
theorem menu_mem {us : List Value} {ks : List Int} {v : Value} {t1 t2 : Tok} (hI : IntsAre us ks) (h : v ∈ [Value.none, .int 32 t1, .int 48 t2] ++ us) : ∃ b, IsOctI v b ∧ ∀ c, b = some c → c = 32 ∨ c = 48 ∨ c ∈ ks := by
  have h2 := List.mem_append.mp h
  clear h
  rcases h2 with h | h
  · simp only [List.mem_cons, List.not_mem_nil, or_false] at h
    rcases h with rfl | rfl | rfl
    · exact ⟨_, .none, fun c e => nomatch e⟩
    · exact ⟨_, .some _ _, fun c e => .inl (Option.some.inj e).symm⟩
    · exact ⟨_, .some _ _, fun c e => .inr (.inl (Option.some.inj e).symm)⟩
  · induction hI with
    | nil => cases h
    | cons k t _ ih =>
      rcases List.mem_cons.mp h with rfl | h
      · exact ⟨_, .some _ _, fun c e => .inr (.inr ((Option.some.inj e) ▸ List.mem_cons_self))⟩
      · obtain ⟨b, h1, h2⟩ := ih h
        exact ⟨b, h1, fun c e => (h2 c e).imp id (.imp id (List.mem_cons_of_mem _))⟩
section
variable {prog : Program} {w : World} {A : Around} {E : Value → Shared → Prop} {s : Shared} {h₀ : Heap} {L : Addr} {m : Str → Option Value} {env : Env}
theorem item_natD {value slice : PySem.Expr} {b : Array UInt8} {t ui : Tok} {ks : List Int} {j : Nat} {Q : Value → Shared → Prop} (hk : KBw.bInts b = ks) (hn : ks.length ≤ 64) (hj : j < ks.length)
    (h : ∀ t' tk, 0 ≤ ks.getD j 0 → ks.getD j 0 < 256 → Q (.int (ks.getD j 0) t') { s with toks := tk })
    (hs : subscripted slice false (.bytes b t) (.int j ui) = operate [.bytes b t, .int j ui] (getItem (.bytes b t) (.int j ui)) := by with_unfolding_all rfl)
    (ht : ∀ r, letTemporaryGo value (.bytes b t) r = pure () := by intro _; with_unfolding_all rfl) : wpAny (model prog w) A (subscriptTail value slice (.bytes b t) (.int j ui)) Q E s := by
  refine KBw.item_K hk (by omega) (by omega) (by omega) ?_ hs ht
  intro _ _ h0 h1
  exact h _ _ h0 h1
theorem int_end {h' : Heap} {news own : List (Addr × Obj)} {k k' : Int} {t : Tok} {tk' : Nat} (F : Fr h₀ L h' m) (N : News h₀ L h' news) (e : k' = k) : IntEnd h₀ L m s news k (.int k' t) { s with heap := h', toks := tk' } := by
  subst e
  exact ⟨h', tk', [], t, rfl, rfl, F, N⟩
/-- the end of a turn that gives an operand -/
def OpEnd (h₀ : Heap) (L : Addr) (m : Str → Option Value) (s : Shared) (I : Addr) (oI : Obj) (C : Addr) (oC : Obj) (D : Addr) (oD : Obj) (nw : List (Addr × Obj)) (os : List Int) (b : Option Int) (y : Value) (s' : Shared) : Prop :=
  ∃ h' tk' add own, s' = { s with heap := h', toks := tk' } ∧ Fr h₀ L h' m ∧ News h₀ L h' (own ++ ((I, oI) :: (C, oC) :: (D, oD) :: (add ++ nw))) ∧ LCg.Off3 I C D add ∧ (∀ p ∈ add, ∀ q ∈ nw, @LT.lt Nat _ q.1 p.1) ∧ OptOpd os add y b
theorem op_end0 {h₀ h' : Heap} {L : Addr} {m : Str → Option Value} {s : Shared} {I C D : Addr} {oI oC oD : Obj} {nw : List (Addr × Obj)} {os : List Int} {tk' : Nat} (F : Fr h₀ L h' m) (N : News h₀ L h' ((I, oI) :: (C, oC) :: (D, oD) :: nw)) :
    OpEnd h₀ L m s I oI C oC D oD nw os none .none { s with heap := h', toks := tk' } := ⟨h', tk', [], [], rfl, F, N, trivial, (fun p h => nomatch h), rfl⟩
theorem op_end2 {h₀ h' : Heap} {L : Addr} {m : Str → Option Value} {s : Shared} {I C D T : Addr} {oI oC oD o : Obj} {nw ex : List (Addr × Obj)} {os : List Int} {b : Option Int} {y : Value} {tk' : Nat} (F : Fr h₀ L h' m) (N : News h₀ L h' ((T, o) :: (ex ++ (I, oI) :: (C, oC) :: (D, oD) :: nw)))
    (hi : @LT.lt Nat _ I T) (hc : @LT.lt Nat _ C T) (hd : @LT.lt Nat _ D T) (hl : AllLt T nw) (hO : OptOpd os [(T, o)] y b) :
    OpEnd h₀ L m s I oI C oC D oD nw os b y { s with heap := h', toks := tk' } := by
  refine ⟨h', tk', [(T, o)], [], rfl, F, fun p hp => N p ?_, ⟨⟨Ne.symm (Nat.ne_of_lt hi), Ne.symm (Nat.ne_of_lt hc), Ne.symm (Nat.ne_of_lt hd)⟩, trivial⟩, (fun p hp q hq => by rw [List.mem_singleton.mp hp]; exact ktn_ltOf hl q hq), hO⟩
  simp only [List.nil_append, List.cons_append, List.mem_cons, List.mem_append] at hp ⊢
  rcases hp with h | h | h | h | h <;> simp [h]
/-- a block that gives operands -/
theorem rest_ops {elt : PySem.Expr} {x : Str} {scope : Scope} {cl : List (Str × Addr)} {S : List (Addr × Obj) → Prop} {P : Nat → Value → Prop} {Fin : List Value → List (Addr × Obj) → Prop} {news : List (Addr × Obj)} {os : List Int} {bs : List (Option Int)} {n : Nat} (hn : n = bs.length)
    (hS : ∀ nw, (∀ p ∈ news, p ∈ nw) → S nw) (hP : ∀ i v, P i v → ∃ b, bs[i]? = some b ∧ IsOctI v b)
    (turn : ∀ b v nw ys I oI C oC D m₂ h tk (E' : Value → Shared → Prop), b ∈ bs → IsOctI v b → LCg.NsObj oC m₂ → m₂ x = some v → Fr h₀ L h m → News h₀ L h ((I, oI) :: (C, oC) :: (D, LCg.lst ys) :: nw) →
      wpAny (model prog w) A (eval elt (compEnvC scope cl C env)) (OpEnd h₀ L m { s with heap := h, toks := tk } I oI C oC D (LCg.lst ys) nw os b) E' { s with heap := h, toks := tk })
    (fin : ∀ ys add, (∀ p ∈ add, ∀ q ∈ news, @LT.lt Nat _ q.1 p.1) → ys.length = bs.length → (∀ (j : Nat) (y : Value) (b : Option Int), ys[j]? = some y → bs[j]? = some b → OptOpd os add y b) → Fin ys (add ++ news)) :
    LCg.CompRest prog w A h₀ L m env elt x scope cl s S P Fin n 0 [] news := by
  subst hn
  refine rest_inv (fun i ys nw => ∃ add, nw = add ++ news ∧ (∀ p ∈ add, ∀ q ∈ news, @LT.lt Nat _ q.1 p.1) ∧ ys.length = i ∧ ∀ (j : Nat) (y : Value) (b : Option Int), ys[j]? = some y → bs[j]? = some b → OptOpd os add y b) ⟨[], rfl, fun p h => (nomatch h), rfl, fun j y b h => by simp at h⟩ ?_ ?_
  · rintro i ys nw v I oI C oC D m₂ h tk E' hi ⟨ad, rfl, hs, hl, hy⟩ hv hC hx F N off ne
    obtain ⟨b, hb, hv⟩ := hP i v hv
    refine wpAny_mono (turn b v _ ys I oI C oC D m₂ h tk E' (List.mem_of_getElem? hb) hv hC hx F N) (fun y s₂ he => ?_) fun _ _ e => e
    obtain ⟨h', tk', add, own, rfl, F', N', off', hlt, hO⟩ := he
    refine ⟨h', tk', add ++ (ad ++ news), rfl, F', fun p hp => N' p (List.mem_append.mpr (.inr hp)), LCg.Off3.of fun p hp => ?_, hS _ fun p hp => List.mem_append.mpr (.inr (List.mem_append.mpr (.inr hp))), add ++ ad, (List.append_assoc ..).symm, fun p hp q hq => ?_, by simp [hl], fun j y' b' h1 h2 => ?_⟩
    · rcases List.mem_append.mp hp with hp | hp
      · exact off'.mem p hp
      · exact off.mem p hp
    · rcases List.mem_append.mp hp with hp | hp
      · exact hlt p hp q (List.mem_append.mpr (.inr hq))
      · exact hs p hp q hq
    · rcases Nat.lt_trichotomy j ys.length with hj | rfl | hj
      · rw [List.getElem?_append_left hj] at h1
        exact (hy j y' b' h1 h2).mono fun p hp => List.mem_append.mpr (.inr hp)
      · rw [List.getElem?_append_right (Nat.le_refl _), Nat.sub_self] at h1
        obtain rfl : y = y' := Option.some.inj h1
        rw [hl, hb] at h2
        obtain rfl : b = b' := Option.some.inj h2
        exact hO.mono fun p hp => List.mem_append.mpr (.inl hp)
      · rw [List.getElem?_eq_none (by simp; omega)] at h1
        cases h1
  · rintro ys nw ⟨ad, rfl, hs, hl, hy⟩
    exact fin ys ad hs hl hy
end
theorem off1_mem {D : Addr} : ∀ {l : List (Addr × Obj)}, LCg.Off1 D l → ∀ p ∈ l, @Ne Nat p.1 D
  | [], _, _, h => nomatch h
  | _ :: _, x, p, h => by
    rcases List.mem_cons.mp h with rfl | h
    · exact x.1
    · exact off1_mem x.2 p h
theorem two_of {α : Type} {ys : List α} (h : ys.length = 2) : ∃ a b, ys = [a, b] := by
  match ys, h with
  | [a, b], _ => exact ⟨a, b, rfl⟩
theorem two_at {a b v : Value} {i : Nat} {x y : Option Int} (h : (#[a, b] : Array Value)[i]? = some v) (ha : IsOctI a x) (hb : IsOctI b y) : ∃ c, [x, y][i]? = some c ∧ IsOctI v c := by
  match i, h with
  | 0, h => cases h; exact ⟨_, rfl, ha⟩
  | 1, h => cases h; exact ⟨_, rfl, hb⟩
  | (n + 2), h => simp at h
/-- the ledger, the operands' objects behind -/
theorem news_ops {h₀ h : Heap} {L : Addr} {D E : Addr × Obj} {p q a1 a2 a3 b1 b2 b3 : Addr × Obj} {add r : List (Addr × Obj)} (N : News h₀ L h (D :: (add ++ E :: p :: q :: a1 :: a2 :: a3 :: b1 :: b2 :: b3 :: r))) :
    News h₀ L h (D :: E :: b1 :: b2 :: b3 :: p :: q :: (add ++ r)) := fun z hz => N z (by
  rcases List.mem_cons.mp hz with rfl | hz
  · exact .head _
  refine .tail _ (List.mem_append.mpr ?_)
  have key : ∀ z ∈ [E, b1, b2, b3, p, q], z ∈ E :: p :: q :: a1 :: a2 :: a3 :: b1 :: b2 :: b3 :: r := by
    refine List.forall_mem_cons.mpr ⟨.head _, ?_⟩
    refine List.forall_mem_cons.mpr ⟨List.mem_of_getElem? (i := 6) rfl, ?_⟩
    refine List.forall_mem_cons.mpr ⟨List.mem_of_getElem? (i := 7) rfl, ?_⟩
    refine List.forall_mem_cons.mpr ⟨List.mem_of_getElem? (i := 8) rfl, ?_⟩
    refine List.forall_mem_cons.mpr ⟨List.mem_of_getElem? (i := 1) rfl, ?_⟩
    refine List.forall_mem_cons.mpr ⟨List.mem_of_getElem? (i := 2) rfl, ?_⟩
    exact fun _ h => nomatch h
  rcases List.mem_append.mp (show z ∈ [E, b1, b2, b3, p, q] ++ (add ++ r) from hz) with h | h
  · exact .inr (key z h)
  rcases List.mem_append.mp h with h | h
  · exact .inl h
  · refine .inr ?_
    iterate 9 refine .tail _ ?_
    exact h)
section
variable {w : World} {loose : List Str} {mean : ExcName → Option Value} {mg mb : Str → Option Value}
local macro_rules | `(tactic| walk_at "call type:list") => `(tactic| (k_here; (with_reducible show wpAny _ _ (call (Value.type "list") [Value.bytes _ _]) _ _ _); k_dflt (refine' list_B ?a ?b ?c ?d ?e ?_; (case a => assumption); (case b => omega); (case c => rfl); (case d => k_asm); (case e => k_asm)); intro lD lus lc lh ltk lF lN lL lI lZ))
local macro_rules | `(tactic| walk_at "call ref") => `(tactic| (refine stop_here ?_))
local macro_rules | `(tactic| walk_at "eval ListComp") => `(tactic| (refine stop_here ?_))
local macro_rules | `(tactic| walk_at "exec Assign cons ListComp") => `(tactic| (refine stop_here ?_))
local macro_rules | `(tactic| walk_at "call ref") => `(tactic| ((with_reducible show wpAny _ _ (call (Value.ref 172) _) _ _ _); k_dflt (
  refine' tells_use turned_tells ?k1 ?k2 ?k3 ?k4 ?k5 ?kK ?kd ?ku ?_;
  (case k1 => k_asm); (case k2 => k_asm); (case k3 => k_asm); (case k4 => k_asm); (case k5 => k_asm); (case kK => first | exact rfl | assumption); (case kd => ktr_room); (case ku => ktr_units);
  intro t9 h9 tk9 F9 N9; (try dsimp only); (try k_fold))))
local macro_rules | `(tactic| walk_at "subscriptTail") => `(tactic| (k_here; (with_reducible show wpAny _ _ (subscriptTail _ _ (Value.bytes _ _) (Value.int _ _)) _ _ _); k_dflt (refine' item_natD ?a ?b ?c ?_; (case a => assumption); (case b => omega); (case c => assumption)); intro tx9 ty9 lx9 hx9))
local macro_rules | `(tactic| walk_at "CompSrc") => `(tactic| (refine stop_here ?_))
theorem right_ok {P l : Addr} {n nl : Nat} {t1 t2 t : Tok} {k r : Int} {us : List Value} {ks os : List Int} {rest : List (Addr × Obj)} {o : Array UInt8} (hI : IntsAre us ks) (hks : ks.length ≤ 48) (hk0 : 0 ≤ k) (hk1 : k ≤ 900) (hr : 0 ≤ r) (hPl : @LT.lt Nat _ l P) (hPr : ∀ p ∈ rest, p.1 ≠ P)
    (ho : KBw.bInts o = os) (hn : os.length ≤ 12) {c1 c2 : Addr} {oc1 oc2 : Obj} (hT : LamTab rest c1 c2 oc1 oc2) :
  ∀ (dp un : Nat) (gd : Option (List Code)) (cn : Str) (cs : Scope) (a : Addr) (ccd : Value) (cl : List (Str × Addr)) (outer : List Env) (A₀ : Around) (base h₀ : Heap) (L : Addr) (m : Str → Option Value) (s : Shared) (Q E : Value → Shared → Prop),
    Below A₀ base outer h₀ → Fr h₀ L s.heap m → (hd.heap_39 w.params).In h₀ → News h₀ L s.heap ((P, penObj l k r t1 t2 n) :: (l, listOf us.toArray nl) :: rest) → Top topProg loose mean mg mb h₀ → cs.kind = .function →
    dp + 12 < recursionLimit → un + 130 < cLine → CodeHd base 164 160 →
    (∀ (h' : Heap) (tk' : Nat) (n' : Nat) (t1 t2 : Tok) (k' r' : Int), k ≤ k' → k' ≤ k + 2 → 0 ≤ r' → Fr h₀ L h' m → News h₀ L h' ((P, penObj l k' r' t1 t2 n') :: (l, listOf us.toArray nl) :: rest) → Q (.bool true) { s with heap := h', toks := tk' }) →
      wpAny (model prog0 w) (ktrTop dp un gd cn cs L a ccd cl outer) (call (.ref 191) [.ref P, .bytes o t]) Q E s := by
  intro dp un gd cn cs a ccd cl outer A₀ base h₀ L m s Q E B F X N T hk hd9 hu9 hcd9 hret
  refine wpAny_call ?_
  k_dflt (refine' code_defC ?k1 ?k2 ?k3 ?k4 ?k5 ?kA ?kF ?kK ?k6 ?k7 ?k8 ?k9 ?kB ?kD ?_ ?c2 ?c3 ?c4; (case kA => exact rfl); (case kF => exact rfl); (case kK => assumption); (case k1 => k_asm); (case k2 => k_asm); (case k3 => k_asm); (case k4 => k_asm); (case k5 => k_asm); (case k6 => k_is); (case k7 => k_is); (case k8 => ktr_room); (case k9 => exact BindsTo.of_eq rfl); (case kB => exact rfl); (case kD => decide +kernel); (case c2 => exact rfl); (case c3 => exact rfl); (case c4 => exact rfl); k_whole; intro g' L' h' tk' cells' FG' F' N' Y' B' X' T' l1; (try k_lt l1); k_cells Y'; (try simp only [List.cons_append, List.nil_append] at N'); (try dsimp only); (try k_lift B'); (try k_fold))
  rename Fr _ _ _ _ => F0
  replace F0 := fr_to (m' := fun y => if y = Str.ofString "pen" then some (Value.ref P) else none) F0 (by with_unfolding_all rfl)
  k_steps
  unfold Stop
  rename News _ _ _ _ => kN
  rename IntsAre _ os => oI
  rename List.length _ = os.length => oZ
  rename _ ∧ _ ∧ _ ∧ _ ∧ _ ∧ AllLt _ _ => kl
  rename _ ∧ _ ∧ AllLt _ _ => kl0
  have qP1 : @LT.lt Nat _ P (L' + 1) := Nat.lt_succ_of_lt kl0.1
  have qP2 : @LT.lt Nat _ P (L' + 1 + 1) := Nat.lt_succ_of_lt qP1
  have qP3 : @LT.lt Nat _ P (L' + 1 + 1 + 1) := Nat.lt_succ_of_lt qP2
  have ql1 : @LT.lt Nat _ l (L' + 1) := Nat.lt_succ_of_lt kl0.2.1
  have ql2 : @LT.lt Nat _ l (L' + 1 + 1) := Nat.lt_succ_of_lt ql1
  have ql3 : @LT.lt Nat _ l (L' + 1 + 1 + 1) := Nat.lt_succ_of_lt ql2
  rename ∀ (p : Addr × Obj), p ∈ _ → @LT.lt Nat _ p.1 _ => kL
  have hS9 := ne_of_objs kN (.head _) (.tail _ (.tail _ (.tail _ (.tail _ (.tail _ (.tail _ (.head _))))))) (by simp [W.listOf])
  have hD9 := Ne.symm (Nat.ne_of_lt (kL _ (.tail _ (.tail _ (.tail _ (.tail _ (.head _)))))))
  refine' pick_use hI hks hk0 (Int.le_trans hk1 (by decide)) hr hPl ?hPr (.head _) ?x1 ?x2 ?k1 ?k2 ?k3 (news_pen6 kN) ?k5 ?kK ?kd ?ku ?_
  case hPr =>
    refine List.forall_mem_cons.mpr ⟨hS9, ?_⟩
    refine List.forall_mem_cons.mpr ⟨hD9, ?_⟩
    iterate 4 refine List.forall_mem_cons.mpr ⟨by k_ne, ?_⟩
    exact hPr
  case x1 => simp
  case x2 => simp; omega
  case k1 => k_asm
  case k2 => k_asm
  case k3 => k_asm
  case k5 => k_asm
  case kK => exact rfl
  case kd => ktr_room
  case ku => ktr_units
  intro h8 tk8 n8 u1 u2 k8 r8 v8 hv8 hk8 hk8' hr8 F8 N8
  (try dsimp only)
  (try k_fold)
  k_steps
  unfold Stop
  refine' pick_use hI hks (Int.le_trans hk0 hk8) (Int.le_trans hk8' (Int.le_trans (Int.add_le_add_right hk1 1) (by decide))) hr8 hPl ?hPr (.head _) ?x1 ?x2 ?k1 ?k2 ?k3 N8 ?k5 ?kK ?kd ?ku ?_
  case hPr =>
    refine List.forall_mem_cons.mpr ⟨hS9, ?_⟩
    refine List.forall_mem_cons.mpr ⟨hD9, ?_⟩
    iterate 4 refine List.forall_mem_cons.mpr ⟨by k_ne, ?_⟩
    exact hPr
  case x1 => simp
  case x2 => simp; omega
  case k1 => k_asm
  case k2 => k_asm
  case k3 => k_asm
  case k5 => k_asm
  case kK => exact rfl
  case kd => ktr_room
  case ku => ktr_units
  intro h7 tk7 n7 u3 u4 k7 r7 v7 hv7 hk7 hk7' hr7 F7 N7
  (try dsimp only)
  (try k_fold)
  k_steps
  unfold Stop
  obtain ⟨b8, hb8, hc8⟩ := menu_mem oI hv8
  obtain ⟨b7, hb7, hc7⟩ := menu_mem oI hv7
  have hos : ∀ n ∈ os, 0 ≤ n ∧ n < 256 := fun n h => KBw.ints_in (b := o) (by rw [ho]; exact h)
  have oc8 : ∀ c, b8 = some c → 0 ≤ c ∧ c < 256 := fun c e => by rcases hc8 c e with rfl | rfl | h <;> first | omega | exact hos _ h
  have oc7 : ∀ c, b7 = some c → 0 ≤ c ∧ c < 256 := fun c e => by rcases hc7 c e with rfl | rfl | h <;> first | omega | exact hos _ h
  k_dflt (refine LCg.Assign_ListComp_U (F₀ := by k_asm) (by with_unfolding_all rfl) (by with_unfolding_all rfl) (by with_unfolding_all rfl) (by decide) (by rfl) (by decide) (by rfl) (by rfl) (by rfl) ?_)
  k_steps
  unfold Stop
  refine LCg.CompSrc.ledger (by rfl) (by k_asm) (by k_asm) (by k_mem) (by first | size_fits | exact Nat.le_of_ble_eq_true rfl) ?_
  intro g'
  refine rest_ops (os := os) (bs := [b8, b7]) rfl (fun nw hs => .inr ⟨_, hs _ (.head _), rfl, _, rfl⟩) (fun i v h => ?_) (fun b v nw ys I oI C oC D m₂ h tk E' hbm hv hC hx F' N' => ?_) (fun ys add hs hl hy => ?_)
  · exact two_at h hb8 hb7
  · have hb : ∀ c, b = some c → 0 ≤ c ∧ c < 256 := by
      simp only [List.mem_cons, List.not_mem_nil, or_false] at hbm
      rcases hbm with rfl | rfl
      · exact oc8
      · exact oc7
    cases hv with
    | none =>
      k_steps
      rename Fr _ _ _ _ => kF
      rename News _ _ _ _ => kN
      exact op_end0 kF kN
    | some c tc =>
      have hc := hb c rfl
      k_steps
      · rename Fr _ _ _ _ => kF
        rename News _ _ _ _ => kN
        rename _ ∧ _ ∧ _ ∧ AllLt _ _ => kl
        subst_vars
        exact op_end2 (ex := []) kF kN kl.1 kl.2.1 kl.2.2.1 kl.2.2.2 ⟨_, rfl, .space (size := 1) (.head _) (by decide) (by decide)⟩
      · rename Fr _ _ _ _ => kF
        rename News _ _ _ _ => kN
        rename _ ∧ _ ∧ _ ∧ AllLt _ _ => kl
        subst_vars
        exact op_end2 (ex := []) kF kN kl.1 kl.2.1 kl.2.2.1 kl.2.2.2 ⟨_, rfl, .zero (size := 1) (.head _) (by decide) (by decide)⟩
      · rename Fr _ _ _ _ => kF
        rename News _ _ _ _ => kN
        rename _ ∧ _ ∧ _ ∧ _ ∧ AllLt _ _ => kl
        rename _ = c => hcu
        exact op_end2 (ex := [_]) kF kN kl.2.1 kl.2.2.1 kl.2.2.2.1 kl.2.2.2.2 ⟨_, rfl, .text (.head _) (congrArg (fun z => [z]) hcu)⟩
  · unfold LCg.FinA
    intro D' h' tk' F' N' o1'
    have od1 : @Ne Nat (L' + 1) D' := off1_mem o1' _ (List.mem_append.mpr (.inr (List.mem_of_getElem? (i := 8) rfl)))
    have od2 : @Ne Nat (L' + 1 + 1) D' := off1_mem o1' _ (List.mem_append.mpr (.inr (List.mem_of_getElem? (i := 7) rfl)))
    have od3 : @Ne Nat (L' + 1 + 1 + 1) D' := off1_mem o1' _ (List.mem_append.mpr (.inr (List.mem_of_getElem? (i := 6) rfl)))
    clear o1'
    (try simp only [List.nil_append, List.cons_append] at N')
    (try dsimp only)
    have N2 := news_ops N'
    obtain ⟨y8, y7, rfl⟩ := two_of hl
    have hy8 := hy 0 y8 b8 rfl rfl
    have hy7 := hy 1 y7 b7 rfl rfl
    have hzz : ∀ d, (d = L' + 1 ∨ d = L' + 1 + 1 ∨ d = L' + 1 + 1 + 1) → ∀ p ∈ add ++ rest, p.1 ≠ d := fun d hd p hp => by
      rcases List.mem_append.mp hp with hp | hp
      · rcases hd with rfl | rfl | rfl
        · exact Ne.symm (Nat.ne_of_lt (hs p hp _ (List.mem_of_getElem? (i := 8) rfl)))
        · exact Ne.symm (Nat.ne_of_lt (hs p hp _ (List.mem_of_getElem? (i := 7) rfl)))
        · exact Ne.symm (Nat.ne_of_lt (hs p hp _ (List.mem_of_getElem? (i := 6) rfl)))
      · have h9 : @LT.lt Nat _ p.1 L' := ktn_ltOf kl0.2.2 p hp
        have h10 : @LT.lt Nat _ p.1 d := by
          rcases hd with rfl | rfl | rfl
          · exact Nat.lt_succ_of_lt h9
          · exact Nat.lt_succ_of_lt (Nat.lt_succ_of_lt h9)
          · exact Nat.lt_succ_of_lt (Nat.lt_succ_of_lt (Nat.lt_succ_of_lt h9))
        exact Nat.ne_of_lt h10
    have hz1 := hzz _ (.inl rfl)
    have hz2 := hzz _ (.inr (.inl rfl))
    have hz3 := hzz _ (.inr (.inr rfl))
    have hr9 : ∀ p ∈ rest, p ∈ add ++ rest := fun p hp => List.mem_append.mpr (.inr hp)
    have hO8 : OptOpd os (add ++ rest) y8 b8 := hy8.mono fun p hp => List.mem_append.mpr (.inl hp)
    have hO7 : OptOpd os (add ++ rest) y7 b7 := hy7.mono fun p hp => List.mem_append.mpr (.inl hp)
    have hT9 := hT.mono hr9
    clear N' hzz hy hs hy8 hy7
    generalize add ++ rest = rest2 at N2 hz1 hz2 hz3 hr9 hO8 hO7 hT9
    k_steps
    unfold Stop
    rename News _ _ _ _ => N3
    refine' between_use ho (Nat.le_trans hn (by decide)) hb8 hb7 ?k1 ?k2 ?k3 N3 ?k5 ?kK ?kd ?ku ?_
    case k1 => k_asm
    case k2 => k_asm
    case k3 => k_asm
    case k5 => k_asm
    case kK => exact rfl
    case kd => ktr_room
    case ku => ktr_units
    intro t1 t2 T h6 tk6 F6 N6 hT6
    (try dsimp only)
    (try k_fold)
    have l6 : (@LT.lt Nat _ (L' + 1) T) ∧ (@LT.lt Nat _ (L' + 1 + 1) T) ∧ (@LT.lt Nat _ (L' + 1 + 1 + 1) T) := ⟨hT6 _ (List.mem_of_getElem? (i := 4) rfl), hT6 _ (List.mem_of_getElem? (i := 3) rfl), hT6 _ (List.mem_of_getElem? (i := 2) rfl)⟩
    clear N3
    k_steps
    unfold Stop
    k_dflt (refine LCg.ListComp_U (F₀ := by k_asm) (by with_unfolding_all rfl) (by decide) (by rfl) (by decide) (by rfl) ?_)
    k_steps
    unfold Stop
    rename IsRange _ _ _ _ _ _ _ _ => hrg
    have hdl : (dueL (sb os b7) (se os b8) os).length = os.length := by simp [dueL]
    refine LCg.CompSrc.range (n := (dueL (sb os b7) (se os b8) os).length) rfl (by k_asm) (by k_asm) hrg (small_one (by decide) (by decide) (by omega) (by omega)) (by rw [rangeSize_nat]; simp [hdl]) (by rw [hdl]; exact Nat.le_trans hn (by decide)) ?_
    intro g'
    refine rest_ints trivial (fun i ys v kk I oI C oC D m₂ h tk E' hk hv hC hx F' N' => ?_) (fun ys hys => ?_)
    · obtain ⟨ti, rfl⟩ := hv
      have hlt9 : i < os.length := by
        obtain ⟨h, _⟩ := List.getElem?_eq_some_iff.mp hk
        rw [hdl] at h; exact h
      rw [Int.zero_add] at hx
      rw [dueL_at hlt9] at hk
      have hk := Option.some.inj hk
      k_steps
      all_goals (rename Fr _ _ _ _ => kF; rename News _ _ _ _ => kN; refine int_end (own := []) kF kN ?_; rw [← hk]; first | rw [if_pos ⟨⟨(by first | assumption | exact Int.ofNat_le.mp (by assumption) | exact Int.ofNat_lt.mp (by assumption) | omega), (by first | assumption | exact Int.ofNat_le.mp (by assumption) | exact Int.ofNat_lt.mp (by assumption) | omega)⟩, by assumption, by assumption⟩] | rw [if_neg (fun h => absurd (Int.ofNat_le.mpr h.1.1) (by assumption))] | rw [if_neg (fun h => absurd (Int.ofNat_lt.mpr h.1.2) (by assumption))] | rw [if_neg (fun h => absurd h.2.1 (by assumption))] | rw [if_neg (fun h => absurd h.2.2 (by assumption))] | rw [if_pos (by omega)] | rw [if_neg (by omega)])
    · have hdc : dueL (sb os b7) (se os b8) os = convL smallL greatL (sb os b7) (se os b8) os := due_conv hos
      rw [hdc] at hys
      have hin : KBa.In (convL smallL greatL (sb os b7) (se os b8) os) := convL_in hos (by decide)
      have hcl : (convL smallL greatL (sb os b7) (se os b8) os).length = os.length := convL_length
      unfold LCg.FinE
      intro D2 h5 tk5 F5 N5 o5
      clear o5
      (try dsimp only)
      k_steps
      unfold Stop
      rename News _ _ _ _ => N4
      refine' law_converted_hit (ks := os) (ws := smallL) (gs := greatL) (bf := b8) (af := b7) ho (Nat.le_trans hn (by decide)) (by decide) rfl (hT9.mono sub11n) (.text (List.mem_of_getElem? (i := 1) rfl) rfl) (.text (List.mem_of_getElem? (i := 0) rfl) rfl) (hO8.mono sub11n) (hO7.mono sub11n) _ _ _ _ _ _ _ _ _ _ _ _ _ _ _ _ _ ?k1 ?k2 ?k3 N4 ?k5 ?kK ?kd ?ku ?kc ?_
      case k1 => k_asm
      case k2 => k_asm
      case k3 => k_asm
      case k5 => k_asm
      case kK => exact rfl
      case kd => ktr_room
      case ku => ktr_units
      case kc => kn_code
      intro t9 h9 tk9 F9 N9
      (try dsimp only)
      (try k_fold)
      k_steps
      rename Fr h₀ L _ _ => kF
      rename News h₀ L _ _ => kN
      rw [beq_self_eq_true]
      refine hret _ _ n7 u3 u4 k7 r7 ?_ ?_ hr7 kF (fun p hp => kN p ?_)
      · exact Int.le_trans hk8 hk7
      · exact le_two hk8' hk7'
      · rcases List.mem_cons.mp hp with rfl | hp
        · exact List.mem_of_getElem? (i := 9) rfl
        · rcases List.mem_cons.mp hp with rfl | hp
          · exact List.mem_of_getElem? (i := 10) rfl
          · exact sub11n p (hr9 p hp)
end
end
end
section
open PySem PySem.W PySem.Calls PyProof.Rows
set_option maxHeartbeats 1000000
/-- the small letters, turned on -/
def rotL (st : Nat) : List Int := smallL.drop st ++ smallL.take st
theorem off_of {k a : Int} (h1 : a ≤ k) (h2 : k < a + 26) : ∃ n : Nat, n < 26 ∧ k = a + n := ⟨(k - a).toNat, by omega, by omega⟩
theorem mem_small {k : Int} : k ∈ smallL ↔ 97 ≤ k ∧ k ≤ 122 := by
  constructor
  · have h : ∀ x ∈ smallL, (97 : Int) ≤ x ∧ x ≤ 122 := by decide
    exact h k
  · intro h
    obtain ⟨n, hn, rfl⟩ := off_of h.1 (Int.lt_add_one_of_le h.2)
    have h : ∀ n : Nat, n < 26 → (97 : Int) + n ∈ smallL := by decide
    exact h n hn
theorem mem_great {k : Int} : k ∈ greatL ↔ 65 ≤ k ∧ k ≤ 90 := by
  constructor
  · have h : ∀ x ∈ greatL, (65 : Int) ≤ x ∧ x ≤ 90 := by decide
    exact h k
  · intro h
    obtain ⟨n, hn, rfl⟩ := off_of h.1 (Int.lt_add_one_of_le h.2)
    have h : ∀ n : Nat, n < 26 → (65 : Int) + n ∈ greatL := by decide
    exact h n hn
theorem mem_rot {st : Nat} {k : Int} : k ∈ rotL st ↔ 97 ≤ k ∧ k ≤ 122 := by
  rw [← mem_small]
  unfold rotL
  conv => rhs; rw [← List.take_append_drop st smallL]
  rw [List.mem_append, List.mem_append, Or.comm]
theorem turn1_out {ws gs : List Int} {k : Int} (h : k ∉ ws) : turn1 ws gs k = k := by
  unfold turn1
  rw [if_neg h]
theorem convL_full {ws gs os : List Int} : convL ws gs (sb os none) (se os none) os = os.map (turn1 ws gs) := by
  unfold convL
  refine List.ext_getElem (by simp) fun i h1 h2 => ?_
  simp only [List.getElem_mapIdx, List.getElem_map]
  have hi9 : i < os.length := by simpa using h1
  rw [if_pos ⟨Nat.zero_le _, hi9⟩]
theorem great_to1 : ∀ n : Nat, n < 26 → turn1 greatL smallL ((65 : Int) + n) = 97 + n := by decide +kernel
theorem small_to1 : ∀ n : Nat, n < 26 → turn1 smallL greatL ((97 : Int) + n) = 65 + n := by decide +kernel
theorem rot_to1 : ∀ st : Nat, st < 26 → ∀ n : Nat, n < 26 → turn1 smallL (rotL st) ((97 : Int) + n) = turnI (97 + n) 97 st := by decide +kernel
theorem rot_back1 : ∀ st : Nat, st < 26 → ∀ n : Nat, n < 26 → turn1 (rotL st) smallL (turn1 smallL (rotL st) ((97 : Int) + n)) = 97 + n := by decide +kernel
theorem space_to1 : ∀ n : Nat, n < 26 → turn1 smallL (List.replicate 26 32) ((97 : Int) + n) = 32 := by decide +kernel
theorem low_at (k : Int) : turn1 greatL smallL k = if 65 ≤ k ∧ k ≤ 90 then k + 32 else k := by
  split
  · next h =>
    obtain ⟨n, hn, rfl⟩ := off_of h.1 (by omega)
    rw [great_to1 n hn]; omega
  · next h => exact turn1_out (by rw [mem_great]; exact h)
theorem up_at (k : Int) : turn1 smallL greatL k = if 97 ≤ k ∧ k ≤ 122 then k - 32 else k := by
  split
  · next h =>
    obtain ⟨n, hn, rfl⟩ := off_of h.1 (by omega)
    rw [small_to1 n hn]; omega
  · next h => exact turn1_out (by rw [mem_small]; exact h)
theorem back_at (k : Int) : turn1 greatL smallL (turn1 smallL greatL (turn1 greatL smallL k)) = turn1 greatL smallL k := by
  simp only [low_at, up_at]
  repeat' split
  all_goals omega
theorem rot_at {st : Nat} (hs : st < 26) (k : Int) : turn1 smallL (rotL st) k = turnI k 97 st := by
  by_cases h : 97 ≤ k ∧ k ≤ 122
  · obtain ⟨n, hn, rfl⟩ := off_of h.1 (by omega)
    exact rot_to1 st hs n hn
  · rw [turn1_out (by rw [mem_small]; exact h)]
    unfold turnI
    rw [if_neg (by omega)]
theorem rot_back {st : Nat} (hs : st < 26) (k : Int) : turn1 (rotL st) smallL (turn1 smallL (rotL st) k) = k := by
  by_cases h : 97 ≤ k ∧ k ≤ 122
  · obtain ⟨n, hn, rfl⟩ := off_of h.1 (by omega)
    exact rot_back1 st hs n hn
  · rw [turn1_out (ws := smallL) (by rw [mem_small]; exact h), turn1_out (by rw [mem_rot]; exact h)]
theorem space_at (k : Int) : turn1 smallL (List.replicate 26 32) k = if 97 ≤ k ∧ k ≤ 122 then 32 else k := by
  split
  · next h =>
    obtain ⟨n, hn, rfl⟩ := off_of h.1 (by omega)
    exact space_to1 n hn
  · next h => exact turn1_out (by rw [mem_small]; exact h)
theorem rot_length {st : Nat} (hs : st < 26) : (rotL st).length = 26 := by
  have : smallL.length = 26 := rfl
  simp only [rotL, List.length_append, List.length_drop, List.length_take]
  omega
theorem rot_in {st : Nat} : ∀ n ∈ rotL st, 0 ≤ n ∧ n < 256 := fun n h => by
  have := mem_rot.mp h
  omega
theorem convL_rot_back {st : Nat} (hs : st < 26) {os : List Int} : convL (rotL st) smallL (sb (convL smallL (rotL st) (sb os none) (se os none) os) none) (se (convL smallL (rotL st) (sb os none) (se os none) os) none) (convL smallL (rotL st) (sb os none) (se os none) os) = os := by
  rw [convL_full, convL_full, List.map_map]
  conv => rhs; rw [← List.map_id os]
  exact List.map_congr_left fun k _ => rot_back hs k
theorem convL_back {os : List Int} (low mid : List Int) (h1 : low = convL greatL smallL (sb os none) (se os none) os) (h2 : mid = convL smallL greatL (sb low none) (se low none) low) : convL greatL smallL (sb mid none) (se mid none) mid = low := by
  subst h1 h2
  simp only [convL_full, List.map_map]
  exact List.map_congr_left fun k _ => back_at k
theorem cut_hi {l : List Int} {st : Nat} (h : st ≤ l.length) : List.take ((none : Option Int).elim l.length (clipAt l.length) - (some (st : Int)).elim 0 (clipAt l.length)) (List.drop ((some (st : Int)).elim 0 (clipAt l.length)) l) = l.drop st := by
  simp only [Option.elim, clipAt_nat]
  rw [Nat.min_eq_left h]
  exact List.take_of_length_le (by simp)
theorem cut_lo {l : List Int} {st : Nat} (h : st ≤ l.length) : List.take ((some (st : Int)).elim l.length (clipAt l.length) - (none : Option Int).elim 0 (clipAt l.length)) (List.drop ((none : Option Int).elim 0 (clipAt l.length)) l) = l.take st := by
  simp only [Option.elim, clipAt_nat, List.drop_zero, Nat.sub_zero]
  rw [Nat.min_eq_left h]
end
section
open PySem PySem.W PySem.Calls PyProof.Rows PyProof
set_option maxHeartbeats 1000000
section
variable {prog : Program} {w : World} {A : Around} {E : Value → Shared → Prop} {s : Shared} {h₀ : Heap} {L : Addr} {m : Str → Option Value} {env : Env}
/-- the end of a turn that draws an octet -/
def DrawEnd (h₀ : Heap) (L : Addr) (m : Str → Option Value) (s : Shared) (I : Addr) (oI : Obj) (C : Addr) (oC : Obj) (D : Addr) (oD : Obj) (P l : Addr) (nl : Nat) (us : List Value) (rest : List (Addr × Obj)) (k : Int) (y : Value) (s' : Shared) : Prop :=
  ∃ (h' : Heap) (tk' n' : Nat) (t1 t2 : Tok) (k' r' v : Int) (t : Tok) (own : List (Addr × Obj)), s' = { s with heap := h', toks := tk' } ∧ y = .int v t ∧ 0 ≤ v ∧ v < 256 ∧ k ≤ k' ∧ k' ≤ k + 4 ∧ 0 ≤ r' ∧ Fr h₀ L h' m ∧
    News h₀ L h' (own ++ ((I, oI) :: (C, oC) :: (D, oD) :: (P, penObj l k' r' t1 t2 n') :: (l, listOf us.toArray nl) :: rest))
/-- a block that draws octets; the pen changes -/
theorem rest_draws {elt : PySem.Expr} {x : Str} {scope : Scope} {cl : List (Str × Addr)} {S : List (Addr × Obj) → Prop} {Pr : Nat → Value → Prop} {Fin : List Value → List (Addr × Obj) → Prop} {P l : Addr} {nl n n0 : Nat} {us : List Value} {rest : List (Addr × Obj)} {k₀ r₀ : Int} {t1 t2 : Tok}
    (hS : ∀ nw, S nw) (hr0 : 0 ≤ r₀)
    (turn : ∀ (i : Nat) ys v I oI C oC D m₂ h tk (E' : Value → Shared → Prop) (k r : Int) (t1 t2 : Tok) (np : Nat), i < n → k₀ ≤ k → k ≤ k₀ + 4 * (i : Int) → 0 ≤ r → Pr i v → LCg.NsObj oC m₂ → m₂ x = some v → Fr h₀ L h m →
      News h₀ L h ((I, oI) :: (C, oC) :: (D, LCg.lst ys) :: (P, penObj l k r t1 t2 np) :: (l, listOf us.toArray nl) :: rest) → ((@Ne Nat I P) ∧ (@Ne Nat C P) ∧ (@Ne Nat D P)) →
      wpAny (model prog w) A (eval elt (compEnvC scope cl C env)) (DrawEnd h₀ L m { s with heap := h, toks := tk } I oI C oC D (LCg.lst ys) P l nl us rest k) E' { s with heap := h, toks := tk })
    (fin : ∀ ys gs (k r : Int) (t1 t2 : Tok) (np : Nat), IntsAre ys gs → KBa.In gs → gs.length = n → k₀ ≤ k → k ≤ k₀ + 4 * (n : Int) → 0 ≤ r → Fin ys ((P, penObj l k r t1 t2 np) :: (l, listOf us.toArray nl) :: rest)) :
    LCg.CompRest prog w A h₀ L m env elt x scope cl s S Pr Fin n 0 [] ((P, penObj l k₀ r₀ t1 t2 n0) :: (l, listOf us.toArray nl) :: rest) := by
  refine rest_inv (fun i ys nw => ∃ (k r : Int) (t1 t2 : Tok) (np : Nat) (gs : List Int), nw = (P, penObj l k r t1 t2 np) :: (l, listOf us.toArray nl) :: rest ∧ k₀ ≤ k ∧ k ≤ k₀ + 4 * (i : Int) ∧ 0 ≤ r ∧ IntsAre ys gs ∧ KBa.In gs ∧ gs.length = i)
    ⟨k₀, r₀, t1, t2, n0, [], rfl, Int.le_refl _, by omega, hr0, .nil, (fun _ h => nomatch h), rfl⟩ ?_ ?_
  · rintro i ys nw v I oI C oC D m₂ h tk E' hi ⟨k, r, t1, t2, np, gs, rfl, hk1, hk2, hr, hys, hin, hgl⟩ hP hC hx F N off ne
    have o1 := off.mem _ List.mem_cons_self
    refine wpAny_mono (turn i ys v I oI C oC D m₂ h tk E' k r t1 t2 np hi hk1 hk2 hr hP hC hx F N ⟨Ne.symm o1.1, Ne.symm o1.2.1, Ne.symm o1.2.2⟩) (fun y s₂ he => ?_) fun _ _ e => e
    obtain ⟨h', tk', n', u1, u2, k', r', v', t', own, rfl, rfl, hv0, hv1, hka, hkb, hr', F', N'⟩ := he
    refine ⟨h', tk', (P, penObj l k' r' u1 u2 n') :: (l, listOf us.toArray nl) :: rest, rfl, F', fun p hp => N' p (List.mem_append.mpr (.inr hp)), LCg.Off3.of fun p hp => ?_, hS _, k', r', u1, u2, n', gs ++ [v'], rfl, by omega, by omega, hr', hys.append (.cons _ _ .nil), fun z hz => ?_, by simp [hgl]⟩
    · rcases List.mem_cons.mp hp with rfl | hp
      · exact o1
      · exact off.mem p (.tail _ hp)
    · rcases List.mem_append.mp hz with hz | hz
      · exact hin z hz
      · rw [List.mem_singleton.mp hz]; exact ⟨hv0, hv1⟩
  · rintro ys nw ⟨k, r, t1, t2, np, gs, rfl, hk1, hk2, hr, hys, hin, hgl⟩
    exact fin ys gs k r t1 t2 np hys hin hgl hk1 hk2 hr
end
theorem news_swap {h₀ h : Heap} {L : Addr} {r : List (Addr × Obj)} (a b : List (Addr × Obj)) (N : News h₀ L h (a ++ (b ++ r))) : News h₀ L h (b ++ (a ++ r)) := fun z hz => N z ((List.perm_append_comm_assoc a b r).mem_iff.mpr hz)
theorem news_swap3 {h₀ h : Heap} {L : Addr} {x0 x1 x2 p q : Addr × Obj} {r : List (Addr × Obj)} (N : News h₀ L h (x0 :: x1 :: x2 :: p :: q :: r)) : News h₀ L h (p :: q :: x0 :: x1 :: x2 :: r) := news_swap [x0, x1, x2] [p, q] N
theorem news_swap1 {h₀ h : Heap} {L : Addr} {x0 p q : Addr × Obj} {r : List (Addr × Obj)} (N : News h₀ L h (x0 :: p :: q :: r)) : News h₀ L h (p :: q :: x0 :: r) := news_swap [x0] [p, q] N
/-- the end of a turn, as the walk leaves it -/
theorem draw_end {h₀ h' : Heap} {L I C D S P l : Addr} {m : Str → Option Value} {s : Shared} {oI oC oD oS : Obj} {nl n' tk' : Nat} {us : List Value} {rest : List (Addr × Obj)} {k k' r' a b c d : Int} {t1 t2 ta tb tc td : Tok} {v : Value} (F : Fr h₀ L h' m)
    (N : News h₀ L h' ((P, penObj l k' r' t1 t2 n') :: (l, listOf us.toArray nl) :: (S, oS) :: (I, oI) :: (C, oC) :: (D, oD) :: rest)) (hv : v ∈ [Value.int a ta, .int b tb, .int c tc, .int d td])
    (ha : 0 ≤ a ∧ a < 256) (hb : 0 ≤ b ∧ b < 256) (hc : 0 ≤ c ∧ c < 256) (hd : 0 ≤ d ∧ d < 256) (hk : k ≤ k' ∧ k' ≤ k + 4) (hr : 0 ≤ r') :
    DrawEnd h₀ L m s I oI C oC D oD P l nl us rest k v { s with heap := h', toks := tk' } := by
  have key : ∀ (x : Int) (t : Tok), 0 ≤ x ∧ x < 256 → DrawEnd h₀ L m s I oI C oC D oD P l nl us rest k (.int x t) { s with heap := h', toks := tk' } := fun x t hx =>
    ⟨h', tk', n', t1, t2, k', r', x, t, [(S, oS)], rfl, rfl, hx.1, hx.2, hk.1, hk.2, hr, F, news_swap [(P, penObj l k' r' t1 t2 n'), (l, listOf us.toArray nl)] [(S, oS), (I, oI), (C, oC), (D, oD)] N⟩
  simp only [List.mem_cons, List.not_mem_nil, or_false] at hv
  rcases hv with rfl | rfl | rfl | rfl
  · exact key _ _ ha
  · exact key _ _ hb
  · exact key _ _ hc
  · exact key _ _ hd
/-- a block that gives ints, its length said apart -/
theorem rest_intsN {prog : Program} {w : World} {A : Around} {s : Shared} {h₀ : Heap} {L : Addr} {m : Str → Option Value} {env : Env} {elt : PySem.Expr} {x : Str} {scope : Scope} {cl : List (Str × Addr)} {S : List (Addr × Obj) → Prop} {P : Nat → Value → Prop} {Fin : List Value → List (Addr × Obj) → Prop} (g : List Int) {n : Nat} {news : List (Addr × Obj)} (hn : n = g.length) (hS : S news)
    (turn : ∀ (i : Nat) ys v k I oI C oC D m₂ h tk (E' : Value → Shared → Prop), g[i]? = some k → P i v → LCg.NsObj oC m₂ → m₂ x = some v → Fr h₀ L h m → News h₀ L h ((I, oI) :: (C, oC) :: (D, LCg.lst ys) :: news) →
      wpAny (model prog w) A (eval elt (compEnvC scope cl C env)) (IntEnd h₀ L m { s with heap := h, toks := tk } ((I, oI) :: (C, oC) :: (D, LCg.lst ys) :: news) k) E' { s with heap := h, toks := tk })
    (fin : ∀ ys, IntsAre ys g → Fin ys news) :
    LCg.CompRest prog w A h₀ L m env elt x scope cl s S P Fin n 0 [] news := by
  subst hn
  exact rest_ints hS turn fin
end
section
open PySem PySem.W PySem.Calls PyProof.Rows
set_option maxHeartbeats 8000000
theorem fillD6 : (PySem.Challenge.rw_pb0226_01 = PySem.Challenge.rw_pb0226_01 ∧ hd.heap_39 = hd.heap_39) := by
  w_top off
  k_fill
  exact ⟨rfl, rfl⟩
theorem news_out2 {h₀ h : Heap} {L : Addr} {p0 p1 q : Addr × Obj} {r : List (Addr × Obj)} (N : News h₀ L h (p0 :: p1 :: q :: r)) : News h₀ L h (q :: p0 :: p1 :: r) := fun p hp =>
  N p ((List.perm_middle (l₁ := [p0, p1]) (l₂ := r) (a := q)).mem_iff.mpr hp)
theorem ex_of {h₀ h : Heap} {L : Addr} {m : Str → Option Value} (F : Fr h₀ L h m) : ∃ m', m' = m ∧ Fr h₀ L h m' := ⟨m, rfl, F⟩
theorem ne_five {P a b c d e : Addr} {oa ob oc : Obj} (h1 : @LT.lt Nat _ a P) (h2 : @LT.lt Nat _ b P) (h3 : @LT.lt Nat _ c P) (h4 : @LT.lt Nat _ d P) (h5 : @LT.lt Nat _ e P) (od oe : Obj) : ∀ p ∈ [(a, oa), (b, ob), (c, oc), (d, od), (e, oe)], p.1 ≠ P := by
  refine List.forall_mem_cons.mpr ⟨Nat.ne_of_lt h1, ?_⟩
  refine List.forall_mem_cons.mpr ⟨Nat.ne_of_lt h2, ?_⟩
  refine List.forall_mem_cons.mpr ⟨Nat.ne_of_lt h3, ?_⟩
  refine List.forall_mem_cons.mpr ⟨Nat.ne_of_lt h4, ?_⟩
  refine List.forall_mem_cons.mpr ⟨Nat.ne_of_lt h5, ?_⟩
  exact fun p h => nomatch h
theorem pen_off {h₀ h : Heap} {L : Addr} {p q : Addr × Obj} {r : List (Addr × Obj)} {P : Addr} (_ : News h₀ L h (p :: q :: r)) (hr : ∀ z ∈ r, z.1 ≠ P) (x0 x1 x2 : Addr × Obj) (h0 : @Ne Nat x0.1 P) (h1 : @Ne Nat x1.1 P) (h2 : @Ne Nat x2.1 P) :
    ∀ z ∈ x0 :: x1 :: x2 :: r, z.1 ≠ P :=
  List.forall_mem_cons.mpr ⟨h0, List.forall_mem_cons.mpr ⟨h1, List.forall_mem_cons.mpr ⟨h2, hr⟩⟩⟩
theorem news_swap2 {h₀ h : Heap} {L : Addr} {x0 x1 p q : Addr × Obj} {r : List (Addr × Obj)} (N : News h₀ L h (x0 :: x1 :: p :: q :: r)) : News h₀ L h (p :: q :: x0 :: x1 :: r) := news_swap [x0, x1] [p, q] N
theorem ne_nat {a b : Addr} (h : a ≠ b) : @Ne Nat a b := h
section
local macro_rules | `(tactic| walk_at "call ref") => `(tactic| (refine stop_here ?_))
local macro_rules | `(tactic| walk_at "eval ListComp") => `(tactic| (refine stop_here ?_))
local macro_rules | `(tactic| walk_at "CompSrc") => `(tactic| (refine stop_here ?_))
local macro_rules | `(tactic| walk_at "call ref") => `(tactic| ((with_reducible show wpAny _ _ (call (Value.ref 172) _) _ _ _); k_dflt (
  refine' tells_use turned_tells ?k1 ?k2 ?k3 ?k4 ?k5 ?kK ?kd ?ku ?_;
  (case k1 => k_asm); (case k2 => k_asm); (case k3 => k_asm); (case k4 => k_asm); (case k5 => k_asm); (case kK => first | exact rfl | assumption); (case kd => first | decide | ktr_room); (case ku => first | decide | ktr_units);
  intro t9 h9 tk9 F9 N9; (try dsimp only); (try k_fold))))
theorem plus_in {a d : Int} (h0 : 0 ≤ d) (h1 : d < 26) (ha : 0 ≤ a) (hb : a ≤ 230) : 0 ≤ a + d ∧ a + d < 256 := ⟨Int.add_nonneg ha h0, by omega⟩
theorem le_four {a b c d e : Int} (h1 : b ≤ a + 1) (h2 : c ≤ b + 1) (h3 : d ≤ c + 1) (h4 : e ≤ d + 1) : e ≤ a + 4 := by omega
theorem abs_Q {M : Model} {A : Around} {α : Type} {t : Sem α} {E : Value → Shared → Prop} {s : Shared} {Q : α → Shared → Prop} (P : (α → Shared → Prop) → Prop) (hQ : P Q) (h : ∀ (Q : α → Shared → Prop) (E : Value → Shared → Prop), P Q → wpAny M A t Q E s) : wpAny M A t Q E s := h Q E hQ
theorem law_ok : PySem.Challenge.rw_pb0226_01.Holds := hd (by
  k_go0
  (all_goals try k_fold)
  rename Fr _ _ _ _ => kF
  rename News _ _ _ _ => kN
  rename Below _ _ _ _ => kB
  rename Frag.In _ _ => kX
  rename Top topProg _ _ _ _ _ => kT
  rename CodeHd _ _ _ => kC
  rename Heap.IsList (ghostOf _ _) _ _ => kL
  generalize ghostOf _ _ = gh at kF kN kB kX kT kC kL
  rename Shared => s1
  refine abs_Q (fun Q => ∀ (h' : Heap) (tk' : Nat) (m' : Str → Option Value) (t' : Tok) (c1 c2 : Addr), Fr gh s1.heap.objs.size h' m' → News gh s1.heap.objs.size h' [(160, tabFull c1 c2)] → Q (.ret (.bool true)) { s1 with heap := h', toks := tk' }) ?_ ?_
  · intro h' tk' m' t' c1 c2 kF kN
    k_steps
  intro Q E hret
  rename 160 < _ => l160
  generalize s1.heap.objs.size = L9 at kF kN l160 hret ⊢
  k_steps
  unfold Stop
  rename News _ _ _ _ => N1
  have N2 := news_out2 N1
  refine' law_written_ok _ _ _ _ _ _ _ _ _ _ _ _ _ _ _ _ _ _ ?k1 ?k2 ?k3 N2 ?k5 ?kK ?kd ?ku ?hne ?kc ?_
  case k1 => k_asm
  case k2 => k_asm
  case k3 => k_asm
  case k5 => k_asm
  case kK => exact rfl
  case kd => first | decide | ktr_room
  case ku => first | decide | ktr_units
  case kc => kn_code
  case hne =>
    refine List.forall_mem_cons.mpr ⟨by k_ne, ?_⟩
    refine List.forall_mem_cons.mpr ⟨by k_ne, ?_⟩
    exact fun p h => nomatch h
  intro h2 tk2 c1 c2 oc1 oc2 kk1 kk2 lt1 lt2 lt3 F2 N3
  have ltA := lt1 _ (.head _)
  have ltB := lt1 _ (.tail _ (.head _))
  (try dsimp only at ltA ltB)
  have ltA2 := Nat.lt_trans ltA lt2
  have ltB2 := Nat.lt_trans ltB lt2
  have l161 : @LT.lt Nat _ 160 (L9 + 1) := Nat.lt_succ_of_lt l160
  have l162 : @LT.lt Nat _ 160 (L9 + 1 + 1) := Nat.lt_succ_of_lt l161
  have l163 : @LT.lt Nat _ (L9 + 1) (L9 + 1 + 1) := Nat.lt_succ_self _
  (try dsimp only)
  (try k_fold)
  k_steps
  unfold Stop
  rename News _ _ _ _ => N4
  refine' pen_ok _ _ _ _ _ _ _ _ _ _ _ _ _ _ _ _ _ _ ?k1 ?k2 ?k3 N4 ?k5 ?kK ?kd ?ku ?hl ?hi ?hn ?_
  case k1 => k_asm
  case k2 => k_asm
  case k3 => k_asm
  case k5 => k_asm
  case kK => exact rfl
  case kd => first | decide | ktr_room
  case ku => first | decide | ktr_units
  case hl => assumption
  case hi => assumption
  case hn => omega
  intro h3 tk3 P l nn u1 u2 us ks hUs hKs F3 N5 g1 g2 g3
  have hP5 := ne_five (P := P) (oa := tabFull c1 c2) (ob := oc1) (oc := oc2) (g2 _ (List.mem_of_getElem? (i := 0) rfl)) (g2 _ (List.mem_of_getElem? (i := 1) rfl)) (g2 _ (List.mem_of_getElem? (i := 2) rfl)) (g2 _ (List.mem_of_getElem? (i := 3) rfl)) (g2 _ (List.mem_of_getElem? (i := 4) rfl))
  have f0a := ne_nat (g1 _ (List.mem_of_getElem? (i := 0) rfl))
  have f0b := g2 _ (List.mem_of_getElem? (i := 0) rfl)
  have f1a := ne_nat (g1 _ (List.mem_of_getElem? (i := 1) rfl))
  have f1b := g2 _ (List.mem_of_getElem? (i := 1) rfl)
  have f2a := ne_nat (g1 _ (List.mem_of_getElem? (i := 2) rfl))
  have f2b := g2 _ (List.mem_of_getElem? (i := 2) rfl)
  have f3a := ne_nat (g1 _ (List.mem_of_getElem? (i := 3) rfl))
  have f3b := g2 _ (List.mem_of_getElem? (i := 3) rfl)
  have f4a := ne_nat (g1 _ (List.mem_of_getElem? (i := 4) rfl))
  have f4b := g2 _ (List.mem_of_getElem? (i := 4) rfl)
  (try dsimp only at f0a f0b f1a f1b f2a f2b f3a f3b f4a f4b hP5)
  clear g1 g2 lt1
  obtain ⟨m0, -, F3⟩ := ex_of F3
  (try dsimp only)
  (try k_fold)
  k_steps
  k_dflt (refine LCg.ListComp_U (F₀ := by k_asm) (by with_unfolding_all rfl) (by decide) (by rfl) (by decide) (by rfl) ?_)
  k_steps
  unfold Stop
  rename News _ _ _ _ => N6
  refine' draw_use hUs hKs ?a1 ?a2 ?a3 ?a4 ?a5 g3 ?a7 ?k1 ?k2 ?k3 N6 ?k5 ?kK ?kd ?ku ?_
  case a1 => decide
  case a2 => decide
  case a3 => decide
  case a4 => decide
  case a5 => decide
  case a7 => exact hP5 _ _
  case k1 => k_asm
  case k2 => k_asm
  case k3 => k_asm
  case k5 => k_asm
  case kK => exact rfl
  case kd => first | decide | ktr_room
  case ku => first | decide | ktr_units
  intro h4 tk4 n4 u3 u4 td4 k4 r4 d4 hd1 hd2 hd3 hd4 hd5 F4 N7
  obtain ⟨dn, rfl⟩ := Int.eq_ofNat_of_zero_le hd1
  (try dsimp only)
  (try k_fold)
  k_steps
  unfold Stop
  rename IsRange _ _ _ _ _ _ _ _ => hrg
  rename News _ _ _ _ => N8
  have hPR := pen_off (P := P) N8 (hP5 _ _)
  have hdn : dn ≤ 12 := by omega
  have hk4 : 0 ≤ k4 ∧ k4 ≤ 1 := ⟨hd3, hd4⟩
  clear hd1 hd2
  refine LCg.CompSrc.range (n := dn) rfl (by k_asm) N8 hrg (small_one (by decide) (by decide) (by omega) (by omega)) (by rw [rangeSize_nat]; omega) (Nat.le_trans hdn (by decide)) ?_
  intro g'
  refine rest_draws (P := P) (l := l) (fun _ => trivial) hd5 (fun i ys v I oI C oC D m₂ h tk E' k r t1 t2 np hi hk1 hk2 hr hv hC hx F' N' hne => ?_) (fun ys gs k r t1 t2 np hys hin hgl hk1 hk2 hr => ?_)
  · have hPT := hPR (I, oI) (C, oC) (D, LCg.lst ys) hne.1 hne.2.1 hne.2.2
    have hkb : 0 ≤ k ∧ k ≤ 60 := by omega
    clear hPR hk1 hk2 hk4 hd3 hd4 hi hne
    k_steps
    unfold Stop
    rename News _ _ _ _ => NA
    refine' draw_use hUs hKs ?a1 ?a2 hr ?a4 ?a5 g3 hPT ?k1 ?k2 ?k3 (news_swap3 NA) ?k5 ?kK ?kd ?ku ?_
    case a1 => exact hkb.1
    case a2 => exact Int.le_trans hkb.2 (by decide)
    case a4 => decide
    case a5 => decide
    case k1 => k_asm
    case k2 => k_asm
    case k3 => k_asm
    case k5 => k_asm
    case kK => exact rfl
    case kd => first | decide | ktr_room
    case ku => first | decide | ktr_units
    intro h5 tk5 n5 u5 u6 td5 k5 r5 d5 a51 a52 a53 a54 a55 F5 NB
    have b5 : 0 ≤ k5 ∧ k5 ≤ 61 := ⟨Int.le_trans hkb.1 a53, Int.le_trans a54 (Int.add_le_add_right hkb.2 1)⟩
    (try dsimp only)
    (try k_fold)
    k_steps
    unfold Stop
    rename News _ _ _ _ => NC
    refine' draw_use hUs hKs ?a1 ?a2 a55 ?a4 ?a5 g3 hPT ?k1 ?k2 ?k3 NC ?k5 ?kK ?kd ?ku ?_
    case a1 => exact b5.1
    case a2 => exact Int.le_trans b5.2 (by decide)
    case a4 => decide
    case a5 => decide
    case k1 => k_asm
    case k2 => k_asm
    case k3 => k_asm
    case k5 => k_asm
    case kK => exact rfl
    case kd => first | decide | ktr_room
    case ku => first | decide | ktr_units
    intro h6 tk6 n6 u7 u8 td6 k6 r6 d6 a61 a62 a63 a64 a65 F6 ND
    have b6 : 0 ≤ k6 ∧ k6 ≤ 62 := ⟨Int.le_trans b5.1 a63, Int.le_trans a64 (Int.add_le_add_right b5.2 1)⟩
    (try dsimp only)
    (try k_fold)
    k_steps
    unfold Stop
    rename News _ _ _ _ => NE
    refine' draw_use hUs hKs ?a1 ?a2 a65 ?a4 ?a5 g3 hPT ?k1 ?k2 ?k3 NE ?k5 ?kK ?kd ?ku ?_
    case a1 => exact b6.1
    case a2 => exact Int.le_trans b6.2 (by decide)
    case a4 => decide
    case a5 => decide
    case k1 => k_asm
    case k2 => k_asm
    case k3 => k_asm
    case k5 => k_asm
    case kK => exact rfl
    case kd => first | decide | ktr_room
    case ku => first | decide | ktr_units
    intro h7 tk7 n7 u9 u10 td7 k7 r7 d7 a71 a72 a73 a74 a75 F7 NF
    have b7 : 0 ≤ k7 ∧ k7 ≤ 63 := ⟨Int.le_trans b6.1 a73, Int.le_trans a74 (Int.add_le_add_right b6.2 1)⟩
    (try dsimp only)
    (try k_fold)
    k_steps
    unfold Stop
    rename News _ _ _ _ => NG
    rename _ ∧ _ ∧ _ ∧ _ ∧ _ ∧ _ => lG
    refine' pick_use hUs hKs ?a1 ?a2 a75 g3 ?hPr (.head _) ?x1 ?x2 ?k1 ?k2 ?k3 (news_swap1 NG) ?k5 ?kK ?kd ?ku ?_
    case hPr => exact List.forall_mem_cons.mpr ⟨Ne.symm (Nat.ne_of_lt lG.1), hPT⟩
    case a1 => exact b7.1
    case a2 => exact Int.le_trans b7.2 (by decide)
    case x1 => simp
    case x2 => simp
    case k1 => k_asm
    case k2 => k_asm
    case k3 => k_asm
    case k5 => k_asm
    case kK => exact rfl
    case kd => first | decide | ktr_room
    case ku => first | decide | ktr_units
    intro h8 tk8 n8 u11 u12 k8 r8 v8 hv8 a81 a82 a83 F8 NH
    (try dsimp only)
    (try k_fold)
    k_steps
    rename Fr _ _ _ _ => kF
    rename News _ _ _ _ => kN
    refine draw_end kF kN hv8 (plus_in a51 a52 (by decide) (by decide)) (plus_in a61 a62 (by decide) (by decide)) ⟨a71, a72⟩ ⟨by decide, by decide⟩ ⟨Int.le_trans a53 (Int.le_trans a63 (Int.le_trans a73 a81)), le_four a54 a64 a74 a82⟩ a83
  · have hPT := hPR
    unfold LCg.FinE
    intro D' h8 tk8 F8 NI o1'
    have hkb : 0 ≤ k ∧ k ≤ 60 := by omega
    have hgl : gs.length ≤ 12 := by omega
    have hg64 : gs.length ≤ 64 := Nat.le_trans hgl (by decide)
    clear o1' hPR hPT hk1 hk2 hk4 hd3 hd4 hdn
    (try dsimp only)
    (try k_fold)
    k_steps
    unfold Stop
    rename News _ _ _ _ => NJ
    have hgs : KBw.bInts (byteArr gs) = gs := KBa.ints_make hin
    refine' right_ok hUs hKs ?a1 ?a2 hr g3 ?hPr hgs ?hn (c1 := c1) (c2 := c2) (oc1 := oc1) (oc2 := oc2) ⟨List.mem_of_getElem? (i := 0) rfl, List.mem_of_getElem? (i := 1) rfl, List.mem_of_getElem? (i := 2) rfl, kk1, kk2⟩ _ _ _ _ _ _ _ _ _ _ _ _ _ _ _ _ _ ?k1 ?k2 ?k3 (news_tl NJ) ?k5 ?kK ?kd ?ku ?kc ?_
    case hPr => exact hP5 _ _
    case hn => exact hgl
    case a1 => exact hkb.1
    case a2 => exact Int.le_trans hkb.2 (by decide)
    case k1 => k_asm
    case k2 => k_asm
    case k3 => k_asm
    case k5 => k_asm
    case kK => exact rfl
    case kd => first | decide | ktr_room
    case ku => first | decide | ktr_units
    case kc => kn_code
    intro h9 tk9 n9 u13 u14 k9 r9 a91 a92 a93 F9 NK
    have b9 : 0 ≤ k9 ∧ k9 ≤ 62 := ⟨Int.le_trans hkb.1 a91, Int.le_trans a92 (Int.add_le_add_right hkb.2 2)⟩
    clear a91 a92 hkb
    (try dsimp only)
    (try k_fold)
    k_steps
    unfold Stop
    rename News _ _ _ _ => NL
    refine' draw_use hUs hKs ?a1 ?a2 a93 ?a4 ?a5 g3 ?hPr ?k1 ?k2 ?k3 (news_swap2 NL) ?k5 ?kK ?kd ?ku ?_
    case hPr =>
      iterate 2 refine List.forall_mem_cons.mpr ⟨by k_ne, ?_⟩
      exact hP5 _ _
    case a1 => exact b9.1
    case a2 => exact Int.le_trans b9.2 (by decide)
    case a4 => decide
    case a5 => decide
    case k1 => k_asm
    case k2 => k_asm
    case k3 => k_asm
    case k5 => k_asm
    case kK => exact rfl
    case kd => first | decide | ktr_room
    case ku => first | decide | ktr_units
    intro hA tkA nA u15 u16 tdA kA rA st aA1 aA2 aA3 aA4 aA5 FA NM
    obtain ⟨st, rfl⟩ := Int.eq_ofNat_of_zero_le aA1
    have hst2 : st < 26 := Int.ofNat_lt.mp aA2
    clear aA1 aA2 aA3 aA4 aA5 b9 a93 hr hd5 hP5
    (try dsimp only)
    (try k_fold)
    k_steps
    unfold Stop
    rename News _ _ _ _ => NO
    have NO := news_tl (news_tl (news_tl NO))
    refine' law_converted_hit (ks := gs) (ws := greatL) (gs := smallL) (bf := none) (af := none) hgs hg64 (by decide) rfl (c1 := c1) (c2 := c2) (oc1 := oc1) (oc2 := oc2) ⟨List.mem_of_getElem? (i := 2) rfl, List.mem_of_getElem? (i := 3) rfl, List.mem_of_getElem? (i := 4) rfl, kk1, kk2⟩ (.text (List.mem_of_getElem? (i := 0) rfl) rfl) (.text (List.mem_of_getElem? (i := 1) rfl) rfl) rfl rfl _ _ _ _ _ _ _ _ _ _ _ _ _ _ _ _ _ ?k1 ?k2 ?k3 NO ?k5 ?kK ?kd ?ku ?kc ?_
    case k1 => k_asm
    case k2 => k_asm
    case k3 => k_asm
    case k5 => k_asm
    case kK => exact rfl
    case kd => first | decide | ktr_room
    case ku => first | decide | ktr_units
    case kc => kn_code
    intro tB hB tkB FB NP
    have hlI : KBa.In (convL greatL smallL (sb gs none) (se gs none) gs) := convL_in hin (by decide)
    have hlL : (convL greatL smallL (sb gs none) (se gs none) gs).length = gs.length := convL_length
    have hlM : convL greatL smallL (sb gs none) (se gs none) gs = gs.map fun k => if 65 ≤ k ∧ k ≤ 90 then k + 32 else k := by
      rw [convL_full]
      exact List.map_congr_left fun k _ => low_at k
    have hlB := KBa.ints_make hlI
    generalize hlow : convL greatL smallL (sb gs none) (se gs none) gs = low at hlI hlL hlM hlB ⊢
    (try dsimp only)
    (try k_fold)
    k_steps
    unfold Stop
    k_dflt (refine ListComp_B (F₀ := by k_asm) (by with_unfolding_all rfl) (by decide) (by rfl) (by decide) (by rfl) ?_)
    k_steps
    rename News _ _ _ _ => NQ
    refine srcB hgs rfl (by k_asm) NQ hg64 (fun g' => ?_)
    refine rest_intsN (gs.map fun k => if 65 ≤ k ∧ k ≤ 90 then k + 32 else k) (by simp) trivial (fun i ys v kk I oI C oC D m₂ h tk E' hk hv hC hx F' N' => ?_) (fun ys hys => ?_)
    · obtain ⟨k0, u0, hk0, rfl⟩ := hv
      rw [List.getElem?_map, hk0] at hk
      have hk := Option.some.inj hk
      (try dsimp only at hk)
      k_steps
      all_goals (rename Fr _ _ _ _ => kF; rename News _ _ _ _ => kN; refine int_end (own := []) kF kN ?_; rw [← hk]; first | rw [if_pos ⟨by assumption, by assumption⟩] | rw [if_neg (fun h => absurd h.1 (by assumption))] | rw [if_neg (fun h => absurd h.2 (by assumption))])
    · rw [← hlM] at hys
      unfold LCg.FinE
      intro D2 hC tkC FC NR o2
      clear o2
      (try dsimp only)
      (try k_fold)
      k_steps
      all_goals try (rename (_ != _) = true => hx9; exact absurd hx9 (by simp))
      unfold Stop
      rename News _ _ _ _ => NS
      have NS := news_tl NS
      refine' law_converted_hit (ks := low) (ws := smallL) (gs := greatL) (bf := none) (af := none) hlB (Nat.le_trans (Nat.le_of_eq hlL) hg64) (by decide) rfl (c1 := c1) (c2 := c2) (oc1 := oc1) (oc2 := oc2) ⟨List.mem_of_getElem? (i := 2) rfl, List.mem_of_getElem? (i := 3) rfl, List.mem_of_getElem? (i := 4) rfl, kk1, kk2⟩ (.text (List.mem_of_getElem? (i := 1) rfl) rfl) (.text (List.mem_of_getElem? (i := 0) rfl) rfl) rfl rfl _ _ _ _ _ _ _ _ _ _ _ _ _ _ _ _ _ ?k1 ?k2 ?k3 NS ?k5 ?kK ?kd ?ku ?kc ?_
      case k1 => k_asm
      case k2 => k_asm
      case k3 => k_asm
      case k5 => k_asm
      case kK => exact rfl
      case kd => first | decide | ktr_room
      case ku => first | decide | ktr_units
      case kc => kn_code
      intro tD hD9 tkD FD NT
      have hmI : KBa.In (convL smallL greatL (sb low none) (se low none) low) := convL_in hlI (by decide)
      have hmL : (convL smallL greatL (sb low none) (se low none) low).length = low.length := convL_length
      have hmB := KBa.ints_make hmI
      generalize hmid : convL smallL greatL (sb low none) (se low none) low = mid at hmI hmL hmB ⊢
      (try dsimp only)
      (try k_fold)
      k_steps
      all_goals try (rename (_ != _) = true => hx9; exact absurd hx9 (by simp))
      unfold Stop
      rename News _ _ _ _ => NU
      refine' law_converted_hit (ks := mid) (ws := greatL) (gs := smallL) (bf := none) (af := none) hmB (Nat.le_trans (Nat.le_of_eq (hmL.trans hlL)) hg64) (by decide) rfl (c1 := c1) (c2 := c2) (oc1 := oc1) (oc2 := oc2) ⟨List.mem_of_getElem? (i := 2) rfl, List.mem_of_getElem? (i := 3) rfl, List.mem_of_getElem? (i := 4) rfl, kk1, kk2⟩ (.text (List.mem_of_getElem? (i := 0) rfl) rfl) (.text (List.mem_of_getElem? (i := 1) rfl) rfl) rfl rfl _ _ _ _ _ _ _ _ _ _ _ _ _ _ _ _ _ ?k1 ?k2 ?k3 NU ?k5 ?kK ?kd ?ku ?kc ?_
      case k1 => k_asm
      case k2 => k_asm
      case k3 => k_asm
      case k5 => k_asm
      case kK => exact rfl
      case kd => first | decide | ktr_room
      case ku => first | decide | ktr_units
      case kc => kn_code
      intro tE hE tkE FE NV
      rw [convL_back low mid hlow.symm hmid.symm]
      (try dsimp only)
      (try k_fold)
      k_steps
      all_goals try (rename (_ != _) = true => hx9; exact absurd hx9 (by simp))
      rename Fr _ _ _ _ => kF
      rename News _ _ _ _ => kN
      have hst : st ≤ smallL.length := Nat.le_of_lt hst2
      k_dflt (refine KBc.slice_K (ks := smallL) (s := ⟨_, _, _, _, _⟩) kF kN (by rfl) (by constructor) (by constructor) (by decide) ?_)
      intro hG tG tkG FG NW hsl1
      have e1 := hsl1.trans (cut_hi hst)
      clear hsl1
      revert e1
      generalize KBy.picked _ _ _ = b1
      intro e1
      (try dsimp only)
      (try k_fold)
      k_steps
      all_goals try (rename (_ != _) = true => hx9; exact absurd hx9 (by simp))
      rename Fr _ _ _ _ => kF
      rename News _ _ _ _ => kN
      k_dflt (refine KBc.slice_K (ks := smallL) (s := ⟨_, _, _, _, _⟩) kF kN (by rfl) (by constructor) (by constructor) (by decide) ?_)
      intro hH tH tkH FH NX hsl2
      have e2 := hsl2.trans (cut_lo hst)
      clear hsl2
      revert e2
      generalize KBy.picked _ _ _ = b2
      intro e2
      (try dsimp only)
      (try k_fold)
      k_steps
      all_goals try (rename (_ != _) = true => hx9; exact absurd hx9 (by simp))
      k_dflt (refine KBa.add_K e1 e2 (by rw [← List.length_append]; exact Nat.le_trans (Nat.le_of_eq (rot_length hst2)) (by decide)) ?_)
      intro tI tkI e3
      revert e3
      generalize b1 ++ b2 = b3
      intro e3
      have e3 : KBw.bInts b3 = rotL st := e3
      (try dsimp only)
      (try k_fold)
      k_steps
      all_goals try (rename (_ != _) = true => hx9; exact absurd hx9 (by simp))
      unfold Stop
      have hrL : (rotL st).length = 26 := rot_length hst2
      rename News _ _ _ _ => NY
      refine' law_converted_hit (ks := gs) (ws := smallL) (gs := rotL st) (bf := none) (af := none) hgs hg64 (by decide) hrL.symm (c1 := c1) (c2 := c2) (oc1 := oc1) (oc2 := oc2) ⟨List.mem_of_getElem? (i := 3) rfl, List.mem_of_getElem? (i := 4) rfl, List.mem_of_getElem? (i := 5) rfl, kk1, kk2⟩ (.text (List.mem_of_getElem? (i := 2) rfl) rfl) (.text (List.mem_of_getElem? (i := 0) rfl) e3) rfl rfl _ _ _ _ _ _ _ _ _ _ _ _ _ _ _ _ _ ?k1 ?k2 ?k3 NY ?k5 ?kK ?kd ?ku ?kc ?_
      case k1 => k_asm
      case k2 => k_asm
      case k3 => k_asm
      case k5 => k_asm
      case kK => exact rfl
      case kd => first | decide | ktr_room
      case ku => first | decide | ktr_units
      case kc => kn_code
      intro tJ hJ9 tkJ FJ NZ
      have hoI : KBa.In (convL smallL (rotL st) (sb gs none) (se gs none) gs) := convL_in hin rot_in
      have hoL : (convL smallL (rotL st) (sb gs none) (se gs none) gs).length = gs.length := convL_length
      have hoM : convL smallL (rotL st) (sb gs none) (se gs none) gs = gs.map fun k => turnI k 97 st := by
        rw [convL_full]
        exact List.map_congr_left fun k _ => rot_at hst2 k
      have hoB := KBa.ints_make hoI
      have hoR : convL (rotL st) smallL (sb (convL smallL (rotL st) (sb gs none) (se gs none) gs) none) (se (convL smallL (rotL st) (sb gs none) (se gs none) gs) none) (convL smallL (rotL st) (sb gs none) (se gs none) gs) = gs := convL_rot_back hst2
      generalize convL smallL (rotL st) (sb gs none) (se gs none) gs = one at hoI hoL hoM hoB hoR ⊢
      (try dsimp only)
      (try k_fold)
      k_steps
      all_goals try (rename (_ != _) = true => hx9; exact absurd hx9 (by simp))
      unfold Stop
      k_dflt (refine ListComp_B (F₀ := by k_asm) (by with_unfolding_all rfl) (by decide) (by rfl) (by decide) (by rfl) ?_)
      k_steps
      all_goals try (rename (_ != _) = true => hx9; exact absurd hx9 (by simp))
      rename News _ _ _ _ => NZ
      refine srcB hgs rfl (by k_asm) NZ hg64 (fun g' => ?_)
      refine rest_intsN (gs.map fun k => turnI k 97 st) (by simp) trivial (fun i ys v kk I oI C oC D m₂ h tk E' hk hv hC hx F' N' => ?_) (fun ys hys => ?_)
      · obtain ⟨k0, u0, hk0, rfl⟩ := hv
        rw [List.getElem?_map, hk0] at hk
        have hk := Option.some.inj hk
        (try dsimp only at hk)
        k_steps
        all_goals try (rename (_ != _) = true => hx9; exact absurd hx9 (by simp))
        all_goals (rename Fr _ _ _ _ => kF; rename News _ _ _ _ => kN; exact int_end (own := []) kF kN hk)
      · rw [← hoM] at hys
        unfold LCg.FinE
        intro D3 hK tkK FK Na o3
        clear o3
        (try dsimp only)
        (try k_fold)
        k_steps
        all_goals try (rename (_ != _) = true => hx9; exact absurd hx9 (by simp))
        unfold Stop
        rename News _ _ _ _ => Nb
        have Nb := news_tl Nb
        refine' law_converted_hit (ks := one) (ws := rotL st) (gs := smallL) (bf := none) (af := none) hoB (Nat.le_trans (Nat.le_of_eq hoL) hg64) (Nat.le_trans (Nat.le_of_eq hrL) (by decide)) hrL (c1 := c1) (c2 := c2) (oc1 := oc1) (oc2 := oc2) ⟨List.mem_of_getElem? (i := 3) rfl, List.mem_of_getElem? (i := 4) rfl, List.mem_of_getElem? (i := 5) rfl, kk1, kk2⟩ (.text (List.mem_of_getElem? (i := 0) rfl) e3) (.text (List.mem_of_getElem? (i := 2) rfl) rfl) rfl rfl _ _ _ _ _ _ _ _ _ _ _ _ _ _ _ _ _ ?k1 ?k2 ?k3 Nb ?k5 ?kK ?kd ?ku ?kc ?_
        case k1 => k_asm
        case k2 => k_asm
        case k3 => k_asm
        case k5 => k_asm
        case kK => exact rfl
        case kd => first | decide | ktr_room
        case ku => first | decide | ktr_units
        case kc => kn_code
        intro tL hL9 tkL FL Nc
        rw [hoR]
        (try dsimp only)
        (try k_fold)
        k_steps
        all_goals try (rename (_ != _) = true => hx9; exact absurd hx9 (by simp))
        unfold Stop
        rename News _ _ _ _ => Nd
        refine' law_converted_hit (ks := gs) (ws := smallL) (gs := List.replicate 26 32) (bf := none) (af := none) hgs hg64 (by decide) (by decide) (c1 := c1) (c2 := c2) (oc1 := oc1) (oc2 := oc2) ⟨List.mem_of_getElem? (i := 4) rfl, List.mem_of_getElem? (i := 5) rfl, List.mem_of_getElem? (i := 6) rfl, kk1, kk2⟩ (.text (List.mem_of_getElem? (i := 3) rfl) rfl) (.space (List.mem_of_getElem? (i := 0) rfl) (by decide) (by decide)) rfl rfl _ _ _ _ _ _ _ _ _ _ _ _ _ _ _ _ _ ?k1 ?k2 ?k3 Nd ?k5 ?kK ?kd ?ku ?kc ?_
        case k1 => k_asm
        case k2 => k_asm
        case k3 => k_asm
        case k5 => k_asm
        case kK => exact rfl
        case kd => first | decide | ktr_room
        case ku => first | decide | ktr_units
        case kc => kn_code
        intro tM hM9 tkM FM Ne
        have hsI : KBa.In (convL smallL (List.replicate 26 32) (sb gs none) (se gs none) gs) := convL_in hin (by decide)
        have hsL : (convL smallL (List.replicate 26 32) (sb gs none) (se gs none) gs).length = gs.length := convL_length
        have hsM : convL smallL (List.replicate 26 32) (sb gs none) (se gs none) gs = gs.map fun k => if 97 ≤ k ∧ k ≤ 122 then 32 else k := by
          rw [convL_full]
          exact List.map_congr_left fun k _ => space_at k
        have hsB := KBa.ints_make hsI
        generalize convL smallL (List.replicate 26 32) (sb gs none) (se gs none) gs = blank at hsI hsL hsM hsB ⊢
        (try dsimp only)
        (try k_fold)
        k_steps
        all_goals try (rename (_ != _) = true => hx9; exact absurd hx9 (by simp))
        unfold Stop
        k_dflt (refine ListComp_B (F₀ := by k_asm) (by with_unfolding_all rfl) (by decide) (by rfl) (by decide) (by rfl) ?_)
        k_steps
        all_goals try (rename (_ != _) = true => hx9; exact absurd hx9 (by simp))
        rename News _ _ _ _ => Nf
        refine srcB hgs rfl (by k_asm) Nf hg64 (fun g' => ?_)
        refine rest_intsN (gs.map fun k => if 97 ≤ k ∧ k ≤ 122 then 32 else k) (by simp) trivial (fun i ys v kk I oI C oC D m₂ h tk E' hk hv hC hx F' N' => ?_) (fun ys hys => ?_)
        · obtain ⟨k0, u0, hk0, rfl⟩ := hv
          rw [List.getElem?_map, hk0] at hk
          have hk := Option.some.inj hk
          (try dsimp only at hk)
          k_steps
          all_goals try (rename (_ != _) = true => hx9; exact absurd hx9 (by simp))
          all_goals (rename Fr _ _ _ _ => kF; rename News _ _ _ _ => kN; refine int_end (own := []) kF kN ?_; rw [← hk]; first | rw [if_pos ⟨by assumption, by assumption⟩] | rw [if_neg (fun h => absurd h.1 (by assumption))] | rw [if_neg (fun h => absurd h.2 (by assumption))])
        · rw [← hsM] at hys
          unfold LCg.FinE
          intro D4 hN tkN FN Ng o4
          clear o4
          (try dsimp only)
          (try k_fold)
          k_steps
          all_goals try (rename (_ != _) = true => hx9; exact absurd hx9 (by simp))
          rename Fr _ _ _ _ => kF
          rename News _ _ _ _ => kN
          rw [beq_self_eq_true]
          exact hret _ _ _ tM c1 c2 kF (fun p hp => by
            rw [List.mem_singleton.mp hp]
            exact kN _ (List.mem_of_getElem? (i := 5) rfl)))
end
end
end
end Mine
theorem PySem.Challenge.cw_pb0226_01_holds : PySem.Challenge.rw_pb0226_01.Holds :=
  Mine.law_ok
