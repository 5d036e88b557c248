import PyProof.Rows.All
import Wide.All
import OpenK.AllK
import Wide.FinOn
import PySem.Challenge.RW_no0355_01
set_option Elab.async false
set_option maxRecDepth 100000
set_option maxHeartbeats 8000000
set_option linter.unusedVariables false
set_option compiler.extract_closed false
open PySem PySem.W PyProof.Rows PySem.Spec PySem.Calls
namespace Mine
section
/- T0 -/
noncomputable def topView : Program := PySem.W.view PySem.Challenge.rw_no0355_01.row.toRowW.prog
  [1, 2, 4, 5, 6, 7, 8, 9, 10, 11, 12, 13, 14, 15, 16, 18, 19, 20, 21, 23, 24, 25, 26, 27, 28, 29, 30, 31, 32]
local macro_rules | `(tactic| w_on) => `(tactic| skip)
local macro_rules | `(tactic| o_law) => `(tactic| refine holds_law (by decide +kernel) fun said => ?_)
local macro_rules | `(tactic| o_head $H) => `(tactic| (
  refine holds_open (q := topView) (loose := [Str.ofString "PostError", Str.ofString "quoted_encoded"])
    (Xt := fun s => xlAt topView [] s && recOk (RowW.records PySem.Challenge.rw_no0355_01.row.toRowW) s) (XP := XL topView [])
    (Yf := Hook.obs $H) (Ya := Hook.val $H) (YP := Hook.says $H) (N := 2568) ?hl (Hook.of $H) (Hook.keeps $H)
    (fun s e => xl_of s (Bool.and_eq_true_iff.mp e).1) XL.keeps (by rfl) (by rfl) (by rfl)
    (fun s e => recFacts_of (Bool.and_eq_true_iff.mp e).2) (by rfl) (by assumption) (by decide +kernel)
    ⟨rfl, rfl, rfl, rfl, rfl, by decide +kernel⟩ ?hw ?hc
  (case hl => exact fun w => by kernel_rfl)))
open_top hd for PySem.Challenge.rw_no0355_01
end
section
/- R0 -/
theorem owner_str : Manifest.owners.lookup (String.ofList ['r', 't', 's'].reverse) = some Manifest.sig_str := by kernel_rfl
theorem slot_bytes_find : Slot "bytes" "find" "bytes.find" :=
  .of (owner := "bytes") (n := "find") (by rw [typeLookup_type, builtinLookup_eq_fast]; kernel_rfl) (by decide +kernel) (by decide +kernel) (by decide +kernel)
    (by first | exact .inl (by decide +kernel) | exact .inr (by decide +kernel)) (by rw [isSubtype_type]; kernel_rfl)
theorem type_bytes_find : typeOf (.builtin "bytes.find") = pure (.type "method_descriptor") := by show builtinType _ = _; rw [builtinType_eq_fast]; kernel_rfl
theorem entry_bytes_find : entryFor table "bytes.find" = some Builtin.«bytes.find» := entryFor_of_tree (by kernel_rfl)
theorem args_bytes_find_2 (a b : Value) : argsOk "bytes.find" ⟨[a, b], []⟩ := by
  unfold argsOk; rw [signature?_of (id := "bytes.find") (n := ['d', 'n', 'i', 'f']) (o := ['s', 'e', 't', 'y', 'b']) (by kernel_rfl) PySem.W.FB.owner_bytes]; kernel_rfl
theorem args_bytes_find_3 (a b c : Value) : argsOk "bytes.find" ⟨[a, b, c], []⟩ := by
  unfold argsOk; rw [signature?_of (id := "bytes.find") (n := ['d', 'n', 'i', 'f']) (o := ['s', 'e', 't', 'y', 'b']) (by kernel_rfl) PySem.W.FB.owner_bytes]; kernel_rfl
theorem slot_bytes_index : Slot "bytes" "index" "bytes.index" :=
  .of (owner := "bytes") (n := "index") (by rw [typeLookup_type, builtinLookup_eq_fast]; kernel_rfl) (by decide +kernel) (by decide +kernel) (by decide +kernel)
    (by first | exact .inl (by decide +kernel) | exact .inr (by decide +kernel)) (by rw [isSubtype_type]; kernel_rfl)
theorem type_bytes_index : typeOf (.builtin "bytes.index") = pure (.type "method_descriptor") := by show builtinType _ = _; rw [builtinType_eq_fast]; kernel_rfl
theorem entry_bytes_index : entryFor table "bytes.index" = some Builtin.«bytes.index» := entryFor_of_tree (by kernel_rfl)
theorem args_bytes_index_2 (a b : Value) : argsOk "bytes.index" ⟨[a, b], []⟩ := by
  unfold argsOk; rw [signature?_of (id := "bytes.index") (n := ['x', 'e', 'd', 'n', 'i']) (o := ['s', 'e', 't', 'y', 'b']) (by kernel_rfl) PySem.W.FB.owner_bytes]; kernel_rfl
theorem slot_bytes_split : Slot "bytes" "split" "bytes.split" :=
  .of (owner := "bytes") (n := "split") (by rw [typeLookup_type, builtinLookup_eq_fast]; kernel_rfl) (by decide +kernel) (by decide +kernel) (by decide +kernel)
    (by first | exact .inl (by decide +kernel) | exact .inr (by decide +kernel)) (by rw [isSubtype_type]; kernel_rfl)
theorem type_bytes_split : typeOf (.builtin "bytes.split") = pure (.type "method_descriptor") := by show builtinType _ = _; rw [builtinType_eq_fast]; kernel_rfl
theorem entry_bytes_split : entryFor table "bytes.split" = some Builtin.«bytes.split» := entryFor_of_tree (by kernel_rfl)
theorem args_bytes_split_2 (a b : Value) : argsOk "bytes.split" ⟨[a, b], []⟩ := by
  unfold argsOk; rw [signature?_of (id := "bytes.split") (n := ['t', 'i', 'l', 'p', 's']) (o := ['s', 'e', 't', 'y', 'b']) (by kernel_rfl) PySem.W.FB.owner_bytes]; kernel_rfl
theorem slot_bytes_join : Slot "bytes" "join" "bytes.join" :=
  .of (owner := "bytes") (n := "join") (by rw [typeLookup_type, builtinLookup_eq_fast]; kernel_rfl) (by decide +kernel) (by decide +kernel) (by decide +kernel)
    (by first | exact .inl (by decide +kernel) | exact .inr (by decide +kernel)) (by rw [isSubtype_type]; kernel_rfl)
theorem type_bytes_join : typeOf (.builtin "bytes.join") = pure (.type "method_descriptor") := by show builtinType _ = _; rw [builtinType_eq_fast]; kernel_rfl
theorem entry_bytes_join : entryFor table "bytes.join" = some Builtin.«bytes.join» := entryFor_of_tree (by kernel_rfl)
theorem args_bytes_join_2 (a b : Value) : argsOk "bytes.join" ⟨[a, b], []⟩ := by
  unfold argsOk; rw [signature?_of (id := "bytes.join") (n := ['n', 'i', 'o', 'j']) (o := ['s', 'e', 't', 'y', 'b']) (by kernel_rfl) PySem.W.FB.owner_bytes]; kernel_rfl
theorem slot_bytes_rstrip : Slot "bytes" "rstrip" "bytes.rstrip" :=
  .of (owner := "bytes") (n := "rstrip") (by rw [typeLookup_type, builtinLookup_eq_fast]; kernel_rfl) (by decide +kernel) (by decide +kernel) (by decide +kernel)
    (by first | exact .inl (by decide +kernel) | exact .inr (by decide +kernel)) (by rw [isSubtype_type]; kernel_rfl)
theorem type_bytes_rstrip : typeOf (.builtin "bytes.rstrip") = pure (.type "method_descriptor") := by show builtinType _ = _; rw [builtinType_eq_fast]; kernel_rfl
theorem entry_bytes_rstrip : entryFor table "bytes.rstrip" = some Builtin.«bytes.rstrip» := entryFor_of_tree (by kernel_rfl)
theorem args_bytes_rstrip_2 (a b : Value) : argsOk "bytes.rstrip" ⟨[a, b], []⟩ := by
  unfold argsOk; rw [signature?_of (id := "bytes.rstrip") (n := ['p', 'i', 'r', 't', 's', 'r']) (o := ['s', 'e', 't', 'y', 'b']) (by kernel_rfl) PySem.W.FB.owner_bytes]; kernel_rfl
theorem slot_bytes_lower : Slot "bytes" "lower" "bytes.lower" :=
  .of (owner := "bytes") (n := "lower") (by rw [typeLookup_type, builtinLookup_eq_fast]; kernel_rfl) (by decide +kernel) (by decide +kernel) (by decide +kernel)
    (by first | exact .inl (by decide +kernel) | exact .inr (by decide +kernel)) (by rw [isSubtype_type]; kernel_rfl)
theorem type_bytes_lower : typeOf (.builtin "bytes.lower") = pure (.type "method_descriptor") := by show builtinType _ = _; rw [builtinType_eq_fast]; kernel_rfl
theorem entry_bytes_lower : entryFor table "bytes.lower" = some Builtin.«bytes.lower» := entryFor_of_tree (by kernel_rfl)
theorem args_bytes_lower_1 (a : Value) : argsOk "bytes.lower" ⟨[a], []⟩ := by
  unfold argsOk; rw [signature?_of (id := "bytes.lower") (n := ['r', 'e', 'w', 'o', 'l']) (o := ['s', 'e', 't', 'y', 'b']) (by kernel_rfl) PySem.W.FB.owner_bytes]; kernel_rfl
theorem slot_bytes_mul : Slot "bytes" (dunder "mul") "bytes.__mul__" :=
  .of (owner := "bytes") (n := "__mul__") (by rw [typeLookup_type, builtinLookup_eq_fast]; kernel_rfl) (by decide +kernel) (by decide +kernel) (by decide +kernel)
    (by first | exact .inl (by decide +kernel) | exact .inr (by decide +kernel)) (by rw [isSubtype_type]; kernel_rfl)
theorem entry_bytes_mul : entryFor table "bytes.__mul__" = some Builtin.«bytes.__mul__» := entryFor_of_tree (by kernel_rfl)
theorem args_bytes_mul_2 (a b : Value) : argsOk "bytes.__mul__" ⟨[a, b], []⟩ := by
  unfold argsOk; rw [signature?_of (id := "bytes.__mul__") (n := ['_', '_', 'l', 'u', 'm', '_', '_']) (o := ['s', 'e', 't', 'y', 'b']) (by kernel_rfl) PySem.W.FB.owner_bytes]; kernel_rfl
theorem slot_str_encode : Slot "str" "encode" "str.encode" :=
  .of (owner := "str") (n := "encode") (by rw [typeLookup_type, builtinLookup_eq_fast]; kernel_rfl) (by decide +kernel) (by decide +kernel) (by decide +kernel)
    (by first | exact .inl (by decide +kernel) | exact .inr (by decide +kernel)) (by rw [isSubtype_type]; kernel_rfl)
theorem type_str_encode : typeOf (.builtin "str.encode") = pure (.type "method_descriptor") := by show builtinType _ = _; rw [builtinType_eq_fast]; kernel_rfl
theorem entry_str_encode : entryFor table "str.encode" = some Builtin.«str.encode» := entryFor_of_tree (by kernel_rfl)
theorem args_str_encode_2 (a b : Value) : argsOk "str.encode" ⟨[a, b], []⟩ := by
  unfold argsOk; rw [signature?_of (id := "str.encode") (n := ['e', 'd', 'o', 'c', 'n', 'e']) (o := ['r', 't', 's']) (by kernel_rfl) owner_str]; kernel_rfl
end
section
/- R1 -/
open Builtin

theorem special_int {k : Int} {v : Tok} : specialOf (.int k v) "__index__" = pure (some (.builtin "int.__index__")) := by
  have e : specialOf (.int k v) "__index__" = typeLookup (.type "int") "__index__" := rfl
  rw [e, F.slot_int_index.lookup]

theorem bound_int {k : Int} {v : Tok} : Bytes.bound? (some (.int k v)) = pure (some k) := by
  unfold Bytes.bound?
  dsimp only
  rw [special_int]
  rfl
theorem self_some3 {id : String} {a b c : Value} : selfAndSome id "find" 1 3 ⟨[a, b, c], []⟩ = pure (a, [b, c]) := rfl
theorem self_some2 {id : String} {a b : Value} : selfAndSome id "find" 1 3 ⟨[a, b], []⟩ = pure (a, [b]) := rfl
theorem self_some2i {id : String} {a b : Value} : selfAndSome id "index" 1 3 ⟨[a, b], []⟩ = pure (a, [b]) := rfl
theorem payload_b {b : Array UInt8} {t : Tok} : Bytes.payload (.bytes b t) = pure b := rfl
theorem find_args3 {b c : Array UInt8} {t u v : Tok} {k : Int} : Bytes.searchArgs .bytes "find" ⟨[.bytes b t, .bytes c u, .int k v], []⟩ =
    pure (b, c, if (Bytes.window b.size (some k) none).2 - (Bytes.window b.size (some k) none).1 < c.size then none else some ((Bytes.window b.size (some k) none).1.toNat, (Bytes.window b.size (some k) none).2.toNat)) := by
  unfold Bytes.searchArgs
  simp only [self_some3, pure_bind, List.getElem?_cons_succ, List.getElem?_cons_zero, List.getElem?_nil, List.headD_cons, bound_int, KBy.buffer_eq, payload_b]
  rfl
theorem find_args2 {b c : Array UInt8} {t u : Tok} : Bytes.searchArgs .bytes "find" ⟨[.bytes b t, .bytes c u], []⟩ =
    pure (b, c, if (Bytes.window b.size none none).2 - (Bytes.window b.size none none).1 < c.size then none else some ((Bytes.window b.size none none).1.toNat, (Bytes.window b.size none none).2.toNat)) := by
  unfold Bytes.searchArgs
  simp only [self_some2, pure_bind, List.getElem?_cons_succ, List.getElem?_nil, List.headD_cons, KBy.buffer_eq, payload_b]
  rfl
theorem look_int_buffer : typeLookup (.type "int") "__buffer__" = pure none := by rw [typeLookup_type, builtinLookup_eq_fast]; kernel_rfl
theorem special_int_buffer {k : Int} {v : Tok} : specialOf (.int k v) "__buffer__" = pure none := by
  have e : specialOf (.int k v) "__buffer__" = typeLookup (.type "int") "__buffer__" := rfl
  rw [e, look_int_buffer]
theorem buffer_int {k : Int} {v : Tok} {id : String} : Bytes.buffer? id (.int k v) = pure none := by
  unfold Bytes.buffer?
  rw [special_int_buffer]
  rfl
theorem index_held {b : Array UInt8} {t v : Tok} {k : Int} : Bytes.indexHeld [.bytes b t] (.int k v) = pure k := rfl
theorem index_args2 {b : Array UInt8} {t v : Tok} {k : Int} (h0 : 0 ≤ k) (h1 : k < 256) : Bytes.searchArgs .bytes "index" ⟨[.bytes b t, .int k v], []⟩ =
    pure (b, #[k.toNat.toUInt8], if (Bytes.window b.size none none).2 - (Bytes.window b.size none none).1 < (1 : Nat) then none else some ((Bytes.window b.size none none).1.toNat, (Bytes.window b.size none none).2.toNat)) := by
  unfold Bytes.searchArgs
  have e : (decide (k < 0) || decide (k ≥ 256)) = false := by simp; omega
  simp only [self_some2i, pure_bind, List.getElem?_cons_succ, List.getElem?_nil, List.headD_cons, buffer_int, special_int, Option.isNone_some, Bool.false_eq_true, if_false, index_held, e, payload_b]
  rfl

/-- where the sign c stands in octets from the place k on, -1 for nowhere -/
noncomputable def findFrom (x : List UInt8) (c : UInt8) (k : Nat) : Int := match (x.drop k).findIdx? (· == c) with
  | some i => ((k + i : Nat) : Int)
  | none => -1

theorem findQ_one (x : List UInt8) (c : UInt8) (k : Nat) :
    Bytes.find? x.toArray #[c] k x.length = ((x.drop k).findIdx? (· == c)).map (k + ·) := by
  unfold Bytes.find?
  have e : x.length + 1 - (k + (#[c] : Array UInt8).size) = (x.drop k).length := by simp
  rw [e, List.find?_map]
  have e2 : ((fun i => x.toArray.extract i (i + (#[c] : Array UInt8).size) == #[c]) ∘ fun j => j + k) = fun i => decide ((x.drop k)[i]? = some c) := by
    funext i
    simp only [Function.comp_apply, List.getElem?_drop, List.extract_toArray, List.size_toArray, List.length_cons, List.length_nil]
    rw [Nat.add_comm k i]
    have : (i + k + (0 + 1)) - (i + k) = 1 := by omega
    simp only [List.extract_eq_take_drop]
    rw [this]
    cases h : x[i + k]? with
    | none =>
      have hl : x.length ≤ i + k := by
        rcases Nat.lt_or_ge (i + k) x.length with h2 | h2
        · rw [List.getElem?_eq_getElem h2] at h; cases h
        · exact h2
      rw [List.drop_eq_nil_of_le hl]
      simp
    | some d =>
      obtain ⟨hl, rfl⟩ := List.getElem?_eq_some_iff.mp h
      have e3 : List.take 1 (List.drop (i + k) x) = [x[i + k]] := by rw [List.drop_eq_getElem_cons hl]; rfl
      rw [e3]
      by_cases h9 : x[i + k] = c
      · simp [h9]
      · simp [h9]
  rw [e2]
  generalize x.drop k = y
  rw [show (fun j => j + k) = (fun j => k + j) from funext fun j => Nat.add_comm j k]
  congr 1
  induction y with
  | nil => rfl
  | cons d r ih =>
    rw [List.length_cons, List.range_succ_eq_map, List.find?_cons, List.findIdx?_cons]
    by_cases hd : d = c
    · subst hd; simp
    · have h2 : (d == c) = false := by simpa using hd
      simp only [List.getElem?_cons_zero, Option.some.injEq, hd, decide_false, h2, Bool.false_eq_true, if_false]
      rw [List.find?_map, ← ih]
      rfl

theorem window_of (n k : Nat) : Bytes.window n (some (k : Int)) none = ((k : Int), (n : Int)) := by
  unfold Bytes.window
  simp only [Option.getD_some, Option.getD_none]
  rw [if_neg (by omega), if_neg (by omega), Int.min_def]
  simp
theorem window_all (n : Nat) : Bytes.window n none none = ((0 : Int), (n : Int)) := by
  unfold Bytes.window
  simp only [Option.getD_none]
  rw [if_neg (by omega), if_neg (by omega), Int.min_def]
  simp

theorem drop_none {x : List UInt8} {c : UInt8} {k : Nat} (h : (x.length : Int) - (k : Int) < (1 : Nat)) : (x.drop k).findIdx? (· == c) = none := by
  rw [List.drop_eq_nil_of_le (by omega)]
  rfl
theorem search_one {x : List UInt8} {c : UInt8} {k : Nat} :
    ((if (x.length : Int) - (k : Int) < (1 : Nat) then none else some ((k : Int).toNat, (x.length : Int).toNat)).bind fun p : Nat × Nat => Bytes.find? x.toArray #[c] p.1 p.2) = ((x.drop k).findIdx? (· == c)).map (k + ·) := by
  split
  · rename_i h
    rw [drop_none h]
    rfl
  · simp only [Option.bind_some, Int.toNat_natCast]
    exact findQ_one x c k

theorem meets_find3 {x : List UInt8} {c : UInt8} {t u v : Tok} {k : Nat} :
    Meets («bytes.find» ⟨[.bytes x.toArray t, .bytes #[c] u, .int (k : Int) v], []⟩) (fun _ R s => ∀ t' k', R (.ok (.ret (.int (findFrom x c k) t'))) { s with toks := k' }) := by
  refine .of_wp fun prog w A R s h => ?_
  show wpAny _ _ (Bytes.searchM .bytes "find" false false _) _ _ s
  unfold Bytes.searchM
  rw [find_args3]
  simp only [pure_bind, List.size_toArray, window_of, Bool.false_eq_true, if_false]
  have e := search_one (x := x) (c := c) (k := k)
  have e1 : [c].length = 1 := rfl
  rw [e1, e]
  unfold findFrom at h
  cases hf : (x.drop k).findIdx? (· == c) with
  | none => rw [hf] at h; exact wpAny_bind (wpAny_rule (wpAny_bind (wpAny_mkInt (wpAny_pure ⟨_, rfl, h _ _⟩))))
  | some i => rw [hf] at h; exact wpAny_bind (wpAny_mkInt (wpAny_pure ⟨_, rfl, h _ _⟩))
theorem meets_find2 {x : List UInt8} {c : UInt8} {t u : Tok} :
    Meets («bytes.find» ⟨[.bytes x.toArray t, .bytes #[c] u], []⟩) (fun _ R s => ∀ t' k', R (.ok (.ret (.int (findFrom x c 0) t'))) { s with toks := k' }) := by
  refine .of_wp fun prog w A R s h => ?_
  show wpAny _ _ (Bytes.searchM .bytes "find" false false _) _ _ s
  unfold Bytes.searchM
  rw [find_args2]
  simp only [pure_bind, List.size_toArray, window_all, Bool.false_eq_true, if_false]
  have e := search_one (x := x) (c := c) (k := 0)
  have e1 : [c].length = 1 := rfl
  rw [show ((0 : Nat) : Int) = 0 from rfl] at e
  rw [e1, e]
  unfold findFrom at h
  cases hf : (x.drop 0).findIdx? (· == c) with
  | none => rw [hf] at h; exact wpAny_bind (wpAny_rule (wpAny_bind (wpAny_mkInt (wpAny_pure ⟨_, rfl, h _ _⟩))))
  | some i => rw [hf] at h; exact wpAny_bind (wpAny_mkInt (wpAny_pure ⟨_, rfl, h _ _⟩))
theorem meets_index {x : List UInt8} {t u : Tok} {k : Int} {i : Nat} (h0 : 0 ≤ k) (h1 : k < 256) (hi : x.findIdx? (· == k.toNat.toUInt8) = some i) :
    Meets («bytes.index» ⟨[.bytes x.toArray t, .int k u], []⟩) (fun _ R s => ∀ t' k', R (.ok (.ret (.int (i : Int) t'))) { s with toks := k' }) := by
  refine .of_wp fun prog w A R s h => ?_
  show wpAny _ _ (Bytes.searchM .bytes "index" false true _) _ _ s
  unfold Bytes.searchM
  rw [index_args2 h0 h1]
  simp only [pure_bind, List.size_toArray, window_all, Bool.false_eq_true, if_false]
  have e := search_one (x := x) (c := k.toNat.toUInt8) (k := 0)
  rw [show ((0 : Nat) : Int) = 0 from rfl] at e
  rw [e, List.drop_zero, hi]
  simp only [Option.map_some, Nat.zero_add]
  exact wpAny_bind (wpAny_mkInt (wpAny_pure ⟨_, rfl, h _ _⟩))

theorem meets_lower {x : List UInt8} {t : Tok} (hz : x.length ≤ 16777216) :
    Meets («bytes.lower» ⟨[.bytes x.toArray t], []⟩) (fun _ R s => ∀ t' k', R (.ok (.ret (.bytes (x.map Bytes.toLower).toArray t'))) { s with toks := k' }) := by
  refine .of_wp fun prog w A R s h => ?_
  show wpAny _ _ (Bytes.mappedM .bytes "lower" (·.map Bytes.toLower) _) _ _ s
  unfold Bytes.mappedM
  show wpAny _ _ (mkBytes (x.map Bytes.toLower).toArray >>= fun v => ret v) _ _ s
  exact wpAny_bind (wpAny_mkBytes (wpAny_pure ⟨_, rfl, h _ _⟩) (by rw [sizeLine_eq]; simpa using hz))

theorem like_b {id : String} {b : Array UInt8} {t : Tok} : Bytes.bytesLike id (.bytes b t) = pure b := by
  unfold Bytes.bytesLike
  rw [KBy.buffer_eq]
  rfl
theorem self_some_strip {id : String} {a b : Value} : selfAndSome id "rstrip" 0 1 ⟨[a, b], []⟩ = pure (a, [b]) := rfl
/-- octets without those of a set at their end -/
noncomputable def rstripped (p : UInt8 → Bool) (x : List UInt8) : List UInt8 := (x.reverse.dropWhile p).reverse
theorem rstripped_le (p : UInt8 → Bool) (x : List UInt8) : (rstripped p x).length ≤ x.length := by
  unfold rstripped
  have := (List.dropWhile_sublist p (l := x.reverse)).length_le
  simpa using this
theorem rstripped_whole {p : UInt8 → Bool} {x : List UInt8} (h : (rstripped p x).length = x.length) : rstripped p x = x := by
  unfold rstripped at *
  have h1 : (x.reverse.dropWhile p).length = x.reverse.length := by simpa using h
  have := (List.dropWhile_sublist p (l := x.reverse)).eq_of_length h1
  rw [this, List.reverse_reverse]
theorem same_b {b : Array UInt8} {t : Tok} : Bytes.Kind.same .bytes (.bytes b t) = pure (.bytes b t) := rfl
theorem meets_rstrip {x y : List UInt8} {t u : Tok} (hz : x.length ≤ 16777216) :
    Meets («bytes.rstrip» ⟨[.bytes x.toArray t, .bytes y.toArray u], []⟩) (fun _ R s => ∀ t' k', R (.ok (.ret (.bytes (rstripped y.contains x).toArray t'))) { s with toks := k' }) := by
  refine .of_wp fun prog w A R s h => ?_
  show wpAny _ _ (Bytes.stripM .bytes "rstrip" false true _) _ _ s
  unfold Bytes.stripM
  simp only [self_some_strip, pure_bind, like_b, payload_b, Bool.false_eq_true, if_false, if_true]
  have e : (y.toArray.contains : UInt8 → Bool) = y.contains := by funext c; simp
  rw [e]
  show wpAny _ _ (if ((rstripped y.contains x).length == x.toArray.size) = true then _ else _) _ _ _
  by_cases hl : (rstripped y.contains x).length = x.length
  · rw [if_pos (by simpa using hl), same_b]
    rw [rstripped_whole hl] at h
    exact wpAny_bind (wpAny_rule (wpAny_pure ⟨_, rfl, h _ _⟩))
  · rw [if_neg (by simpa using hl)]
    refine wpAny_bind (wpAny_mkBytes (wpAny_pure ⟨_, rfl, h _ _⟩) ?_)
    have := rstripped_le y.contains x
    rw [sizeLine_eq]
    show (rstripped y.contains x).toArray.size ≤ _
    simp; omega

theorem meets_contains {x : List UInt8} {t u : Tok} {k : Int} (h0 : 0 ≤ k) (h1 : k < 256) :
    Meets («bytes.__contains__» ⟨[.bytes x.toArray t, .int k u], []⟩) (fun _ R s => R (.ok (.ret (.bool (x.contains k.toNat.toUInt8)))) s) := by
  refine .of_wp fun prog w A R s h => ?_
  show wpAny _ _ (Bytes.containsIn "bytes.__contains__" (.bytes x.toArray t) (.int k u) >>= fun b => ret (.bool b)) _ _ s
  unfold Bytes.containsIn
  refine wpAny_bind (wpAny_bind ?_)
  refine wpAny_of_eq (a := .ok k) rfl ?_
  have e : (decide (k < 0) || decide (k ≥ 256)) = false := by simp; omega
  simp only [KBy.buffer_eq, pure_bind, e, Bool.false_eq_true, if_false]
  refine wpAny_pure (wpAny_pure ⟨_, rfl, ?_⟩)
  simpa using h

/-- a list's octets, one by one -/
inductive BsAre : List Value → List (List UInt8) → Prop
  | nil : BsAre [] []
  | cons {vs xs} (x : List UInt8) (t : Tok) (h : BsAre vs xs) : BsAre (.bytes x.toArray t :: vs) (x :: xs)
theorem BsAre.length : ∀ {vs xs}, BsAre vs xs → vs.length = xs.length
  | _, _, .nil => rfl
  | _, _, .cons _ _ h => by simp [h.length]
theorem BsAre.append : ∀ {vs xs ws ys}, BsAre vs xs → BsAre ws ys → BsAre (vs ++ ws) (xs ++ ys)
  | _, _, _, _, .nil, h => h
  | _, _, _, _, .cons x t h, h' => .cons x t (h.append h')
theorem BsAre.one (x : List UInt8) (t : Tok) : BsAre [.bytes x.toArray t] [x] := .cons x t .nil
theorem BsAre.get : ∀ {vs xs}, BsAre vs xs → ∀ (i : Nat) (x : List UInt8), xs[i]? = some x → ∃ t, vs[i]? = some (.bytes x.toArray t)
  | _, _, .nil, i, x, e => by simp at e
  | _, _, .cons y t h, 0, x, e => by simp at e; subst e; exact ⟨t, rfl⟩
  | _, _, .cons y t h, i + 1, x, e => by simp at e; simpa using h.get i x e
theorem BsAre.at : ∀ {vs xs}, BsAre vs xs → ∀ (i : Nat) (v : Value), vs[i]? = some v → ∃ x t, v = .bytes x.toArray t ∧ xs[i]? = some x
  | _, _, .nil, i, v, e => by simp at e
  | _, _, .cons y t h, 0, v, e => by simp at e; subst e; exact ⟨y, t, rfl, rfl⟩
  | _, _, .cons y t h, i + 1, v, e => by simp at e; simpa using h.at i v e
theorem BsAre.take : ∀ {vs xs}, BsAre vs xs → ∀ n, BsAre (vs.take n) (xs.take n)
  | _, _, .nil, n => by simpa using BsAre.nil
  | _, _, .cons y t h, 0 => by simpa using BsAre.nil
  | _, _, .cons y t h, n + 1 => by simpa using BsAre.cons y t (h.take n)
theorem BsAre.drop : ∀ {vs xs}, BsAre vs xs → ∀ n, BsAre (vs.drop n) (xs.drop n)
  | _, _, .nil, n => by simpa using BsAre.nil
  | _, _, .cons y t h, 0 => by simpa using BsAre.cons y t h
  | _, _, .cons y t h, n + 1 => by simpa using h.drop n

theorem mapM_new {M : Model} {A : Around} {E : Value → Shared → Prop} :
    ∀ (l : List (Array UInt8)) (s : Shared) (Q : List Value → Shared → Prop), (∀ p ∈ l, p.size ≤ 16777216) → (∀ vs k, BsAre vs (l.map (·.toList)) → Q vs { s with toks := k }) → wpAny M A (l.mapM (Bytes.Kind.new .bytes)) Q E s := by
  intro l
  induction l with
  | nil => intro s Q _ h; rw [List.mapM_nil]; exact wpAny_pure (h [] s.toks .nil)
  | cons p l ih =>
    intro s Q hp h
    rw [List.mapM_cons]
    refine wpAny_bind (wpAny_mkBytes ?_ (by rw [sizeLine_eq]; exact hp p (.head _)))
    refine wpAny_bind (ih _ _ (fun q hq => hp q (.tail _ hq)) fun vs k hb => ?_)
    refine wpAny_pure (h _ k ?_)
    have := BsAre.cons p.toList s.toks hb
    simpa using this

/-- octets between the places where a run of octets stands (as the model cuts them) -/
noncomputable def cutAt (x y : List UInt8) : List (List UInt8) := (Bytes.between x.toArray y.length (Bytes.occurrences x.toArray y.toArray 0 x.length)).map (·.toList)
theorem meets_split {x y : List UInt8} {t u : Tok} (hy : y ≠ []) (hz : ∀ p ∈ cutAt x y, p.length ≤ 16777216) (hn : (cutAt x y).length ≤ 16777216)
    (hl : (Bytes.occurrences x.toArray y.toArray 0 x.length).length ≤ x.length + 1) :
    Meets («bytes.split» ⟨[.bytes x.toArray t, .bytes y.toArray u], []⟩) (fun _ R s => ∀ vs k, BsAre vs (cutAt x y) → R (.ok (.ret (.ref s.heap.objs.size))) { s with heap := s.heap.push { cls := .type "list", data := .seq vs.toArray }, toks := k }) := by
  refine .of_wp fun prog w A R s h => ?_
  show wpAny _ _ (Bytes.splitM .bytes "split" false _) _ _ s
  unfold Bytes.splitM
  have eb : ∀ id, Bytes.bindOptional id "split" ["sep", "maxsplit"] [Value.bytes y.toArray u] [] = pure [some (.bytes y.toArray u), none] := fun id => rfl
  simp only [eb, pure_bind, payload_b, like_b]
  have e1 : y.toArray.isEmpty = false := by cases y with
    | nil => exact absurd rfl hy
    | cons a r => rfl
  simp only [e1, Bool.false_eq_true, if_false, List.size_toArray]
  rw [if_pos (show (-1 : Int) < 0 by decide)]
  rw [List.take_of_length_le hl]
  by_cases hp : (Bytes.occurrences x.toArray y.toArray 0 x.length).isEmpty = true
  · rw [if_pos hp, same_b]
    simp only [pure_bind]
    have hnil : Bytes.occurrences x.toArray y.toArray 0 x.length = [] := by simpa using hp
    have hcut : cutAt x y = [x] := by unfold cutAt; rw [hnil]; simp [Bytes.between]
    rw [hcut] at h
    refine wpAny_bind (wpAny_rule (wpAny_bind (wpAny_newObj_type (wpAny_pure ⟨_, rfl, h _ _ (BsAre.one x t)⟩) ?_)))
    show ([Value.bytes x.toArray t].toArray).size ≤ sizeLine
    rw [sizeLine_eq]; simp
  · rw [if_neg hp]
    refine wpAny_bind (mapM_new _ _ _ ?_ fun vs k hb => ?_)
    · intro p hp
      have := hz p.toList (List.mem_map_of_mem hp)
      simpa using this
    · refine wpAny_bind (wpAny_newObj_type (wpAny_pure ⟨_, rfl, h vs k hb⟩) ?_)
      show vs.toArray.size ≤ sizeLine
      rw [sizeLine_eq, List.size_toArray, hb.length]
      exact hn
theorem take_b {id : String} {b : Array UInt8} {t : Tok} : Bytes.takeBufferQuiet? id (.bytes b t) 0 = pure (some (b, none)) := by
  have e : ((0 : Int) == Bytes.fullReadOnly) = false := by decide
  unfold Bytes.takeBufferQuiet? Bytes.takeBuffer?
  rw [KBy.special_eq KBy.look_buffer, KBy.own_buffer]
  simp only [e, KBy.buffer_eq]
  kernel_rfl

theorem joined_nil (ps : List (List UInt8)) : Bytes.joined #[] (ps.map (·.toArray)) = ps.flatten.toArray := by
  unfold Bytes.joined
  have key : ∀ (ps : List (List UInt8)) (n : Nat) (a : Array UInt8), ((ps.map (·.toArray)).zipIdx n).foldl (fun out (p : Array UInt8 × Nat) => (if p.2 > 0 then out ++ #[] else out) ++ p.1) a = a ++ ps.flatten.toArray := by
    intro ps
    induction ps with
    | nil => intro n a; simp
    | cons p r ih =>
      intro n a
      simp only [List.map_cons, List.zipIdx_cons, List.foldl_cons, List.flatten_cons]
      rw [ih]
      simp
  have := key ps 0 #[]
  simpa using this

theorem letgo_b {M : Model} {A : Around} {E : Value → Shared → Prop} {keep : List Value} : ∀ (l : List (Value × Option Value)) (s : Shared) (Q : Unit → Shared → Prop), (∀ p ∈ l, p.2 = none) → Q () s → wpAny M A (Bytes.joinLetGo l keep) Q E s
  | [], _, _, _, h => wpAny_pure h
  | (x, w) :: r, s, Q, hn, h => by
    have hw : w = none := hn (x, w) (.head _)
    subst hw
    unfold Bytes.joinLetGo
    exact wpAny_bind (wpAny_letGo (letgo_b r s Q (fun p hp => hn p (.tail _ hp)) h))

theorem seqItems_at {M : Model} {A : Around} {E : Value → Shared → Prop} {s : Shared} {l : Addr} {items : Array Value} {Q : Option (Array Value) → Shared → Prop} (hl : s.heap.IsList l items) (h : Q (some items) s) : wpAny M A (seqItems? (.ref l)) Q E s := by
  obtain ⟨o, ho, _, n, hd⟩ := hl
  unfold seqItems?
  refine wpAny_bind (wpAny_load ho ?_)
  rw [hd]
  exact wpAny_pure h

theorem foldl_size (a : Nat) (ps : List (List UInt8)) : (ps.map (·.toArray)).toArray.foldl (fun n b => n + b.size) a = a + ps.flatten.length := by
  rw [List.foldl_toArray]
  induction ps generalizing a with
  | nil => simp
  | cons p r ih => simp only [List.map_cons, List.foldl_cons, List.flatten_cons, List.length_append]; rw [ih]; simp; omega

theorem any_onHeap {l : List (Value × Option Value)} (h : ∀ p ∈ l, p.1.onHeap = false) : (l.any fun x => x.1.onHeap) = false := by
  rw [List.any_eq_false]
  intro p hp
  rw [h p hp]
  exact Bool.false_ne_true
theorem meets_join {l : Addr} {vs : List Value} {xs : List (List UInt8)} {t : Tok} (hb : BsAre vs xs) (hz : xs.flatten.length ≤ 16777216) :
    Meets («bytes.join» ⟨[.bytes #[] t, .ref l], []⟩) (fun _ R s => s.heap.IsList l vs.toArray ∧ ∀ t' k', R (.ok (.ret (.bytes xs.flatten.toArray t'))) { s with toks := k' }) := by
  refine .of_wp fun prog w A R s hS => ?_
  obtain ⟨hl, h⟩ := hS
  show wpAny _ _ (Bytes.joinM .bytes _) _ _ s
  unfold Bytes.joinM
  refine wpAny_bind (wpAny_of_eq (a := (.bytes #[] t, .ref l)) rfl ?_)
  show wpAny _ _ (if (Bytes.Kind.bytes == Bytes.Kind.bytes) = true then _ else _) _ _ _
  refine bm_if_true (by decide) ?_
  refine wpAny_bind ?_
  unfold Bytes.joinItems
  refine wpAny_bind (wpAny_typeOf hl.typeIs ?_)
  refine bm_if_true (by decide) ?_
  refine wpAny_pure ?_
  refine wpAny_bind (seqItems_at hl ?_)
  show wpAny _ _ (if (Bytes.Kind.bytes == Bytes.Kind.bytes) = true then _ else _) _ _ _
  refine bm_if_true (by decide) ?_
  have main : ∀ (f : Nat → (Array (Array UInt8) × List (Value × Option Value)) → Sem (ForInStep ((Array (Array UInt8) × List (Value × Option Value))))) (g : (Array (Array UInt8) × List (Value × Option Value)) → Sem PySem.Fin),
      (∀ i x tk ps tl s' Q, vs[i]? = some (.bytes x tk) → s' = s → (tl.any fun x => x.1.onHeap) = false → Q (ForInStep.yield (ps.push x, tl ++ [(.bytes x tk, none)])) s' → wpAny (model prog w) A.in1 (f i (ps, tl)) Q (fun e s' => R (Except.error e) s') s') →
      (∀ tl s', s' = s → (∀ p ∈ tl, p.2 = none) → wpAny (model prog w) A.in1 (g ((xs.map (·.toArray)).toArray, tl)) (fun fin s' => ∃ v, fin = Fin.done (Flow.ret v) ∧ R (Except.ok (Flow.ret v)) s') (fun e s' => R (Except.error e) s') s') →
      wpAny (model prog w) A.in1 (forIn [:vs.toArray.size] (#[], []) f >>= g) (fun fin s' => ∃ v, fin = Fin.done (Flow.ret v) ∧ R (Except.ok (Flow.ret v)) s') (fun e s' => R (Except.error e) s') s := by
    intro f g hf hg
    refine wpAny_bind ?_
    have hn : vs.toArray.size = xs.length := by simp [hb.length]
    rw [hn, KPc.range_list]
    refine wpAny_forIn_list f (fun rest b s' => s' = s ∧ ∃ i, i ≤ xs.length ∧ rest = List.range' i (xs.length - i) ∧ b.1 = ((xs.take i).map (·.toArray)).toArray ∧ (∀ p ∈ b.2, p.2 = none) ∧ (∀ p ∈ b.2, p.1.onHeap = false)) _ ?_ ?_ _ _ ?_
    · rintro i rest ⟨ps, tl⟩ s' ⟨rfl, j, hj, hr, hps, h1, h2⟩
      have hlt : j < xs.length := by
        rcases Nat.lt_or_ge j xs.length with h | h
        · exact h
        · rw [Nat.sub_eq_zero_of_le h] at hr; simp at hr
      have hr' : List.range' j (xs.length - j) = j :: List.range' (j + 1) (xs.length - (j + 1)) := by
        have : xs.length - j = (xs.length - (j + 1)) + 1 := by omega
        rw [this, List.range'_succ]
      rw [hr'] at hr
      obtain ⟨rfl, rfl⟩ := List.cons.inj hr
      obtain ⟨tk, hv⟩ := hb.get i xs[i] (List.getElem?_eq_getElem hlt)
      refine hf i _ tk ps tl s' _ hv rfl (any_onHeap h2) ?_
      refine ⟨rfl, i + 1, hlt, rfl, ?_, ?_, ?_⟩
      · dsimp only at hps ⊢
        rw [hps, List.take_add_one, List.getElem?_eq_getElem hlt, List.map_append, List.push_toArray]
        rfl
      · intro p hp
        rcases List.mem_append.mp hp with hp | hp
        · exact h1 p hp
        · rw [List.mem_singleton.mp hp]
      · intro p hp
        rcases List.mem_append.mp hp with hp | hp
        · exact h2 p hp
        · rw [List.mem_singleton.mp hp]; rfl
    · rintro ⟨ps, tl⟩ s' ⟨rfl, j, hj, hr, hps, h1, h2⟩
      have hj' : xs.length - j = 0 := by
        cases hq : xs.length - j with
        | zero => rfl
        | succ m => rw [hq, List.range'_succ] at hr; cases hr
      have : j = xs.length := by omega
      subst this
      rw [List.take_length] at hps
      dsimp only at hps
      subst hps
      exact hg tl s' rfl h1
    · exact ⟨rfl, 0, Nat.zero_le _, by simp, by simp, by simp, by simp⟩
  have turn : ∀ (i : Nat) (x : Array UInt8) (tk : Tok), vs[i]? = some (.bytes x tk) → vs.toArray.getD i .none = .bytes x tk := by
    intro i x tk hv
    simp [Array.getD_eq_getD_getElem?, hv]
  have fin : ∀ (tl : List (Value × Option Value)) (s' : Shared), s' = s → (∀ p ∈ tl, p.2 = none) → ∀ (keep : List Value),
      (Bytes.tooLong (((xs.map (·.toArray)).toArray).foldl (fun x1 x2 => x1 + x2.size) ((#[] : Array UInt8).size * ((xs.map (·.toArray)).toArray.size - 1))) = false) := by
    intro tl s' _ _ _
    rw [foldl_size]
    refine KBy.tooLong_not ?_
    simpa using hz
  have hend : ∀ (tl : List (Value × Option Value)) (keep : List Value) (s' : Shared), s' = s → (∀ p ∈ tl, p.2 = none) →
      wpAny (model prog w) A.in1 (Bytes.Kind.new .bytes (Bytes.joined #[] (xs.map (·.toArray)).toArray.toList) >>= fun result => holding (result :: keep) point >>= fun _ => Bytes.joinLetGo tl [result] >>= fun _ => ret result)
        (fun fin s' => ∃ v, fin = Fin.done (Flow.ret v) ∧ R (Except.ok (Flow.ret v)) s') (fun e s' => R (Except.error e) s') s' := by
    intro tl keep s' hs ht
    subst hs
    have e : Bytes.joined #[] (xs.map (·.toArray)).toArray.toList = xs.flatten.toArray := joined_nil xs
    rw [e]
    refine wpAny_bind (wpAny_mkBytes ?_ (by rw [sizeLine_eq]; simpa using hz))
    refine wpAny_bind (wpAny_holding (wpAny_point ?_))
    exact wpAny_bind (letgo_b _ _ _ ht (wpAny_pure ⟨_, rfl, h _ _⟩))
  cases hb with
  | nil =>
    show wpAny _ _ (forIn [:_] (_, _) _ >>= _) _ _ _
    refine main _ _ ?_ ?_
    · intro i x tk ps tl s' Q hv _ _ _
      simp at hv
    · intro tl s' hs ht
      refine wpAny_bind (wpAny_of_eq (a := (#[] : Array UInt8)) rfl ?_)
      refine bm_if_false (fin tl s' hs ht []) ?_
      exact hend tl _ s' hs ht
  | cons y t1 hb' => 
    cases hb' with
    | nil =>
      show wpAny _ _ (typeOf (.bytes y.toArray t1) >>= _) _ _ _
      refine wpAny_bind (wpAny_of_eq (a := .type "bytes") rfl ?_)
      refine bm_if_true (by decide) ?_
      refine wpAny_bind (wpAny_rule ?_)
      have := h t1 s.toks
      simp only [List.flatten_cons, List.flatten_nil, List.append_nil] at this
      exact wpAny_pure ⟨_, rfl, this⟩
    | cons y2 t2 hb'' =>
      show wpAny _ _ (forIn [:_] (_, _) _ >>= _) _ _ _
      refine main _ _ ?_ ?_
      · intro i x tk ps tl s' Q hv hs hany hQ
        subst hs
        refine wpAny_bind (seqItems_at hl ?_)
        show wpAny _ _ (if (Bytes.Kind.bytes == Bytes.Kind.bytearray || tl.any fun x => x.1.onHeap) = true then _ else _) _ _ _
        refine bm_if_false (by rw [hany]; decide) ?_
        refine wpAny_bind (wpAny_holding ?_)
        rw [turn i x tk hv]
        refine wpAny_of_eq take_b ?_
        refine wpAny_bind (seqItems_at hl ?_)
        refine bm_if_false (by simp) ?_
        exact wpAny_pure hQ
      · intro tl s' hs ht
        refine wpAny_bind (wpAny_of_eq (a := (#[] : Array UInt8)) rfl ?_)
        refine bm_if_false (fin tl s' hs ht []) ?_
        exact hend tl _ s' hs ht
end
section
/- R2 -/
open Builtin

/-- a side goal that the walk leaves alone -/
noncomputable def Side (P : Prop) : Prop := P
theorem Side.out {P : Prop} (h : Side P) : P := h
/-- a goal at which the walk stands still -/
noncomputable def Stop (P : Prop) : Prop := P
theorem Stop.mk {P : Prop} (h : Stop P) : P := h
noncomputable abbrev prg : Program := PySem.Challenge.rw_no0355_01.row.toRowW.prog
/-- what stands where a def of the text is called: the frames below, the frame, the written part, the ledger, the top -/
structure Cx (w : World) (mean : ExcName → Option Value) (mg mb : Str → Option Value) (A₀ : Around) (base : Heap) (outer : List Env) (h₀ : Heap) (L : Addr) (h : Heap) (m : Str → Option Value) (news : List (Addr × Obj)) (cs : Scope) : Prop where
  B : Below A₀ base outer h₀
  F : Fr h₀ L h m
  X : (hd.heap_1 w.params).In h₀
  N : News h₀ L h news
  T : Top topView (looseW topView [Str.ofString "PostError", Str.ofString "quoted_encoded"]) mean mg mb h₀
  k : cs.kind = .function

section
variable {prog : Program} {w : World} {A : Around} {E : Value → Shared → Prop} {s : Shared} {Q : Value → Shared → Prop} {x y : List UInt8} {c : UInt8} {t u v : Tok}
theorem call_find3 {k : Nat} (h : ∀ t' k', Q (.int (findFrom x c k) t') { s with toks := k' }) : wpAny (model prog w) A (call (.builtin "bytes.find") [.bytes x.toArray t, .bytes #[c] u, .int (k : Int) v]) Q E s :=
  call_meets slot_bytes_find (typeIs_bytes _ _ _) entry_bytes_find (args_bytes_find_3 _ _ _) meets_find3 h
theorem call_find2 (h : ∀ t' k', Q (.int (findFrom x c 0) t') { s with toks := k' }) : wpAny (model prog w) A (call (.builtin "bytes.find") [.bytes x.toArray t, .bytes #[c] u]) Q E s :=
  call_meets slot_bytes_find (typeIs_bytes _ _ _) entry_bytes_find (args_bytes_find_2 _ _) meets_find2 h
theorem call_index {k : Int} {i : Nat} (h0 : 0 ≤ k) (h1 : k < 256) (hi : x.findIdx? (· == k.toNat.toUInt8) = some i) (h : ∀ t' k', Q (.int (i : Int) t') { s with toks := k' }) :
    wpAny (model prog w) A (call (.builtin "bytes.index") [.bytes x.toArray t, .int k u]) Q E s :=
  call_meets slot_bytes_index (typeIs_bytes _ _ _) entry_bytes_index (args_bytes_index_2 _ _) (meets_index h0 h1 hi) h
theorem call_lower (hz : x.length ≤ 16777216) (h : ∀ t' k', Q (.bytes (x.map Bytes.toLower).toArray t') { s with toks := k' }) : wpAny (model prog w) A (call (.builtin "bytes.lower") [.bytes x.toArray t]) Q E s :=
  call_meets slot_bytes_lower (typeIs_bytes _ _ _) entry_bytes_lower (args_bytes_lower_1 _) (meets_lower hz) h
theorem call_rstrip (hz : x.length ≤ 16777216) (h : ∀ t' k', Q (.bytes (rstripped y.contains x).toArray t') { s with toks := k' }) : wpAny (model prog w) A (call (.builtin "bytes.rstrip") [.bytes x.toArray t, .bytes y.toArray u]) Q E s :=
  call_meets slot_bytes_rstrip (typeIs_bytes _ _ _) entry_bytes_rstrip (args_bytes_rstrip_2 _ _) (meets_rstrip hz) h
theorem call_split {h₀ : Heap} {L : Addr} {m : Str → Option Value} {news : List (Addr × Obj)} (F : Fr h₀ L s.heap m) (N : News h₀ L s.heap news) (hy : y ≠ []) (hz : ∀ p ∈ cutAt x y, p.length ≤ 16777216) (hn : (cutAt x y).length ≤ 16777216)
    (hl : (Bytes.occurrences x.toArray y.toArray 0 x.length).length ≤ x.length + 1)
    (h : ∀ D vs h' k', BsAre vs (cutAt x y) → Fr h₀ L h' m → News h₀ L h' ((D, listOf vs.toArray 0) :: news) → (∀ p ∈ news, p.1 < D) → Q (.ref D) { s with heap := h', toks := k' }) :
    wpAny (model prog w) A (call (.builtin "bytes.split") [.bytes x.toArray t, .bytes y.toArray u]) Q E s :=
  call_meets slot_bytes_split (typeIs_bytes _ _ _) entry_bytes_split (args_bytes_split_2 _ _) (meets_split hy hz hn hl) fun vs k hb =>
    h _ vs _ k hb (F.push _) (N.push F _) fun p hp => Heap.lt_size (N p hp).1
theorem call_join {l : Addr} {vs : List Value} {xs : List (List UInt8)} (hl : s.heap.IsList l vs.toArray) (hb : BsAre vs xs) (hz : xs.flatten.length ≤ 16777216)
    (h : ∀ t' k', Q (.bytes xs.flatten.toArray t') { s with toks := k' }) : wpAny (model prog w) A (call (.builtin "bytes.join") [.bytes #[] t, .ref l]) Q E s :=
  call_meets slot_bytes_join (typeIs_bytes _ _ _) entry_bytes_join (args_bytes_join_2 _ _) (meets_join hb hz) ⟨hl, h⟩
theorem noRefB {b : Array UInt8} : ∀ a, Value.bytes b t = .ref a → ∃ o, s.heap.get? a = some o ∧ o.dict = none := fun _ e => nomatch e
theorem method_b {M : Model} {pl : Sem Bool} {b : Array UInt8} {Q : Value × List Value → Shared → Prop} {name : PySem.Str} {id : String} (slot : Slot "bytes" name id) (ty : typeOf (.builtin id) = pure (.type "method_descriptor"))
    (h : Q (.builtin id, [.bytes b t]) s) : wpAny M A (getMethod (.bytes b t) name pl) Q E s :=
  getMethod_builtin (typeIs_bytes _ _ _) FB.plainAttrs_bytes slot ty (fun _ e => nomatch e) h

theorem add_b (hsz : x.length + y.length ≤ 16777216) (h : ∀ t' k, Q (.bytes (x ++ y).toArray t') { s with toks := k }) : wpAny (model prog w) A (binaryOp .Add (.bytes x.toArray t) (.bytes y.toArray u)) Q E s :=
  KBy.add_bytes (by simpa using hsz) fun t' k => by rw [List.append_toArray]; exact h t' k
theorem item_b {i : Int} {ui : Tok} {value slice : PySem.Expr} (hfit : x.length ≤ 16777216) (h0 : 0 ≤ i) (h1 : i < (x.length : Int)) (h : ∀ t' k, Q (.int ((x.getD i.toNat 0).toNat : Int) t') { s with toks := k })
    (hs : subscripted slice false (.bytes x.toArray t) (.int i ui) = operate [.bytes x.toArray t, .int i ui] (getItem (.bytes x.toArray t) (.int i ui)) := by with_unfolding_all rfl)
    (ht : ∀ r, letTemporaryGo value (.bytes x.toArray t) r = pure () := by intro _; with_unfolding_all rfl) :
    wpAny (model prog w) A (subscriptTail value slice (.bytes x.toArray t) (.int i ui)) Q E s :=
  KBy.item_N (by omega) h0 h1 (h _ _) hs ht
/-- the part of octets between two bounds as a slice takes it -/
noncomputable def part {α : Type} (x : List α) (lo hi : Option Int) : List α := (x.drop (lo.elim 0 (clipAt x.length))).take (hi.elim x.length (clipAt x.length) - lo.elim 0 (clipAt x.length))
theorem picked_part (lo hi : Option Int) : KBy.picked x.toArray lo hi = (part x lo hi).toArray := by
  rw [KBc.picked_eq]
  unfold part
  simp
theorem part_le {α : Type} (x : List α) (lo hi : Option Int) : (part x lo hi).length ≤ x.length := by
  unfold part
  rw [List.length_take, List.length_drop]
  omega
theorem slice_b {value slice : PySem.Expr} {h₀ : Heap} {L : Addr} {m : PySem.Str → Option Value} {news : List (Addr × Obj)} {l u : Value} {lo hi : Option Int} (hF : Fr h₀ L s.heap m) (hN : News h₀ L s.heap news) (hl : IsPart l lo) (hu : IsPart u hi) (hz : x.length ≤ 16777216)
    (h : ∀ h' t' k, Fr h₀ L h' m → News h₀ L h' news → Q (.bytes (part x lo hi).toArray t') { s with heap := h', toks := k })
    (hs : subscripted slice false (.bytes x.toArray t) (.ref s.heap.objs.size) = operate [.ref s.heap.objs.size, .bytes x.toArray t] (getItem (.bytes x.toArray t) (.ref s.heap.objs.size)) := by with_unfolding_all rfl)
    (ht : ∀ r, letTemporaryGo value (.bytes x.toArray t) r = pure () := by intro _; with_unfolding_all rfl) :
    wpAny (model prog w) A (subscriptTail value slice (.bytes x.toArray t) (.ref s.heap.objs.size)) Q E { s with heap := s.heap.push { cls := .type "slice", data := .fields #[l, u, .none] } } :=
  tail_of_ItemOn ⟨"bytes", _, FB.slot_bytes_getitem.lookup, typeIs_bytes _ _ _, getItem_meets (typeIs_bytes _ _ _) (by decide) FB.slot_bytes_getitem FB.entry_bytes_getitem (FB.args_bytes_getitem_2 _ _) (KBc.meets_slice2 x.toArray t _ hl hu)
    ⟨Heap.IsSliceOf.new _ _ _ _, by rw [picked_part, sizeLine_eq, List.size_toArray]; exact Nat.le_trans (part_le _ _ _) hz, fun t' k => by rw [picked_part]; exact h _ _ _ (hF.push _) (News.pushKeep hN _)⟩⟩ hs ht
theorem len_b (hz : x.length ≤ 16777216) (h : ∀ t' k, Q (.int (x.length : Int) t') { s with toks := k }) : wpAny (model prog w) A (call (.builtin "len") [.bytes x.toArray t]) Q E s := by
  refine len_bytes ?_ ?_
  · simp; omega
  · simpa using h _ _
theorem bytes_d {l : Addr} {vs : List Value} {ns : List Int} {n : Nat} {h₀ : Heap} {L : Addr} {m : PySem.Str → Option Value} {tl : List (Addr × Obj)} (F : Fr h₀ L s.heap m) (N : News h₀ L s.heap ((l, listOf vs.toArray n) :: tl)) (hi : IntsAre vs ns) (hr : ∀ n ∈ ns, 0 ≤ n ∧ n < 256) (hz : ns.length ≤ 16777216) (hh : A.handled = none)
    (h : ∀ h' t k, Fr h₀ L h' m → News h₀ L h' tl → Q (.bytes (ns.map fun n => n.toNat.toUInt8).toArray t) { s with heap := h', toks := k }) : wpAny (model prog w) A (call (.type "bytes") [.ref l]) Q E s :=
  bytes_K F N ⟨_, N.get (.head _), rfl, n, rfl⟩ hi hr (by rw [sizeLine_eq, hi.length]; exact hz) hh fun h' t k F' N' _ => h h' t k F' fun p hp => N' p (.tail _ hp)
theorem fdiv_i {a b : Int} (hb : 0 < b) (hs : PySem.Builtin.divisionGoesByPylong a b = false) (h : ∀ t' k, Q (.int (a / b) t') { s with toks := k }) : wpAny (model prog w) A (binaryOp .FloorDiv (.int a t) (.int b u)) Q E s := by
  refine floordiv_int (by omega) ?_ (.inl hs)
  rw [Int.fdiv_eq_ediv_of_nonneg a (by omega)]
  exact h _ _
theorem fmod_i {a b : Int} (hb : 0 < b) (h : ∀ t' k, Q (.int (a % b) t') { s with toks := k }) : wpAny (model prog w) A (binaryOp .Mod (.int a t) (.int b u)) Q E s := by
  refine mod_int' (by omega) ?_
  rw [Int.fmod_eq_emod_of_nonneg a (by omega)]
  exact h _ _
end
section
variable {h₀ h' : Heap} {L : Addr} {m : Str → Option Value} {news : List (Addr × Obj)} {s : Shared} {Q : Value → Shared → Prop} {t : Tok} {tk' : Nat}
theorem ret_b {x y : List UInt8} (hret : ∀ (t : Tok) (h' : Heap) (tk' : Nat), Fr h₀ L h' m → News h₀ L h' news → Q (.bytes x.toArray t) { s with heap := h', toks := tk' }) (e : y = x) (F : Fr h₀ L h' m) (N : News h₀ L h' news) : Q (.bytes y.toArray t) { s with heap := h', toks := tk' } := by
  subst e
  exact hret t h' tk' F N
theorem byte_int (c : UInt8) : ((c.toNat : Int)).toNat.toUInt8 = c := by simp
theorem byte_lt (c : UInt8) : 0 ≤ (c.toNat : Int) ∧ (c.toNat : Int) < 256 := ⟨by omega, by have := c.toNat_lt; omega⟩
end
end
section
/- R3 -/
open Builtin

/-- a loop's state between two turns: the ledger, the names that are known, what holds of them -/
noncomputable def LpS {σ : Type} (Led : σ → List (Addr × Obj)) (ps : σ → List (Str × Value)) (x : Str) (stored : List Str) (m₀ : Str → Option Value) (P : σ → Prop) (m : Str → Option Value) (nx : List (Addr × Obj)) : Prop :=
  ∃ c : σ, nx = Led c ∧ (∀ p ∈ ps c, m p.1 = some p.2) ∧ (∀ z, z ≠ x → (∀ p ∈ ps c, z ≠ p.1) → stored.contains z = false → m z = m₀ z) ∧ P c

section
variable {prog : Program} {w : World} {A : Around} {E : Value → Shared → Prop} {s : Shared} {env : Env} {h₀ : Heap} {x : Str} {body : List Stmt} {Q : Flow → Shared → Prop}
theorem lp_loop {σ : Type} {I : Addr} {fp wr : List Addr} {n : Nat} {Pv : Nat → Value → Prop} {St : Nat → Heap → Prop} {m₀ : Str → Option Value} (Led : σ → List (Addr × Obj)) (ps : σ → List (Str × Value)) (stored : List Str) (P : Nat → σ → Prop) (c₀ : σ)
    (W : Walks prog w A I fp wr n Pv St) (hLf : env.locals ∉ fp) (hwr : ∀ b ∈ wr, h₀.get? b = none) (hnw : ∀ p ∈ Led c₀, p.1 ∉ wr) (hfp : ∀ q ∈ Led c₀, q.1 ∉ fp) (hst : St 0 s.heap)
    (F : Fr h₀ env.locals s.heap m₀) (N : News h₀ env.locals s.heap (Led c₀)) (hk : ∀ p ∈ ps c₀, m₀ p.1 = some p.2) (hp : P 0 c₀)
    (turn : ∀ i (c : σ) v (u : Str → Option Value) h tk own, i < n → Pv i v → OwnOff own ((Led c₀).map (·.1)) → P i c →
      Fr h₀ env.locals h (fun y => if y = x then some v else kstB (fun z => if stored.contains z then u z else m₀ z) (ps c) y) → News h₀ env.locals h (Led c ++ own) →
      wpAny (model prog w) A (execs body env) (InvPostN h₀ env.locals (LpS Led ps x stored m₀ (P (i + 1))) own ((Led c₀).map (·.1)) { s with heap := h, toks := tk } Q) E { s with heap := h, toks := tk })
    (done : ∀ (c : σ) (u : Str → Option Value) h tk, P n c → Fr h₀ env.locals h (fun y => if y = x then u y else kstB (fun z => if stored.contains z then u z else m₀ z) (ps c) y) → News h₀ env.locals h (Led c) → Q .next { s with heap := h, toks := tk }) :
    LoopAtV prog w A h₀ env x body Q E (.ref I) s := by
  refine loop_invN (fun i m nx => LpS Led ps x stored m₀ (P i) m nx) W hLf hwr hnw hfp hst F N ⟨c₀, rfl, hk, fun _ _ _ _ => rfl, hp⟩ ?_ ?_
  · rintro i v m₁ nx h tk own hin hPv _ hoff ⟨c, rfl, h1, h2, hp'⟩ F₁ N₁
    exact turn i c v m₁ h tk own hin hPv hoff hp' (kst_fr h1 h2 F₁) N₁
  · rintro m₁ nx h tk ⟨c, rfl, h1, h2, hp'⟩ F₁ N₁
    exact done c m₁ h tk hp' (kst_frOut h1 h2 F₁) N₁
theorem lp_end {σ : Type} {Led : σ → List (Addr × Obj)} {ps : σ → List (Str × Value)} {stored : List Str} {m₀ : Str → Option Value} {P : σ → Prop} (c : σ) {L : Addr} {m' : Str → Option Value} {own news' : List (Addr × Obj)} {adr : List Addr} {s₁ : Shared} {h' : Heap} {tk : Nat}
    (F : Fr h₀ L h' m') (N : News h₀ L h' news') (hn : ∀ p ∈ Led c, p ∈ news') (ho : ∀ p ∈ own, p ∈ news') (ha : (Led c).map (·.1) = adr) (hk : ∀ p ∈ ps c, m' p.1 = some p.2) (hr : ∀ z, z ≠ x → (∀ p ∈ ps c, z ≠ p.1) → stored.contains z = false → m' z = m₀ z) (hp : P c) :
    InvEndN h₀ L (LpS Led ps x stored m₀ P) own adr s₁ { s₁ with heap := h', toks := tk } :=
  InvEndN.intro F N ⟨c, rfl, hk, hr, hp⟩ ha hn ho

/-- a turn's end: one list D of the ledger's head may have grown, the rest stands -/
noncomputable def LpPost {τ : Type} (h₀ : Heap) (L : Addr) (D : Addr) (tl : List (Addr × Obj)) (ps : τ → List (Str × Value)) (x : Str) (stored : List Str) (m₀ : Str → Option Value) (P : List Value → τ → Prop) (Q : Flow → Shared → Prop) (s₁ : Shared) (f : Flow) (s₂ : Shared) : Prop :=
  match f with
  | .ret v => Q (.ret v) s₂
  | .brk => Q .next s₂
  | _ => ∃ (vs : List Value) (n : Nat) (c : τ) (h' : Heap) (tk : Nat) (m' : Str → Option Value), s₂ = { s₁ with heap := h', toks := tk } ∧ Fr h₀ L h' m' ∧ News h₀ L h' ((D, listOf vs.toArray n) :: tl) ∧
      (∀ p ∈ ps c, m' p.1 = some p.2) ∧ (∀ z, z ≠ x → (∀ p ∈ ps c, z ≠ p.1) → stored.contains z = false → m' z = m₀ z) ∧ P vs c
theorem lp_done {τ : Type} {L D : Addr} {tl : List (Addr × Obj)} {ps : τ → List (Str × Value)} {stored : List Str} {m₀ m' : Str → Option Value} {P : List Value → τ → Prop} {s₁ : Shared} {h' : Heap} {tk : Nat} {vs : List Value} {n : Nat} (c : τ)
    (F : Fr h₀ L h' m') (N : News h₀ L h' ((D, listOf vs.toArray n) :: tl)) (hk : ∀ p ∈ ps c, m' p.1 = some p.2) (hr : ∀ z, z ≠ x → (∀ p ∈ ps c, z ≠ p.1) → stored.contains z = false → m' z = m₀ z) (hp : P vs c) :
    LpPost h₀ L D tl ps x stored m₀ P Q s₁ .next { s₁ with heap := h', toks := tk } := ⟨vs, n, c, h', tk, m', rfl, F, N, hk, hr, hp⟩

theorem lp_walk1 {τ : Type} {D : Addr} {rest : List (Addr × Obj)} {vs₀ : List Value} {n₀ : Nat} {I : Addr} {fp wr : List Addr} {n : Nat} {Pv : Nat → Value → Prop} {St : Nat → Heap → Prop} {m₀ : Str → Option Value}
    (ps : τ → List (Str × Value)) (stored : List Str) (P : Nat → List Value → τ → Prop)
    (W : Walks prog w A I fp wr n Pv St) (hLf : env.locals ∉ fp) (hwr : ∀ b ∈ wr, h₀.get? b = none) (hnw : ∀ p ∈ (D, listOf vs₀.toArray n₀) :: rest, p.1 ∉ wr) (hfp : ∀ b ∈ fp, b = D → False) (hst : St 0 s.heap)
    (hDr : ∀ p ∈ rest, p.1 ≠ D)
    (F : Fr h₀ env.locals s.heap m₀) (N : News h₀ env.locals s.heap ((D, listOf vs₀.toArray n₀) :: rest)) (hs : ∃ c₀ : τ, (∀ p ∈ ps c₀, m₀ p.1 = some p.2) ∧ P 0 vs₀ c₀)
    (turn : ∀ i vs k (c : τ) v (u : Str → Option Value) h tk tl, i < n → Pv i v → (∀ p ∈ tl, p.1 ≠ D) → (∀ p ∈ rest, p ∈ tl) → P i vs c →
      Fr h₀ env.locals h (fun y => if y = x then some v else kstB (fun z => if stored.contains z then u z else m₀ z) (ps c) y) → News h₀ env.locals h ((D, listOf vs.toArray k) :: tl) →
      wpAny (model prog w) A (execs body env) (LpPost h₀ env.locals D tl ps x stored m₀ (P (i + 1)) Q { s with heap := h, toks := tk }) E { s with heap := h, toks := tk })
    (done : ∀ vs k (c : τ) (u : Str → Option Value) h tk, P n vs c → Fr h₀ env.locals h (fun y => if y = x then u y else kstB (fun z => if stored.contains z then u z else m₀ z) (ps c) y) → News h₀ env.locals h ((D, listOf vs.toArray k) :: rest) → Q .next { s with heap := h, toks := tk }) :
    LoopAtV prog w A h₀ env x body Q E (.ref I) s := by
  obtain ⟨c₀, hk, hp⟩ := hs
  let J : Nat → (Str → Option Value) → List (Addr × Obj) → Prop := fun i m nx => ∃ vs k c, nx = (D, listOf vs.toArray k) :: rest ∧ (∀ p ∈ ps c, m p.1 = some p.2) ∧ (∀ z, z ≠ x → (∀ p ∈ ps c, z ≠ p.1) → stored.contains z = false → m z = m₀ z) ∧ P i vs c
  refine ⟨I, fp, wr, n, Pv, St, m₀, _, J, rfl, W, hLf, hwr, hnw, hst, F, N, ⟨vs₀, n₀, c₀, rfl, hk, fun _ _ _ _ => rfl, hp⟩, ?_, ?_⟩
  · rintro i v m₁ news₁ s₁ own ⟨hh', tk', rfl⟩ hin hPv ⟨vs, k, c, rfl, h1, h2, hp'⟩ hoff hown _ _ _ F₁ N₁
    have hDo : ∀ p ∈ own, p.1 ≠ D := fun p hp e => hfp _ (hown p hp) e
    have N₂ : News h₀ env.locals hh' ((D, listOf vs.toArray k) :: (own ++ rest)) := fun p hp => by
      rcases List.mem_cons.mp hp with rfl | hp
      · exact N₁ _ (List.mem_append_right _ (.head _))
      · rcases List.mem_append.mp hp with hp | hp
        · exact N₁ _ (List.mem_append_left _ hp)
        · exact N₁ _ (List.mem_append_right _ (.tail _ hp))
    refine wpAny_mono (turn i vs k c v m₁ hh' tk' (own ++ rest) hin hPv (fun p hp => (List.mem_append.mp hp).elim (hDo p) (hDr p)) (fun p hp => List.mem_append_right _ hp) hp' (kst_fr h1 h2 F₁) N₂) (fun f s₂ q => ?_) fun _ _ e => e
    have fin : (∃ (vs : List Value) (n : Nat) (c : τ) (h' : Heap) (tk : Nat) (m' : Str → Option Value), s₂ = { s with heap := h', toks := tk } ∧ Fr h₀ env.locals h' m' ∧ News h₀ env.locals h' ((D, listOf vs.toArray n) :: (own ++ rest)) ∧
      (∀ p ∈ ps c, m' p.1 = some p.2) ∧ (∀ z, z ≠ x → (∀ p ∈ ps c, z ≠ p.1) → stored.contains z = false → m' z = m₀ z) ∧ P (i + 1) vs c) → LoopStepU h₀ env.locals wr own (J (i + 1)) { s with heap := hh', toks := tk' } .next s₂ := by
      rintro ⟨vs', n', c', h', tk, m', rfl, F', N', hk', hr', hP'⟩
      refine ⟨rfl, h', tk, m', (D, listOf vs'.toArray n') :: rest, rfl, F', fun p hp => ?_, fun p hp => ?_, vs', n', c', rfl, hk', hr', hP'⟩
      · rcases List.mem_append.mp hp with hp | hp
        · exact N' _ (.tail _ (List.mem_append_left _ hp))
        · rcases List.mem_cons.mp hp with rfl | hp
          · exact N' _ (.head _)
          · exact N' _ (.tail _ (List.mem_append_right _ hp))
      · rcases List.mem_cons.mp hp with rfl | hp
        · exact hnw (D, listOf vs₀.toArray n₀) (.head _)
        · exact hnw p (.tail _ hp)
    cases f with
    | ret v => exact .ret q
    | brk => exact .brk q
    | next => exact .next (fin q)
    | cont => exact .cont (fin q)
  · rintro h' tk m' news' F' N' _ ⟨vs, k, c, rfl, h1, h2, hp'⟩
    exact done vs k c m' h' tk hp' (kst_frOut h1 h2 F') N'

/-- a loop over range(n), one list at the ledger's head -/
theorem lp_range1 {τ : Type} {D : Addr} {rest : List (Addr × Obj)} {vs₀ : List Value} {n₀ : Nat} {r : Addr} {n : Nat} {t₀ u₀ v₀ : Tok} {m₀ : Str → Option Value}
    (N : News h₀ env.locals s.heap ((D, listOf vs₀.toArray n₀) :: rest)) (ps : τ → List (Str × Value)) (stored : List Str) (P : Nat → List Value → τ → Prop)
    (hh : A.handled = none) (hr : IsRange s.heap r 0 (n : Int) 1 t₀ u₀ v₀) (hn : n ≤ 16777216) (hDr : ∀ p ∈ rest, p.1 ≠ D)
    (F : Fr h₀ env.locals s.heap m₀) (hs : ∃ c₀ : τ, (∀ p ∈ ps c₀, m₀ p.1 = some p.2) ∧ P 0 vs₀ c₀)
    (turn : ∀ (i : Nat) vs k (c : τ) t (u : Str → Option Value) h tk tl, i < n → (∀ p ∈ tl, p.1 ≠ D) → (∀ p ∈ rest, p ∈ tl) → P i vs c →
      Fr h₀ env.locals h (fun y => if y = x then some (.int (i : Int) t) else kstB (fun z => if stored.contains z then u z else m₀ z) (ps c) y) → News h₀ env.locals h ((D, listOf vs.toArray k) :: tl) →
      wpAny (model prog w) A (execs body env) (LpPost h₀ env.locals D tl ps x stored m₀ (P (i + 1)) Q { s with heap := h, toks := tk }) E { s with heap := h, toks := tk })
    (done : ∀ vs k (c : τ) (u : Str → Option Value) h tk, P n vs c → Fr h₀ env.locals h (fun y => if y = x then u y else kstB (fun z => if stored.contains z then u z else m₀ z) (ps c) y) → News h₀ env.locals h ((D, listOf vs.toArray k) :: rest) → Q .next { s with heap := h, toks := tk }) :
    wpAny (model prog w) A (pyIter (.ref r)) (fun it s₂ => LoopAtV prog w A h₀ env x body Q E it s₂) E s := by
  have hsmall : Builtin.Range.small 0 (n : Int) 1 = true := small_one (by omega) (by omega) (by omega) (by omega)
  have hsz : Builtin.Range.rangeSize 0 (n : Int) 1 = (n : Int) := by
    simp [Builtin.Range.rangeSize]; omega
  refine wpAny_pyIter_range hr hsmall ?_
  have W : Walks prog w A s.heap.objs.size [s.heap.objs.size] [s.heap.objs.size] n (fun i v => i < n ∧ ∃ t, v = .int (0 + i * 1) t)
      (fun i h => IsRangeIter h s.heap.objs.size (0 + (i : Nat) * 1) ((n : Int) - (i : Nat)) 1) := (Walks.range hh _ 0 1 n).bound
  have lts : ∀ p ∈ (D, listOf vs₀.toArray n₀) :: rest, p.1 < s.heap.objs.size := fun p hp => Heap.lt_size (N p hp).1
  refine lp_walk1 ps stored P W ?_ ?_ ?_ ?_ (by show IsRangeIter _ _ _ _ _; rw [hsz]; simpa using Heap.get?_push_size _ rfl) hDr (F.push _) (fun p hp => ⟨Heap.get?_push_of_some _ (N p hp).1, (N p hp).2⟩) hs ?_ done
  · intro hm
    exact absurd F.ns.lt ((List.mem_singleton.mp hm) ▸ Nat.lt_irrefl _)
  · intro b hb
    rw [List.mem_singleton.mp hb]
    exact next_is_new F
  · intro p hp hI
    exact absurd (lts p hp) ((List.mem_singleton.mp hI) ▸ Nat.lt_irrefl _)
  · intro b hb e
    exact absurd (lts _ (.head _)) (by rw [← e, List.mem_singleton.mp hb]; exact Nat.lt_irrefl _)
  · rintro i vs k c v u h tk tl hin ⟨_, t, rfl⟩ ht hrt hP F₁ N₁
    have e1 : (0 : Int) + (i : Int) * 1 = (i : Int) := by omega
    rw [e1] at F₁
    exact turn i vs k c t u h tk tl hin ht hrt hP F₁ N₁

/-- a loop over a list that the ledger holds behind its head -/
theorem lp_list1 {τ : Type} {D l : Addr} {rest : List (Addr × Obj)} {vs₀ ws : List Value} {n₀ : Nat} {m₀ : Str → Option Value}
    (N : News h₀ env.locals s.heap ((D, listOf vs₀.toArray n₀) :: rest)) (ps : τ → List (Str × Value)) (stored : List Str) (P : Nat → List Value → τ → Prop)
    (hh : A.handled = none) (hl : s.heap.IsList l ws.toArray) (hlL : l ≠ env.locals) (hlD : l ≠ D) (hDr : ∀ p ∈ rest, p.1 ≠ D)
    (F : Fr h₀ env.locals s.heap m₀) (hs : ∃ c₀ : τ, (∀ p ∈ ps c₀, m₀ p.1 = some p.2) ∧ P 0 vs₀ c₀)
    (turn : ∀ (i : Nat) vs k (c : τ) v (u : Str → Option Value) h tk tl, ws[i]? = some v → (∀ p ∈ tl, p.1 ≠ D) → (∀ p ∈ rest, p ∈ tl) → P i vs c →
      Fr h₀ env.locals h (fun y => if y = x then some v else kstB (fun z => if stored.contains z then u z else m₀ z) (ps c) y) → News h₀ env.locals h ((D, listOf vs.toArray k) :: tl) →
      wpAny (model prog w) A (execs body env) (LpPost h₀ env.locals D tl ps x stored m₀ (P (i + 1)) Q { s with heap := h, toks := tk }) E { s with heap := h, toks := tk })
    (done : ∀ vs k (c : τ) (u : Str → Option Value) h tk, P ws.length vs c → Fr h₀ env.locals h (fun y => if y = x then u y else kstB (fun z => if stored.contains z then u z else m₀ z) (ps c) y) → News h₀ env.locals h ((D, listOf vs.toArray k) :: rest) → Q .next { s with heap := h, toks := tk }) :
    wpAny (model prog w) A (pyIter (.ref l)) (fun it s₂ => LoopAtV prog w A h₀ env x body Q E it s₂) E s := by
  have lts : ∀ p ∈ (D, listOf vs₀.toArray n₀) :: rest, p.1 < s.heap.objs.size := fun p hp => Heap.lt_size (N p hp).1
  obtain ⟨ol, hol, _⟩ := id hl
  have hne : l ≠ s.heap.objs.size := Nat.ne_of_lt (Heap.lt_size hol)
  refine wpAny_pyIter_list hl ?_
  have W := Walks.list (prog := prog) (w := w) hh s.heap.objs.size l hne ws.toArray
  rw [List.size_toArray] at W
  refine lp_walk1 ps stored P W ?_ ?_ ?_ ?_ ⟨⟨_, Heap.get?_push_size _ rfl, rfl, rfl⟩, hl.at fun o e => Heap.get?_push_of_some _ e⟩ hDr (F.push _) (fun p hp => ⟨Heap.get?_push_of_some _ (N p hp).1, (N p hp).2⟩) hs ?_ done
  · intro hm
    rcases List.mem_cons.mp hm with e | hm
    · exact absurd F.ns.lt (e ▸ Nat.lt_irrefl _)
    · exact hlL (List.mem_singleton.mp hm).symm
  · intro b hb
    rw [List.mem_singleton.mp hb]
    exact next_is_new F
  · intro p hp hI
    exact absurd (lts p hp) ((List.mem_singleton.mp hI) ▸ Nat.lt_irrefl _)
  · intro b hb e
    rcases List.mem_cons.mp hb with e2 | hb
    · exact absurd (lts _ (.head _)) (by rw [← e, e2]; exact Nat.lt_irrefl _)
    · exact hlD ((List.mem_singleton.mp hb) ▸ e)
  · rintro i vs k c v u h tk tl hin hPv ht hrt hP F₁ N₁
    exact turn i vs k c v u h tk tl (by simpa using hPv) ht hrt hP F₁ N₁
end

section
variable {prog : Program} {w : World} {A : Around} {E : Value → Shared → Prop} {s : Shared} {h₀ : Heap} {L D : Addr} {m : Str → Option Value} {tl : List (Addr × Obj)} {vs ws : List Value} {n : Nat} {v : Value} {Q : Value → Shared → Prop}
theorem append_h (F : Fr h₀ L s.heap m) (N : News h₀ L s.heap ((D, listOf vs.toArray n) :: tl)) (hD : ∀ p ∈ tl, p.1 ≠ D) (hz : vs.length ≤ 16777215)
    (h : ∀ h' n', Fr h₀ L h' m → News h₀ L h' ((D, listOf (vs ++ [v]).toArray n') :: tl) → Q .none { s with heap := h' }) :
    wpAny (model prog w) A (call (.builtin "list.append") [.ref D, v]) Q E s := by
  refine append_K F N (.head hD) (fun h' F' N' => ?_) ?_
  · rw [List.push_toArray] at N'
    exact h h' _ F' N'
  · rw [sizeLine_eq]; simp; omega
end
section
variable {M : Model} {A : Around} {E : Value → Shared → Prop} {s : Shared}
/-- a post that is named, so that a walk does not write it out at each step -/
theorem wp_hide {α : Type} {c : Sem α} {R : α → Shared → Prop} (h : ∀ QH : α → Shared → Prop, (∀ f s', R f s' → QH f s') → wpAny M A c QH E s) : wpAny M A c R E s := h R fun _ _ q => q
theorem wp_hideT {β : Type} {c : Sem Bool} {d : Sem β} {R : β → Shared → Prop} {R2 : Shared → Prop} (h : ∀ (QT : β → Shared → Prop) (QF : Shared → Prop), (∀ f s', R f s' → QT f s') → (∀ s', R2 s' → QF s') → wpAny M A c (fun b s₂ => if b = true then wpAny M A d QT E s₂ else QF s₂) E s) :
    wpAny M A c (fun b s₂ => if b = true then wpAny M A d R E s₂ else R2 s₂) E s := h R R2 (fun _ _ q => q) fun _ q => q
end
end
section
/- R4 -/
open Builtin
section
variable {prog : Program} {w : World} {A : Around} {E : Value → Shared → Prop} {s : Shared} {h₀ : Heap} {L D l b : Addr} {m : Str → Option Value} {news tl : List (Addr × Obj)} {vs ws : List Value} {n : Nat} {v : Value} {Q : Value → Shared → Prop}
theorem newsList (N : News h₀ L s.heap news) (hm : (l, listOf vs.toArray n) ∈ news) : s.heap.IsList l vs.toArray := ⟨_, N.get hm, rfl, n, rfl⟩
theorem len_l (hl : s.heap.IsList l vs.toArray) (hz : vs.length ≤ 16777216) (h : ∀ t k, Q (.int (vs.length : Int) t) { s with toks := k }) : wpAny (model prog w) A (call (.builtin "len") [.ref l]) Q E s := by
  refine call_len_list hl (by simp; omega) ?_
  simpa using h _ _
theorem item_l {value slice : PySem.Expr} {xs : List (List UInt8)} {i : Int} {ui : Tok} (hl : s.heap.IsList l vs.toArray) (hb : BsAre vs xs) (h0 : 0 ≤ i) (h1 : i < (xs.length : Int)) (hz : xs.length ≤ 16777216) (h : ∀ t, Q (.bytes (xs.getD i.toNat []).toArray t) s)
    (hs : subscripted slice false (.ref l) (.int i ui) = operate [.ref l, .int i ui] (getItem (.ref l) (.int i ui)) := by with_unfolding_all rfl) :
    wpAny (model prog w) A (subscriptTail value slice (.ref l) (.int i ui)) Q E s := by
  have hlt : i.toNat < xs.length := by omega
  obtain ⟨t, ht⟩ := hb.get i.toNat (xs.getD i.toNat []) (by rw [List.getD_eq_getElem?_getD, List.getElem?_eq_getElem hlt]; rfl)
  exact tail_any hl.typeIs slot_list_getitem.lookup (wpAny_getItem_list hl h0 (by omega) (by simpa using ht) (h t)) hs
theorem add_l (F : Fr h₀ L s.heap m) (N : News h₀ L s.heap news) (hl : s.heap.IsList l vs.toArray) (hb : s.heap.IsList b ws.toArray) (hz : vs.length + ws.length ≤ 16777216)
    (h : ∀ D h', Fr h₀ L h' m → News h₀ L h' ((D, listOf (vs ++ ws).toArray 0) :: news) → (∀ p ∈ news, p.1 < D) → Q (.ref D) { s with heap := h' }) : wpAny (model prog w) A (binaryOp .Add (.ref l) (.ref b)) Q E s :=
  add_lists (hsz := by rw [sizeLine_eq]; exact hz) F N hl hb fun h' F' N' => h _ h' F' N' fun p hp => Heap.lt_size (N p hp).1
theorem slicePick_part (lo hi : Option Int) : slicePick vs.toArray lo hi none = (part vs lo hi).toArray := by
  rw [slicePick_plain]
  unfold part
  simp
theorem slice_l {value slice : PySem.Expr} {p q : Value} {lo hi : Option Int} (F : Fr h₀ L s.heap m) (N : News h₀ L s.heap news) (hl : s.heap.IsList l vs.toArray) (pl : IsPart p lo) (pu : IsPart q hi) (hz : vs.length ≤ 16777216)
    (h : ∀ D h', Fr h₀ L h' m → News h₀ L h' ((D, listOf (part vs lo hi).toArray 0) :: news) → (∀ p ∈ news, p.1 < D) → Q (.ref D) { s with heap := h' })
    (hs : subscripted slice false (.ref l) (.ref s.heap.objs.size) = operate [.ref s.heap.objs.size, .ref l] (getItem (.ref l) (.ref s.heap.objs.size)) := by with_unfolding_all rfl)
    (ht : ∀ r, letTemporaryGo value (.ref l) r = pure () := by intro _; with_unfolding_all rfl) :
    wpAny (model prog w) A (subscriptTail value slice (.ref l) (.ref s.heap.objs.size)) Q E { s with heap := s.heap.push { cls := .type "slice", data := .fields #[p, q, .none] } } := by
  have N₁ : News h₀ L (s.heap.push { cls := .type "slice", data := .fields #[p, q, .none] }) news := fun p hp => ⟨Heap.get?_push_of_some _ (N p hp).1, (N p hp).2⟩
  have F₁ := F.push { cls := .type "slice", data := .fields #[p, q, .none] }
  refine tail_of_ItemOn ⟨"list", _, list_getitem_lookup, (hl.push _).typeIs, wpAny_getItem_list_slice (hl.push _) (Heap.IsSliceOf.new ..) pl pu .none (by simp) ?_ (by rw [sizeLine_eq]; simpa using hz)⟩ hs ht
  rw [slicePick_part]
  exact h _ _ (F₁.push _) (N₁.push F₁ _) fun p hp => Heap.lt_size (N₁ p hp).1
theorem extend_h {k : Nat} (F : Fr h₀ L s.heap m) (N : News h₀ L s.heap ((D, listOf vs.toArray n) :: tl)) (hD : ∀ p ∈ tl, p.1 ≠ D) (hb : (b, listOf ws.toArray k) ∈ tl) (hz : vs.length + ws.length ≤ 16777215)
    (h : ∀ h' n', Fr h₀ L h' m → News h₀ L h' ((D, listOf (vs ++ ws).toArray n') :: tl) → Q .none { s with heap := h' }) :
    wpAny (model prog w) A (call (.builtin "list.extend") [.ref D, .ref b]) Q E s := by
  have gD := (N _ (.head _)).1
  have gb := (N _ (.tail _ hb)).1
  have hT : s.TypeIs (.ref D) "list" := ⟨_, gD, rfl⟩
  refine call_meets PySem.F.slot_list_extend hT PySem.F.entry_list_extend (PySem.F.args_list_extend_2 _ _) (AutoSeq1.list_extend_list_list_0 D vs.toArray n b ws.toArray k ?_ ?_ ?_) ⟨gD, gb, ?_⟩
  · intro e
    simp only [Bool.and_eq_true, List.size_toArray] at e
    have := e.2
    unfold Builtin.List.listTooLong at this
    rw [sizeLine_eq] at this
    have := of_decide_eq_true this
    omega
  · rw [sizeLine_eq, List.size_toArray]; omega
  · rw [sizeLine_eq, List.size_toArray, List.size_toArray]; omega
  · obtain ⟨F', N'⟩ := news_upd (pre := []) (post := tl) (f := Obj.mapSeq fun x => x ++ ws.toArray) (o' := (Obj.mapSeq fun x => x ++ ws.toArray) (listOf vs.toArray n)) F N (fun _ h => nomatch h) hD rfl rfl
    have e : (Obj.mapSeq fun x => x ++ ws.toArray) (listOf vs.toArray n) = listOf (vs ++ ws).toArray (if (vs.toArray ++ ws.toArray).size == vs.toArray.size then n else n + 1) := by
      simp [Obj.mapSeq, W.listOf]
    rw [e] at N'
    exact h _ _ F' N'
theorem extend_3 {S P : Addr} {op : Obj} {k : Nat} (F : Fr h₀ L s.heap m) (N : News h₀ L s.heap ((S, listOf ws.toArray k) :: (P, op) :: (D, listOf vs.toArray n) :: tl)) (hD : ∀ p ∈ tl, p.1 ≠ D) (hS : S ≠ D) (hz : vs.length + ws.length ≤ 16777215)
    (h : ∀ h' n', Fr h₀ L h' m → News h₀ L h' ((D, listOf (vs ++ ws).toArray n') :: tl) → Q .none { s with heap := h' }) :
    wpAny (model prog w) A (call (.builtin "list.extend") [.ref D, .ref S]) Q E s := by
  refine extend_h (n := n) (k := k) (tl := (S, listOf ws.toArray k) :: tl) F (fun p hp => ?_) (fun p hp => ?_) (.head _) hz fun h' n' F' N' => h h' n' F' fun p hp => ?_
  · rcases List.mem_cons.mp hp with rfl | hp
    · exact N _ (.tail _ (.tail _ (.head _)))
    · rcases List.mem_cons.mp hp with rfl | hp
      · exact N _ (.head _)
      · exact N _ (.tail _ (.tail _ (.tail _ hp)))
  · rcases List.mem_cons.mp hp with rfl | hp
    · exact hS
    · exact hD p hp
  · rcases List.mem_cons.mp hp with rfl | hp
    · exact N' _ (.head _)
    · exact N' _ (.tail _ (.tail _ hp))
theorem newsSwap {a b : Addr × Obj} {h : Heap} (N : News h₀ L h (a :: b :: tl)) : News h₀ L h (b :: a :: tl) := fun p hp => by
  rcases List.mem_cons.mp hp with rfl | hp
  · exact N _ (.tail _ (.head _))
  · rcases List.mem_cons.mp hp with rfl | hp
    · exact N _ (.head _)
    · exact N _ (.tail _ (.tail _ hp))
end
end
section
/- P1 -/
open Builtin

/-- the lines between CR LFs -/
noncomputable def splitCR : List UInt8 → List (List UInt8)
  | [] => [[]]
  | [c] => [[c]]
  | c :: d :: r => if c = 13 ∧ d = 10 then [] :: splitCR r else match splitCR (d :: r) with
    | h :: t => (c :: h) :: t
    | [] => [[c]]
theorem splitCR_ne : ∀ x, splitCR x ≠ []
  | [] => by simp [splitCR]
  | [c] => by simp [splitCR]
  | c :: d :: r => by
    unfold splitCR
    split
    · simp
    · split <;> simp

/-- octets cut at places, two octets left out at each -/
noncomputable def cuts (x : List UInt8) : Nat → List Nat → List (List UInt8)
  | k, [] => [x.drop k]
  | k, p :: r => (x.drop k).take (p - k) :: cuts x (p + 2) r
theorem between_cuts (x : List UInt8) (ps : List Nat) : (Bytes.between x.toArray 2 ps).map (·.toList) = cuts x 0 ps := by
  unfold Bytes.between
  have key : ∀ (ps : List Nat) (a : Array (Array UInt8)) (k : Nat),
      (let q := ps.foldl (fun (q : Array (Array UInt8) × Nat) p => (q.1.push (x.toArray.extract q.2 p), p + 2)) (a, k)
       (q.1.push (x.toArray.extract q.2 x.toArray.size)).toList.map (·.toList)) = a.toList.map (·.toList) ++ cuts x k ps := by
    intro ps
    induction ps with
    | nil =>
      intro a k
      simp only [List.foldl_nil, cuts, Array.toList_push, List.map_append, List.map_cons, List.map_nil, List.extract_toArray, List.size_toArray, List.extract_eq_take_drop]
      rw [List.take_of_length_le (by simp)]
    | cons p r ih =>
      intro a k
      simp only [List.foldl_cons]
      rw [ih]
      simp only [cuts, Array.toList_push, List.map_append, List.map_cons, List.map_nil, List.extract_toArray, List.extract_eq_take_drop, List.append_assoc, List.cons_append, List.nil_append]
  have := key ps #[] 0
  simpa using this

noncomputable def occStep (x : List UInt8) (acc : List Nat × Nat) (i : Nat) : List Nat × Nat :=
  if i ≥ acc.2 && x.toArray.extract i (i + 2) == #[13, 10] then (i :: acc.1, i + 2) else acc
theorem at_pair (x : List UInt8) (i : Nat) : (x.toArray.extract i (i + 2) == #[13, 10]) = decide (x[i]? = some 13 ∧ x[i + 1]? = some 10) := by
  rw [List.extract_toArray, List.extract_eq_take_drop, show i + 2 - i = 2 by omega]
  have e : ((x.drop i).take 2).toArray = #[13, 10] ↔ x[i]? = some 13 ∧ x[i + 1]? = some 10 := by
    have h1 : x[i]? = (x.drop i)[0]? := by simp
    have h2 : x[i + 1]? = (x.drop i)[1]? := by simp
    rw [h1, h2]
    generalize x.drop i = y
    match y with
    | [] => simp
    | [c] => simp
    | c :: d :: r => simp
  by_cases h : x[i]? = some 13 ∧ x[i + 1]? = some 10
  · rw [decide_eq_true h, e.mpr h]; rfl
  · rw [decide_eq_false h]
    have : ¬ ((x.drop i).take 2).toArray = #[13, 10] := fun q => h (e.mp q)
    simpa using this

theorem occ_run (x : List UInt8) : ∀ (j k : Nat) (acc : List Nat) (nx : Nat), k + j = x.length - 1 → nx ≤ k → k ≤ x.length →
    ∃ ps, ((List.range' k j).foldl (occStep x) (acc, nx)).1 = ps.reverse ++ acc ∧ cuts x k ps = splitCR (x.drop k) ∧ ps.length ≤ j ∧ ∀ p ∈ ps, k ≤ p := by
  intro j
  induction j using Nat.strongRecOn with
  | ind j ih =>
    intro k acc nx hj hnx hk
    match j, ih with
    | 0, _ =>
      refine ⟨[], by simp, ?_, Nat.le_refl _, by simp⟩
      have hl : (x.drop k).length ≤ 1 := by rw [List.length_drop]; omega
      unfold cuts
      match x.drop k, hl with
      | [], _ => simp [splitCR]
      | [c], _ => simp [splitCR]
    | j + 1, ih =>
      have hlt : k + 1 < x.length := by omega
      have hd : x.drop k = x[k] :: x[k + 1] :: x.drop (k + 2) := by
        rw [List.drop_eq_getElem_cons (by omega), List.drop_eq_getElem_cons hlt]
      rw [List.range'_succ, List.foldl_cons]
      have g1 : x[k]? = some x[k] := List.getElem?_eq_getElem (by omega)
      have g2 : x[k + 1]? = some x[k + 1] := List.getElem?_eq_getElem hlt
      by_cases hc : x[k] = 13 ∧ x[k + 1] = 10
      · have hs : occStep x (acc, nx) k = (k :: acc, k + 2) := by
          unfold occStep
          rw [at_pair, g1, g2]
          simp [hnx, hc]
        rw [hs]
        have hcr : splitCR (x.drop k) = [] :: splitCR (x.drop (k + 2)) := by rw [hd, splitCR, if_pos hc]
        match j, ih, hj with
        | 0, _, hj =>
          refine ⟨[k], by simp, ?_, Nat.le_refl _, by simp⟩
          have h2 : x.drop (k + 2) = [] := List.drop_eq_nil_of_le (by omega)
          rw [hcr, h2]
          simp [cuts, h2, splitCR]
        | j + 1, ih, hj =>
          rw [List.range'_succ, List.foldl_cons]
          have hs2 : occStep x (k :: acc, k + 2) (k + 1) = (k :: acc, k + 2) := by
            unfold occStep
            have : decide (k + 1 ≥ k + 2) = false := decide_eq_false (by omega)
            simp only [this, Bool.false_and, Bool.false_eq_true, if_false]
          rw [hs2]
          obtain ⟨ps, e1, e2, e3, e4⟩ := ih j (by omega) (k + 1 + 1) (k :: acc) (k + 2) (by omega) (by omega) (by omega)
          refine ⟨k :: ps, ?_, ?_, ?_, ?_⟩
          · rw [e1]; simp
          · rw [hcr]
            unfold cuts
            rw [show k + 2 = k + 1 + 1 from rfl, e2]
            simp
          · simp; omega
          · intro p hp
            rcases List.mem_cons.mp hp with rfl | hp
            · exact Nat.le_refl _
            · have := e4 p hp; omega
      · have hs : occStep x (acc, nx) k = (acc, nx) := by
          unfold occStep
          rw [at_pair, g1, g2]
          simp only [Option.some.injEq, hc, decide_false, Bool.and_false, Bool.false_eq_true, if_false]
        rw [hs]
        obtain ⟨ps, e1, e2, e3, e4⟩ := ih j (by omega) (k + 1) acc nx (by omega) (by omega) (by omega)
        refine ⟨ps, e1, ?_, by omega, fun p hp => by have := e4 p hp; omega⟩
        have hcr : splitCR (x.drop k) = match splitCR (x.drop (k + 1)) with
            | h :: t => (x[k] :: h) :: t
            | [] => [[x[k]]] := by
          rw [hd, List.drop_eq_getElem_cons hlt]
          conv => lhs; unfold splitCR
          rw [if_neg hc]
        have hd1 : x.drop k = x[k] :: x.drop (k + 1) := List.drop_eq_getElem_cons (by omega)
        rw [hcr, ← e2]
        match ps, e4 with
        | [], _ => simp only [cuts]; rw [hd1]
        | p :: r, e4 =>
          have hp := e4 p (.head _)
          simp only [cuts]
          rw [hd1, show p - k = (p - (k + 1)) + 1 by omega, List.take_succ_cons]

theorem occ_all (x : List UInt8) : Bytes.occurrences x.toArray #[13, 10] 0 x.length = ((List.range' 0 (x.length - 1)).foldl (occStep x) ([], 0)).1.reverse := by
  unfold Bytes.occurrences
  have e : x.length + 1 - (0 + (#[13, 10] : Array UInt8).size) = x.length - 1 := by simp
  rw [e]
  have e2 : (List.range (x.length - 1)).map (· + 0) = List.range' 0 (x.length - 1) := by
    rw [List.range_eq_range']; simp
  rw [e2]
  rfl

theorem cutAt_CR (x : List UInt8) : cutAt x [13, 10] = splitCR x ∧ (Bytes.occurrences x.toArray #[13, 10] 0 x.length).length ≤ x.length := by
  obtain ⟨ps, e1, e2, e3, _⟩ := occ_run x (x.length - 1) 0 [] 0 (by omega) (Nat.le_refl _) (Nat.zero_le _)
  have eo : Bytes.occurrences x.toArray #[13, 10] 0 x.length = ps := by rw [occ_all, e1]; simp
  refine ⟨?_, by rw [eo]; omega⟩
  unfold cutAt
  show (Bytes.between x.toArray 2 (Bytes.occurrences x.toArray #[13, 10] 0 x.length)).map (·.toList) = _
  rw [eo, between_cuts, e2, List.drop_zero]

theorem splitCR_len : ∀ x, (splitCR x).length ≤ x.length + 1 ∧ (splitCR x).flatten.length ≤ x.length
  | [] => by simp [splitCR]
  | [c] => by simp [splitCR]
  | c :: d :: r => by
    unfold splitCR
    split
    · have := splitCR_len r
      simp only [List.length_cons, List.flatten_cons, List.nil_append]; omega
    · have := splitCR_len (d :: r)
      split
      · rename_i h t e
        rw [e] at this
        simp only [List.length_cons, List.flatten_cons, List.length_append] at this ⊢; omega
      · simp
theorem mem_flat_le {xs : List (List UInt8)} {p : List UInt8} (h : p ∈ xs) : p.length ≤ xs.flatten.length := by
  induction xs with
  | nil => cases h
  | cons y r ih =>
    rw [List.flatten_cons, List.length_append]
    rcases List.mem_cons.mp h with rfl | h
    · omega
    · have := ih h; omega
end
local macro_rules | `(tactic| walk_at $s:str) => `(tactic| k_extra $(Lean.quote ("my " ++ s.getString)))
section
/- M1 -/
open Builtin
theorem filled : hd.heap_1 = hd.heap_1 ∧ PySem.Challenge.rw_no0355_01 = PySem.Challenge.rw_no0355_01 := by
  k_fill
  exact ⟨rfl, rfl⟩
theorem rows_1 : True := by
  k_with_none
  k_with "my getMethod bytes" => (k_here; first | refine method_b slot_bytes_find type_bytes_find ?_ | refine method_b slot_bytes_index type_bytes_index ?_ | refine method_b slot_bytes_lower type_bytes_lower ?_ | refine method_b slot_bytes_rstrip type_bytes_rstrip ?_ | refine method_b slot_bytes_split type_bytes_split ?_ | refine method_b slot_bytes_join type_bytes_join ?_)
  k_with "my call builtin:bytes.find" => (k_here; first | refine call_find3 ?_ | refine call_find2 ?_; intro _ _)
  k_with "my call builtin:bytes.lower" => (k_here; refine call_lower (Side.out ?_) ?_; rotate_left; intro _ _)
  k_with "my call builtin:bytes.rstrip" => (k_here; refine call_rstrip (Side.out ?_) ?_; rotate_left; intro _ _)
  k_with "my binaryOp Add bytes bytes" => (k_here; refine add_b (Side.out ?_) ?_; rotate_left; intro _ _)
  k_with "my subscriptTail" => (k_here; (with_reducible show wpAny _ _ (subscriptTail _ _ (Value.bytes (List.toArray _) _) (Value.int _ _)) _ _ _); (refine item_b (Side.out ?_) (Side.out ?_) (Side.out ?_) ?_; rotate_left; rotate_left; rotate_left; intro _ _))
  k_with "my subscriptTail" => (k_here; (with_reducible show wpAny _ _ (subscriptTail _ (Expr.Slice _ _ none _) (Value.bytes (List.toArray _) _) (Value.ref _)) _ _ _); (with_reducible rename Fr _ _ _ _ => F'); (with_reducible rename News _ _ _ _ => N'); (refine slice_b (s := ⟨_, _, _, _, _⟩) F' N' (by constructor) (by constructor) (Side.out ?_) ?_; rotate_left; intro _ _ _ _ _))
  k_with "my call builtin:len" => (k_here; (with_reducible show wpAny _ _ (call (Value.builtin "len") [Value.bytes (List.toArray _) _]) _ _ _); (refine len_b (Side.out ?_) ?_; rotate_left; intro _ _))
  k_with "my binaryOp FloorDiv int int" => (k_here; refine fdiv_i (by first | decide | omega) (by exact PyProof.noPylong_small (by omega)) ?_; intro _ _)
  k_with "my binaryOp Mod int int" => (k_here; refine fmod_i (by first | decide | omega) ?_; intro _ _)
  k_with "my call type:bytes" => (k_here; (with_reducible show wpAny _ _ (call (Value.type _) [Value.ref _]) _ _ _); k_dflt (refine' bytes_d (by k_asm) (by k_asm) ?q11i (Side.out ?_) (Side.out ?_) ?q11h ?_; (case q11i => first | l_ints | assumption); (case q11h => with_unfolding_all rfl)); rotate_left; rotate_left; intro _ _ _ _ _; (try k_sweep))
  k_with "my dropN" => first | k_asm | (refine' cb_drop ?q12cbN ?q12cbS; (case q12cbN => assumption); (case q12cbS => kcj_all))
  k_with "my sides" => (all_goals try (show Side _; unfold Side; first | assumption | omega | (simp only [List.length_cons, List.length_nil]; omega) | (simp only [List.length_append, List.length_map, List.length_cons, List.length_nil]; omega) | decide))
  k_with "my cx" => exact ⟨by k_asm, by k_asm, by k_asm, by k_asm, by k_asm, by first | exact rfl | assumption⟩
  trivial
noncomputable def hexWorth (c : Int) : Int := if 48 ≤ c ∧ c ≤ 57 then c - 48 else if 65 ≤ c ∧ c ≤ 70 then c - 55 else if 97 ≤ c ∧ c ≤ 102 then c - 87 else -1
noncomputable def isPlain (c : Int) : Bool := c == 32 || c == 9 || (decide (33 ≤ c) && decide (c ≤ 126) && c != 61)
/-- the sign of a hex figure -/
noncomputable def hexSign (n : Nat) : UInt8 := (48 + n + 7 * (n / 10)).toUInt8
noncomputable def quotedCode (c : Nat) : List UInt8 := [61, hexSign (c / 16), hexSign (c % 16)]

section
variable {w : World} {mean : ExcName → Option Value} {mg mb : Str → Option Value} {dp un : Nat} {gd : Option (List Code)} {cn : Str} {cs : Scope} {a : Addr} {ccd : Value} {cl : List (Str × Addr)} {outer : List Env} {A₀ : Around} {base h₀ : Heap} {L : Addr} {m : Str → Option Value} {news : List (Addr × Obj)} {s : Shared} {Q E : Value → Shared → Prop}

theorem use_hex_worth (C : Cx w mean mg mb A₀ base outer h₀ L s.heap m news cs) (hd : dp + 1 < recursionLimit) (hu : un + 8 < cLine) {c : Int} {t : Tok}
    (hret : ∀ t' h' tk', Fr h₀ L h' m → News h₀ L h' news → Q (.int (hexWorth c) t') { s with heap := h', toks := tk' }) :
    wpAny (model PySem.Challenge.rw_no0355_01.row.toRowW.prog w) (ktrTop dp un gd cn cs L a ccd cl outer) (call (.ref 68) [.int c t]) Q E s := by
  obtain ⟨B, F, X, N, T, hk⟩ := C
  refine wpAny_call ?_
  k_dflt cell_enter
  k_steps
  all_goals (simp only [decide_eq_true_eq, decide_eq_false_iff_not] at *; refine cb_retI (Q := Q) hret ?_ (by k_asm) (by k_asm); unfold hexWorth; (repeat' split) <;> omega)

theorem use_is_plain (C : Cx w mean mg mb A₀ base outer h₀ L s.heap m news cs) (hd : dp + 1 < recursionLimit) (hu : un + 8 < cLine) {c : Int} {t : Tok}
    (hret : ∀ (t' : Tok) h' tk', Fr h₀ L h' m → News h₀ L h' news → Q (.bool (isPlain c)) { s with heap := h', toks := tk' }) :
    wpAny (model PySem.Challenge.rw_no0355_01.row.toRowW.prog w) (ktrTop dp un gd cn cs L a ccd cl outer) (call (.ref 82) [.int c t]) Q E s := by
  obtain ⟨B, F, X, N, T, hk⟩ := C
  refine wpAny_call ?_
  k_dflt cell_enter
  k_steps
  all_goals (refine cb_retB (Q := Q) hret ?_ (by k_asm) (by k_asm); unfold isPlain; clear B F X N T; simp only [beq_iff_eq, beq_eq_false_iff_ne, decide_eq_true_eq, decide_eq_false_iff_not, ne_eq] at *; rw [Bool.eq_iff_iff]; simp only [Bool.or_eq_true, Bool.and_eq_true, beq_iff_eq, decide_eq_true_eq, bne_iff_ne]; omega)

theorem hexSign_at : ∀ n : Nat, n < 16 → ([48, 49, 50, 51, 52, 53, 54, 55, 56, 57, 65, 66, 67, 68, 69, 70] : List UInt8).getD n 0 = hexSign n := by decide
theorem use_quoted_code (C : Cx w mean mg mb A₀ base outer h₀ L s.heap m news cs) (hd : dp + 1 < recursionLimit) (hu : un + 8 < cLine) {c : Nat} {t : Tok} (hc : c < 256)
    (hret : ∀ (t' : Tok) h' tk', Fr h₀ L h' m → News h₀ L h' news → Q (.bytes (quotedCode c).toArray t') { s with heap := h', toks := tk' }) :
    wpAny (model PySem.Challenge.rw_no0355_01.row.toRowW.prog w) (ktrTop dp un gd cn cs L a ccd cl outer) (call (.ref 61) [.int c t]) Q E s := by
  obtain ⟨B, F, X, N, T, hk⟩ := C
  refine wpAny_call ?_
  k_dflt cell_enter
  k_steps
  walk_at "sides"
  · refine ret_b (Q := Q) hret ?_ (by k_asm) (by walk_at "dropN")
    have e1 : ((c : Int) / 16).toNat = c / 16 := by omega
    have e2 : ((c : Int) % 16).toNat = c % 16 := by omega
    simp only [List.map_cons, List.map_nil, byte_int, e1, e2, hexSign_at _ (show c / 16 < 16 by omega), hexSign_at _ (show c % 16 < 16 by omega)]
    rfl
  · unfold Side
    simp only [List.forall_mem_cons]
    exact ⟨by decide, byte_lt _, byte_lt _, fun _ h => nomatch h⟩
end
theorem rows_2 : True := by
  k_with "my call ref" => (k_here; k_dflt (refine' use_hex_worth (by walk_at "cx") (by ktr_room) (by ktr_units) ?_); intro _ _ _ _ _)
  k_with "my call ref" => (k_here; k_dflt (refine' use_is_plain (by walk_at "cx") (by ktr_room) (by ktr_units) ?_); intro _ _ _ _ _)
  k_with "my call ref" => (k_here; k_dflt (refine' use_quoted_code (by walk_at "cx") (by ktr_room) (by ktr_units) (Side.out ?_) ?_); rotate_left; intro _ _ _ _ _)
  trivial
section
variable {w : World} {mean : ExcName → Option Value} {mg mb : Str → Option Value} {dp un : Nat} {gd : Option (List Code)} {cn : Str} {cs : Scope} {a : Addr} {ccd : Value} {cl : List (Str × Addr)} {outer : List Env} {A₀ : Around} {base h₀ : Heap} {L : Addr} {m : Str → Option Value} {news : List (Addr × Obj)} {s : Shared} {Q E : Value → Shared → Prop}
noncomputable def quotedAt (x : List UInt8) (i : Nat) : Int :=
  if i + 2 ≥ x.length then -1
  else if hexWorth ((x.getD (i + 1) 0).toNat : Int) ≥ 0 ∧ hexWorth ((x.getD (i + 2) 0).toNat : Int) ≥ 0 then 16 * hexWorth ((x.getD (i + 1) 0).toNat : Int) + hexWorth ((x.getD (i + 2) 0).toNat : Int) else -1
theorem use_quoted_at (C : Cx w mean mg mb A₀ base outer h₀ L s.heap m news cs) (hd : dp + 2 < recursionLimit) (hu : un + 16 < cLine) {x : List UInt8} {i : Nat} {t u : Tok} (hx : x.length ≤ 16777216)
    (hret : ∀ t' h' tk', Fr h₀ L h' m → News h₀ L h' news → Q (.int (quotedAt x i) t') { s with heap := h', toks := tk' }) :
    wpAny (model PySem.Challenge.rw_no0355_01.row.toRowW.prog w) (ktrTop dp un gd cn cs L a ccd cl outer) (call (.ref 75) [.bytes x.toArray t, .int (i : Int) u]) Q E s := by
  obtain ⟨B, F, X, N, T, hk⟩ := C
  refine wpAny_call ?_
  k_dflt cell_enter
  k_steps
  walk_at "sides"
  all_goals (refine cb_retI (Q := Q) hret ?_ (by k_asm) (by k_asm); clear hret B F X N T; have e1 : ((i : Int) + 1).toNat = i + 1 := (by omega); have e2 : ((i : Int) + 2).toNat = i + 2 := (by omega); simp only [e1, e2, decide_eq_true_eq, decide_eq_false_iff_not] at *; unfold quotedAt; (repeat' split) <;> omega)
end
theorem rows_3 : True := by
  k_with "my exec For Name Call cons nil" => (k_here; refine Stop.mk ?_)
  k_with "my exec For Name Name cons nil" => (k_here; refine Stop.mk ?_)
  k_with "my pyIter ref" => ((with_reducible show wpAny _ _ (pyIter (Value.ref _)) (fun it s₂ => LoopAtV _ _ _ _ _ _ _ _ _ it s₂) _ _); refine Stop.mk ?_)
  k_with "my InvPostN" => (dsimp only [InvPostN])
  k_with "my InvEndN" => (refine Stop.mk ?_)
  k_with "my call builtin:list.append" => (k_here; (with_reducible show wpAny _ _ (call (Value.builtin _) [Value.ref _, _]) _ _ _); k_dflt (refine' append_h (by k_asm) (by k_asm) (Side.out ?_) (Side.out ?_) ?_); rotate_left; rotate_left; intro _ _ _ _; (try k_sweep))
  k_with "my frameSame" => (intro _ h1 h2 h3; (try simp only [List.forall_mem_cons, List.not_mem_nil, false_implies, implies_true, and_true, ne_eq] at h2); (try simp only [List.contains_cons, List.contains_nil, Bool.or_false, Bool.or_eq_false_iff, beq_eq_false_iff_ne, ne_eq] at h3); first | (simp [kstB, h1, h2, h3]; done) | (simp [kstB, h1, h3]; done) | (simp [kstB, h1, h2]; done) | (simp [kstB, h1]; done))
  k_with "my memNil" => exact (fun _ h => nomatch h)
  k_with "my call ref" => (k_here; k_dflt (refine' use_quoted_at (by walk_at "cx") (by ktr_room) (by ktr_units) (Side.out ?_) ?_); rotate_left; intro _ _ _ _ _)
  trivial
section
variable {w : World} {mean : ExcName → Option Value} {mg mb : Str → Option Value} {dp un : Nat} {gd : Option (List Code)} {cn : Str} {cs : Scope} {a : Addr} {ccd : Value} {cl : List (Str × Addr)} {outer : List Env} {A₀ : Around} {base h₀ : Heap} {L : Addr} {m : Str → Option Value} {news : List (Addr × Obj)} {s : Shared} {Q E : Value → Shared → Prop}
noncomputable def isWhite (c : UInt8) : Bool := ((c.toNat : Int) == 32) || ((c.toNat : Int) == 9)
/-- the piece of the sign c; whether it is a line's last one -/
noncomputable def pieceOf (c : UInt8) (last : Bool) : List UInt8 := if isPlain (c.toNat : Int) && !(isWhite c && last) then [c] else quotedCode c.toNat
noncomputable def linePieces (x : List UInt8) : List (List UInt8) := (List.range x.length).map fun i => pieceOf (x.getD i 0) ((i : Int) == (x.length : Int) - 1)
theorem pieces_step {vs : List Value} {x : List UInt8} {i : Nat} {p : List UInt8} {t : Tok} (hP : BsAre vs ((linePieces x).take i)) (hi : i < x.length) (e : pieceOf (x.getD i 0) ((i : Int) == (x.length : Int) - 1) = p) :
    BsAre (vs ++ [.bytes p.toArray t]) ((linePieces x).take (i + 1)) := by
  have e1 : (linePieces x).take (i + 1) = (linePieces x).take i ++ [p] := by
    rw [List.take_add_one]
    have : (linePieces x)[i]? = some p := by
      unfold linePieces
      rw [List.getElem?_map, List.getElem?_range hi, Option.map_some, e]
    rw [this]
    rfl
  rw [e1]
  exact hP.append (.one p t)
theorem part_one {x : List UInt8} {i : Nat} (hi : i < x.length) : part x (some (i : Int)) (some ((i : Int) + 1)) = [x.getD i 0] := by
  unfold part
  have h1 : clipAt x.length (i : Int) = i := by
    have := clipAt_nat x.length i
    rw [this]; omega
  have h2 : clipAt x.length ((i : Int) + 1) = i + 1 := by
    have := clipAt_nat x.length (i + 1)
    rw [Int.natCast_add, Int.natCast_one] at this
    rw [this]; omega
  simp only [Option.elim, h1, h2]
  rw [show i + 1 - i = 1 by omega, List.getD_eq_getElem?_getD, List.getElem?_eq_getElem hi, List.drop_eq_getElem_cons hi]
  rfl
theorem use_line_pieces (C : Cx w mean mg mb A₀ base outer h₀ L s.heap m news cs) (hd : dp + 2 < recursionLimit) (hu : un + 16 < cLine) {x : List UInt8} {t : Tok} (hx : x.length ≤ 16777215)
    (hret : ∀ D vs k h' tk', BsAre vs (linePieces x) → Fr h₀ L h' m → News h₀ L h' ((D, listOf vs.toArray k) :: news) → (∀ p ∈ news, p.1 < D) → Q (.ref D) { s with heap := h', toks := tk' }) :
    wpAny (model PySem.Challenge.rw_no0355_01.row.toRowW.prog w) (ktrTop dp un gd cn cs L a ccd cl outer) (call (.ref 89) [.bytes x.toArray t]) Q E s := by
  obtain ⟨B, F, X, N, T, hk⟩ := C
  refine wpAny_call ?_
  k_dflt cell_enter
  rename Fr _ _ _ _ => F1
  replace F1 : Fr _ _ _ (fun y => List.lookup y [(Str.ofString "line", Value.bytes x.toArray t)]) := F1
  k_steps
  walk_at "sides"
  unfold Stop
  refine For_invVF (by k_asm) rfl rfl ?_
  k_steps
  walk_at "sides"
  unfold Stop
  rename News _ _ _ _ => NN
  rename ∀ p ∈ news, p.1 < _ => lN
  refine lp_range1 NN (fun _ : Unit => []) ["is_white"] (fun i vs _ => BsAre vs ((linePieces x).take i)) rfl (by assumption) (by omega) ?_ (by k_asm) ?_ ?_ ?_
  · exact fun p hp => Nat.ne_of_lt (lN p hp)
  · refine ⟨(), ?_, ?_⟩
    · walk_at "memNil"
    · simpa using BsAre.nil
  · intro i vs k c t' u hh tk tl hi htl hrt hP F1 N1
    clear NN
    have hlen : vs.length ≤ 16777215 := by
      have := hP.length
      rw [List.length_take] at this
      omega
    refine wp_hide ?_
    intro QH hQH
    k_steps
    walk_at "sides"
    all_goals (try simp only [Int.toNat_natCast] at *)
    all_goals try (refine hQH _ _ ?_; refine lp_done () (by k_asm) (by k_asm) (fun _ h => nomatch h) (by walk_at "frameSame") (pieces_step hP hi ?_))
    all_goals first
      | (show Side _; exact (byte_lt _).2 |> Int.ofNat_lt.mp)
      | (unfold pieceOf isWhite; (try rw [part_one hi])
         (first | rw [(by assumption : isPlain (((x.getD i 0).toNat : Nat) : Int) = true)] | rw [(by assumption : isPlain (((x.getD i 0).toNat : Nat) : Int) = false)])
         cases hq1 : ((((x.getD i 0).toNat : Nat) : Int) == 32) <;> cases hq2 : ((((x.getD i 0).toNat : Nat) : Int) == 9) <;> cases hq3 : ((i : Int) == (x.length : Int) - 1) <;>
           first | rfl | (exfalso; simp only [beq_iff_eq, beq_eq_false_iff_ne, ne_eq] at hq1 hq2 hq3; omega))
  · intro vs k c u hh tk hP F1 N1
    k_steps
    refine hret _ _ _ _ _ ?_ (by k_asm) (by k_asm) lN
    rw [List.take_of_length_le (by simp [linePieces])] at hP
    exact hP
end
end
section
/- M2 -/
open Builtin
theorem filled2 : hd.heap_1 = hd.heap_1 ∧ PySem.Challenge.rw_no0355_01 = PySem.Challenge.rw_no0355_01 := by
  k_fill
  exact ⟨rfl, rfl⟩
theorem rows_4 : True := by
  k_with_none
  k_with "my getMethod bytes" => (k_here; first | refine method_b slot_bytes_find type_bytes_find ?_ | refine method_b slot_bytes_index type_bytes_index ?_ | refine method_b slot_bytes_lower type_bytes_lower ?_ | refine method_b slot_bytes_rstrip type_bytes_rstrip ?_ | refine method_b slot_bytes_split type_bytes_split ?_ | refine method_b slot_bytes_join type_bytes_join ?_)
  k_with "my call builtin:bytes.find" => (k_here; first | refine call_find3 ?_ | refine call_find2 ?_; intro _ _)
  k_with "my call builtin:bytes.lower" => (k_here; refine call_lower (Side.out ?_) ?_; rotate_left; intro _ _)
  k_with "my call builtin:bytes.rstrip" => (k_here; refine call_rstrip (Side.out ?_) ?_; rotate_left; intro _ _)
  k_with "my binaryOp Add bytes bytes" => (k_here; refine add_b (Side.out ?_) ?_; rotate_left; intro _ _)
  k_with "my subscriptTail" => (k_here; (with_reducible show wpAny _ _ (subscriptTail _ _ (Value.bytes (List.toArray _) _) (Value.int _ _)) _ _ _); (refine item_b (Side.out ?_) (Side.out ?_) (Side.out ?_) ?_; rotate_left; rotate_left; rotate_left; intro _ _))
  k_with "my subscriptTail" => (k_here; (with_reducible show wpAny _ _ (subscriptTail _ (Expr.Slice _ _ none _) (Value.bytes (List.toArray _) _) (Value.ref _)) _ _ _); (with_reducible rename Fr _ _ _ _ => F'); (with_reducible rename News _ _ _ _ => N'); (refine slice_b (s := ⟨_, _, _, _, _⟩) F' N' (by constructor) (by constructor) (Side.out ?_) ?_; rotate_left; intro _ _ _ _ _))
  k_with "my call builtin:len" => (k_here; (with_reducible show wpAny _ _ (call (Value.builtin "len") [Value.bytes (List.toArray _) _]) _ _ _); (refine len_b (Side.out ?_) ?_; rotate_left; intro _ _))
  k_with "my binaryOp FloorDiv int int" => (k_here; refine fdiv_i (by first | decide | omega) (by exact PyProof.noPylong_small (by omega)) ?_; intro _ _)
  k_with "my binaryOp Mod int int" => (k_here; refine fmod_i (by first | decide | omega) ?_; intro _ _)
  k_with "my call type:bytes" => (k_here; (with_reducible show wpAny _ _ (call (Value.type _) [Value.ref _]) _ _ _); k_dflt (refine' bytes_d (by k_asm) (by k_asm) ?q37i (Side.out ?_) (Side.out ?_) ?q37h ?_; (case q37i => first | l_ints | assumption); (case q37h => with_unfolding_all rfl)); rotate_left; rotate_left; intro _ _ _ _ _; (try k_sweep))
  k_with "my dropN" => first | k_asm | (refine' cb_drop ?q38cbN ?q38cbS; (case q38cbN => assumption); (case q38cbS => kcj_all))
  k_with "my sides" => (all_goals try (show Side _; unfold Side; first | assumption | omega | (simp only [List.length_cons, List.length_nil]; omega) | (simp only [List.length_append, List.length_map, List.length_cons, List.length_nil]; omega) | decide))
  k_with "my cx" => exact ⟨by k_asm, by k_asm, by k_asm, by k_asm, by k_asm, by first | exact rfl | assumption⟩
  k_with "my call ref" => (k_here; k_dflt (refine' use_hex_worth (by walk_at "cx") (by ktr_room) (by ktr_units) ?_); intro _ _ _ _ _)
  k_with "my call ref" => (k_here; k_dflt (refine' use_is_plain (by walk_at "cx") (by ktr_room) (by ktr_units) ?_); intro _ _ _ _ _)
  k_with "my call ref" => (k_here; k_dflt (refine' use_quoted_code (by walk_at "cx") (by ktr_room) (by ktr_units) (Side.out ?_) ?_); rotate_left; intro _ _ _ _ _)
  k_with "my exec For Name Call cons nil" => (k_here; refine Stop.mk ?_)
  k_with "my exec For Name Name cons nil" => (k_here; refine Stop.mk ?_)
  k_with "my pyIter ref" => ((with_reducible show wpAny _ _ (pyIter (Value.ref _)) (fun it s₂ => LoopAtV _ _ _ _ _ _ _ _ _ it s₂) _ _); refine Stop.mk ?_)
  k_with "my InvPostN" => (dsimp only [InvPostN])
  k_with "my InvEndN" => (refine Stop.mk ?_)
  k_with "my call builtin:list.append" => (k_here; (with_reducible show wpAny _ _ (call (Value.builtin _) [Value.ref _, _]) _ _ _); k_dflt (refine' append_h (by k_asm) (by k_asm) (Side.out ?_) (Side.out ?_) ?_); rotate_left; rotate_left; intro _ _ _ _; (try k_sweep))
  k_with "my frameSame" => (intro _ h1 h2 h3; (try simp only [List.forall_mem_cons, List.not_mem_nil, false_implies, implies_true, and_true, ne_eq] at h2); (try simp only [List.contains_cons, List.contains_nil, Bool.or_false, Bool.or_eq_false_iff, beq_eq_false_iff_ne, ne_eq] at h3); first | (simp [kstB, h1, h2, h3]; done) | (simp [kstB, h1, h3]; done) | (simp [kstB, h1, h2]; done) | (simp [kstB, h1]; done))
  k_with "my memNil" => exact (fun _ h => nomatch h)
  k_with "my call ref" => (k_here; k_dflt (refine' use_quoted_at (by walk_at "cx") (by ktr_room) (by ktr_units) (Side.out ?_) ?_); rotate_left; intro _ _ _ _ _)
  k_with "my memL" => first | assumption | exact List.Mem.head _ | (refine List.Mem.tail _ ?_; walk_at "memL") | (refine List.mem_append.mpr (.inr ?_); walk_at "memL") | (refine List.mem_append.mpr (.inl ?_); walk_at "memL")
  k_with "my isL" => exact newsList (by k_asm) (by walk_at "memL")
  k_with "my call builtin:len" => (k_here; (with_reducible show wpAny _ _ (call (Value.builtin "len") [Value.ref _]) _ _ _); (refine len_l (by walk_at "isL") (Side.out ?_) ?_; rotate_left; intro _ _))
  k_with "my subscriptTail" => (k_here; (with_reducible show wpAny _ _ (subscriptTail _ _ (Value.ref _) (Value.int _ _)) _ _ _); (refine item_l (by walk_at "isL") (by assumption) (Side.out ?_) (Side.out ?_) (Side.out ?_) ?_; rotate_left; rotate_left; rotate_left; intro _))
  k_with "my subscriptTail" => (k_here; (with_reducible show wpAny _ _ (subscriptTail _ (Expr.Slice _ _ none _) (Value.ref _) (Value.ref _)) _ _ _); (with_reducible rename Fr _ _ _ _ => F'); (with_reducible rename News _ _ _ _ => N'); (refine slice_l (s := ⟨_, _, _, _, _⟩) F' N' (newsList N' (by walk_at "memL")) (by constructor) (by constructor) (Side.out ?_) ?_; rotate_left; intro _ _ F' N' _))
  k_with "my binaryOp Add ref ref" => (k_here; (refine add_l (by k_asm) (by k_asm) (by walk_at "isL") (by walk_at "isL") (Side.out ?_) ?_; rotate_left; intro _ _ _ _ _))
  k_with "my call builtin:list.extend" => (k_here; k_dflt (refine' extend_h (by k_asm) (by k_asm) (Side.out ?_) (Side.out ?_) (Side.out ?_) ?_); rotate_left; rotate_left; rotate_left; intro _ _ _ _; (try k_sweep))
  k_with "my call builtin:list.extend" => (k_here; k_dflt (refine' extend_3 (by k_asm) (by k_asm) (Side.out ?_) ?q60k3 (Side.out ?_) ?_; (case q60k3 => rename ∀ p : Addr × Obj, p ∈ _ → p.1 < _ => lS; exact fun e => absurd (lS _ (List.Mem.tail _ (List.Mem.head _))) (by rw [e]; exact Nat.lt_irrefl _))); rotate_left; rotate_left; intro _ _ _ _; (try k_sweep))
  k_with "my subscriptTail Name Slice ref ref" => (k_here; (with_reducible rename Fr _ _ _ _ => F'); (with_reducible rename News _ _ _ _ => N'); (refine slice_l (s := ⟨_, _, _, _, _⟩) F' N' (newsList N' (by walk_at "memL")) (by constructor) (by constructor) (Side.out ?_) ?_; rotate_left; intro _ _ F' N' _))
  k_with "my call ref" => (k_here; k_dflt (refine' use_line_pieces (by walk_at "cx") (by ktr_room) (by ktr_units) (Side.out ?_) ?_); rotate_left; intro _ _ _ _ _ _ _ _ _)
  trivial
section
variable {w : World} {mean : ExcName → Option Value} {mg mb : Str → Option Value} {dp un : Nat} {gd : Option (List Code)} {cn : Str} {cs : Scope} {a : Addr} {ccd : Value} {cl : List (Str × Addr)} {outer : List Env} {A₀ : Around} {base h₀ : Heap} {L : Addr} {m : Str → Option Value} {news : List (Addr × Obj)} {s : Shared} {Q E : Value → Shared → Prop}

/-- one piece put behind what is laid so far -/
noncomputable def softStep (n : Nat) (w : Int) (st : List (List UInt8) × List UInt8) (i : Nat) (p : List UInt8) : List (List UInt8) × List UInt8 :=
  if (st.2.length : Int) + (p.length : Int) > (if (i : Int) = (n : Int) - 1 then w else w - 1) then (st.1 ++ [st.2 ++ [61]], [] ++ p) else (st.1, st.2 ++ p)
noncomputable def softRun (xs : List (List UInt8)) (w : Int) : Nat → List (List UInt8) × List UInt8
  | 0 => ([], [])
  | i + 1 => softStep xs.length w (softRun xs w i) i (xs.getD i [])
noncomputable def softLines (xs : List (List UInt8)) (w : Int) : List (List UInt8) := (softRun xs w xs.length).1 ++ [(softRun xs w xs.length).2]

theorem take_flat (xs : List (List UInt8)) (i : Nat) : (xs.take (i + 1)).flatten.length = (xs.take i).flatten.length + (xs.getD i []).length := by
  rw [List.take_add_one]
  cases h : xs[i]? with
  | none => simp [List.getD_eq_getElem?_getD, h]
  | some p => simp [List.getD_eq_getElem?_getD, h]
theorem take_flat_le (xs : List (List UInt8)) (i : Nat) : (xs.take i).flatten.length ≤ xs.flatten.length := by
  conv => rhs; rw [← List.take_append_drop i xs, List.flatten_append, List.length_append]
  omega
theorem softStep_break {n : Nat} {w : Int} {st : List (List UInt8) × List UInt8} {i : Nat} {p : List UInt8} (h : (st.2.length : Int) + (p.length : Int) > (if (i : Int) = (n : Int) - 1 then w else w - 1)) : softStep n w st i p = (st.1 ++ [st.2 ++ [61]], [] ++ p) := if_pos h
theorem softStep_go {n : Nat} {w : Int} {st : List (List UInt8) × List UInt8} {i : Nat} {p : List UInt8} (h : ¬ (st.2.length : Int) + (p.length : Int) > (if (i : Int) = (n : Int) - 1 then w else w - 1)) : softStep n w st i p = (st.1, st.2 ++ p) := if_neg h
theorem softRun_le (xs : List (List UInt8)) (w : Int) : ∀ i, (softRun xs w i).1.length ≤ i ∧ (softRun xs w i).2.length ≤ (xs.take i).flatten.length
  | 0 => ⟨Nat.le_refl _, by simp [softRun]⟩
  | i + 1 => by
    have ih := softRun_le xs w i
    have e := take_flat xs i
    have e2 : softRun xs w (i + 1) = softStep xs.length w (softRun xs w i) i (xs.getD i []) := rfl
    by_cases h : ((softRun xs w i).2.length : Int) + ((xs.getD i []).length : Int) > (if (i : Int) = (xs.length : Int) - 1 then w else w - 1)
    · rw [e2, softStep_break h]
      simp only [List.length_append, List.length_cons, List.length_nil]; omega
    · rw [e2, softStep_go h]
      simp only [List.length_append]; omega
theorem use_soft_lines (C : Cx w mean mg mb A₀ base outer h₀ L s.heap m news cs) (hd : dp + 1 < recursionLimit) (hu : un + 8 < cLine) {ps : List Value} {xs : List (List UInt8)} {Pa : Addr} {k : Nat} {wd : Int} {t : Tok}
    (hm : (Pa, listOf ps.toArray k) ∈ news) (hb : BsAre ps xs) (hx : xs.flatten.length ≤ 8388608) (hn : xs.length ≤ 8388608)
    (hret : ∀ D vs k h' tk', BsAre vs (softLines xs wd) → Fr h₀ L h' m → News h₀ L h' ((D, listOf vs.toArray k) :: news) → (∀ p ∈ news, p.1 < D) → Q (.ref D) { s with heap := h', toks := tk' }) :
    wpAny (model PySem.Challenge.rw_no0355_01.row.toRowW.prog w) (ktrTop dp un gd cn cs L a ccd cl outer) (call (.ref 96) [.ref Pa, .int wd t]) Q E s := by
  obtain ⟨B, F, X, N, T, hk⟩ := C
  have hpl := hb.length
  refine wpAny_call ?_
  k_dflt cell_enter
  rename Fr _ _ _ _ => F1
  replace F1 : Fr _ _ _ (fun y => List.lookup y [(Str.ofString "width", Value.int wd t), (Str.ofString "pieces", Value.ref Pa)]) := F1
  k_steps
  walk_at "sides"
  unfold Stop
  refine For_invVF (by k_asm) rfl rfl ?_
  k_steps
  walk_at "sides"
  unfold Stop
  rename News _ _ _ _ => NN
  rename ∀ p ∈ news, p.1 < _ => lN
  refine lp_range1 NN (fun c : List UInt8 × Tok => [(Str.ofString "line", Value.bytes c.1.toArray c.2)]) ["room"] (fun i vs c => BsAre vs (softRun xs wd i).1 ∧ c.1 = (softRun xs wd i).2) rfl (by assumption) (by omega) ?_ (by k_asm) ?_ ?_ ?_
  · exact fun p hp => Nat.ne_of_lt (lN p hp)
  · refine' ⟨([], _), _, .nil, rfl⟩
    rotate_left
    · intro p hp
      rw [List.mem_singleton.mp hp]
      exact rfl
  · rintro i vs k ⟨ln, tk1⟩ t' u hh tk tl hi htl hrt ⟨hP, hQ⟩ F1 N1
    clear NN
    dsimp only at hQ
    have hm2 := hrt _ hm
    have hle := softRun_le xs wd i
    have hfl := take_flat_le xs i
    have hfl2 := take_flat_le xs (i + 1)
    rw [take_flat] at hfl2
    have hlen : vs.length ≤ 16777215 := by
      have := hP.length
      omega
    have hln : ln.length ≤ 8388608 := by rw [hQ]; omega
    have e61 : (List.map (fun n : Int => n.toNat.toUInt8) [61]) = [61] := rfl
    refine wp_hide ?_
    intro QH hQH
    k_steps
    all_goals try simp only [Int.toNat_natCast, e61] at *
    walk_at "sides"
    all_goals refine hQH _ _ ?_
    all_goals refine' lp_done (_, _) (by k_asm) (by k_asm) (fun p hp => by rw [List.mem_singleton.mp hp]; exact rfl) (by walk_at "frameSame") _
    all_goals
      have e2 : softRun xs wd (i + 1) = softStep xs.length wd (softRun xs wd i) i (xs.getD i []) := rfl
      rw [e2]
      first
        | (rw [softStep_break (by rw [← hQ]; split <;> omega)]
           exact ⟨hP.append (by rw [hQ]; exact .one _ _), rfl⟩)
        | (rw [softStep_go (by rw [← hQ]; split <;> omega), ← hQ]
           exact ⟨hP, rfl⟩)
  · rintro vs k ⟨ln, tk1⟩ u hh tk ⟨hP, hQ⟩ F1 N1
    dsimp only at hQ
    have hle := softRun_le xs wd ps.length
    have hlen := hP.length
    k_steps
    walk_at "sides"
    rename ∀ p : Addr × Obj, p ∈ _ → p.1 < _ => lD
    refine hret _ _ _ _ _ ?_ (by k_asm) (by walk_at "dropN") fun p hp => lD p (.tail _ (.tail _ hp))
    unfold softLines
    rw [← hpl, ← hQ]
    exact hP.append (.one _ _)
end
end
section
/- M3 -/
open Builtin
theorem filled3 : hd.heap_1 = hd.heap_1 ∧ PySem.Challenge.rw_no0355_01 = PySem.Challenge.rw_no0355_01 := by
  k_fill
  exact ⟨rfl, rfl⟩
theorem call_split_CR {prog : Program} {w : World} {A : Around} {E : Value → Shared → Prop} {s : Shared} {Q : Value → Shared → Prop} {x : List UInt8} {t u : Tok} {h₀ : Heap} {L : Addr} {m : Str → Option Value} {news : List (Addr × Obj)} (F : Fr h₀ L s.heap m) (N : News h₀ L s.heap news) (hx : x.length ≤ 16777215)
    (h : ∀ D vs h' k', BsAre vs (splitCR x) → Fr h₀ L h' m → News h₀ L h' ((D, listOf vs.toArray 0) :: news) → (∀ p ∈ news, p.1 < D) → Q (.ref D) { s with heap := h', toks := k' }) :
    wpAny (model prog w) A (call (.builtin "bytes.split") [.bytes x.toArray t, .bytes #[13, 10] u]) Q E s := by
  obtain ⟨e1, e2⟩ := cutAt_CR x
  have e3 := splitCR_len x
  refine call_split (y := [13, 10]) F N (by simp) ?_ ?_ ?_ ?_
  · intro p hp
    rw [e1] at hp
    have := mem_flat_le hp
    omega
  · rw [e1]; omega
  · have := e2; omega
  · rw [e1]; exact h
theorem rows_5 : True := by
  k_with_none
  k_with "my getMethod bytes" => (k_here; first | refine method_b slot_bytes_find type_bytes_find ?_ | refine method_b slot_bytes_index type_bytes_index ?_ | refine method_b slot_bytes_lower type_bytes_lower ?_ | refine method_b slot_bytes_rstrip type_bytes_rstrip ?_ | refine method_b slot_bytes_split type_bytes_split ?_ | refine method_b slot_bytes_join type_bytes_join ?_)
  k_with "my call builtin:bytes.find" => (k_here; first | refine call_find3 ?_ | refine call_find2 ?_; intro _ _)
  k_with "my call builtin:bytes.lower" => (k_here; refine call_lower (Side.out ?_) ?_; rotate_left; intro _ _)
  k_with "my call builtin:bytes.rstrip" => (k_here; refine call_rstrip (Side.out ?_) ?_; rotate_left; intro _ _)
  k_with "my binaryOp Add bytes bytes" => (k_here; refine add_b (Side.out ?_) ?_; rotate_left; intro _ _)
  k_with "my subscriptTail" => (k_here; (with_reducible show wpAny _ _ (subscriptTail _ _ (Value.bytes (List.toArray _) _) (Value.int _ _)) _ _ _); (refine item_b (Side.out ?_) (Side.out ?_) (Side.out ?_) ?_; rotate_left; rotate_left; rotate_left; intro _ _))
  k_with "my subscriptTail" => (k_here; (with_reducible show wpAny _ _ (subscriptTail _ (Expr.Slice _ _ none _) (Value.bytes (List.toArray _) _) (Value.ref _)) _ _ _); (with_reducible rename Fr _ _ _ _ => F'); (with_reducible rename News _ _ _ _ => N'); (refine slice_b (s := ⟨_, _, _, _, _⟩) F' N' (by constructor) (by constructor) (Side.out ?_) ?_; rotate_left; intro _ _ _ _ _))
  k_with "my call builtin:len" => (k_here; (with_reducible show wpAny _ _ (call (Value.builtin "len") [Value.bytes (List.toArray _) _]) _ _ _); (refine len_b (Side.out ?_) ?_; rotate_left; intro _ _))
  k_with "my binaryOp FloorDiv int int" => (k_here; refine fdiv_i (by first | decide | omega) (by exact PyProof.noPylong_small (by omega)) ?_; intro _ _)
  k_with "my binaryOp Mod int int" => (k_here; refine fmod_i (by first | decide | omega) ?_; intro _ _)
  k_with "my call type:bytes" => (k_here; (with_reducible show wpAny _ _ (call (Value.type _) [Value.ref _]) _ _ _); k_dflt (refine' bytes_d (by k_asm) (by k_asm) ?q73i (Side.out ?_) (Side.out ?_) ?q73h ?_; (case q73i => first | l_ints | assumption); (case q73h => with_unfolding_all rfl)); rotate_left; rotate_left; intro _ _ _ _ _; (try k_sweep))
  k_with "my dropN" => first | k_asm | (refine' cb_drop ?q74cbN ?q74cbS; (case q74cbN => assumption); (case q74cbS => kcj_all))
  k_with "my sides" => (all_goals try (show Side _; unfold Side; first | assumption | omega | (simp only [List.length_cons, List.length_nil]; omega) | (simp only [List.length_append, List.length_map, List.length_cons, List.length_nil]; omega) | decide))
  k_with "my cx" => exact ⟨by k_asm, by k_asm, by k_asm, by k_asm, by k_asm, by first | exact rfl | assumption⟩
  k_with "my call ref" => (k_here; k_dflt (refine' use_hex_worth (by walk_at "cx") (by ktr_room) (by ktr_units) ?_); intro _ _ _ _ _)
  k_with "my call ref" => (k_here; k_dflt (refine' use_is_plain (by walk_at "cx") (by ktr_room) (by ktr_units) ?_); intro _ _ _ _ _)
  k_with "my call ref" => (k_here; k_dflt (refine' use_quoted_code (by walk_at "cx") (by ktr_room) (by ktr_units) (Side.out ?_) ?_); rotate_left; intro _ _ _ _ _)
  k_with "my exec For Name Call cons nil" => (k_here; refine Stop.mk ?_)
  k_with "my exec For Name Name cons nil" => (k_here; refine Stop.mk ?_)
  k_with "my pyIter ref" => ((with_reducible show wpAny _ _ (pyIter (Value.ref _)) (fun it s₂ => LoopAtV _ _ _ _ _ _ _ _ _ it s₂) _ _); refine Stop.mk ?_)
  k_with "my InvPostN" => (dsimp only [InvPostN])
  k_with "my InvEndN" => (refine Stop.mk ?_)
  k_with "my call builtin:list.append" => (k_here; (with_reducible show wpAny _ _ (call (Value.builtin _) [Value.ref _, _]) _ _ _); k_dflt (refine' append_h (by k_asm) (by k_asm) (Side.out ?_) (Side.out ?_) ?_); rotate_left; rotate_left; intro _ _ _ _; (try k_sweep))
  k_with "my frameSame" => (intro _ h1 h2 h3; (try simp only [List.forall_mem_cons, List.not_mem_nil, false_implies, implies_true, and_true, ne_eq] at h2); (try simp only [List.contains_cons, List.contains_nil, Bool.or_false, Bool.or_eq_false_iff, beq_eq_false_iff_ne, ne_eq] at h3); first | (simp [kstB, h1, h2, h3]; done) | (simp [kstB, h1, h3]; done) | (simp [kstB, h1, h2]; done) | (simp [kstB, h1]; done))
  k_with "my memNil" => exact (fun _ h => nomatch h)
  k_with "my call ref" => (k_here; k_dflt (refine' use_quoted_at (by walk_at "cx") (by ktr_room) (by ktr_units) (Side.out ?_) ?_); rotate_left; intro _ _ _ _ _)
  k_with "my memL" => first | assumption | exact List.Mem.head _ | (refine List.Mem.tail _ ?_; walk_at "memL") | (refine List.mem_append.mpr (.inr ?_); walk_at "memL") | (refine List.mem_append.mpr (.inl ?_); walk_at "memL")
  k_with "my isL" => exact newsList (by k_asm) (by walk_at "memL")
  k_with "my call builtin:len" => (k_here; (with_reducible show wpAny _ _ (call (Value.builtin "len") [Value.ref _]) _ _ _); (refine len_l (by walk_at "isL") (Side.out ?_) ?_; rotate_left; intro _ _))
  k_with "my subscriptTail" => (k_here; (with_reducible show wpAny _ _ (subscriptTail _ _ (Value.ref _) (Value.int _ _)) _ _ _); (refine item_l (by walk_at "isL") (by assumption) (Side.out ?_) (Side.out ?_) (Side.out ?_) ?_; rotate_left; rotate_left; rotate_left; intro _))
  k_with "my subscriptTail" => (k_here; (with_reducible show wpAny _ _ (subscriptTail _ (Expr.Slice _ _ none _) (Value.ref _) (Value.ref _)) _ _ _); (with_reducible rename Fr _ _ _ _ => F'); (with_reducible rename News _ _ _ _ => N'); (refine slice_l (s := ⟨_, _, _, _, _⟩) F' N' (newsList N' (by walk_at "memL")) (by constructor) (by constructor) (Side.out ?_) ?_; rotate_left; intro _ _ F' N' _))
  k_with "my binaryOp Add ref ref" => (k_here; (refine add_l (by k_asm) (by k_asm) (by walk_at "isL") (by walk_at "isL") (Side.out ?_) ?_; rotate_left; intro _ _ _ _ _))
  k_with "my call builtin:list.extend" => (k_here; k_dflt (refine' extend_h (by k_asm) (by k_asm) (Side.out ?_) (Side.out ?_) (Side.out ?_) ?_); rotate_left; rotate_left; rotate_left; intro _ _ _ _; (try k_sweep))
  k_with "my call builtin:list.extend" => (k_here; k_dflt (refine' extend_3 (by k_asm) (by k_asm) (Side.out ?_) ?q96k3 (Side.out ?_) ?_; (case q96k3 => rename ∀ p : Addr × Obj, p ∈ _ → p.1 < _ => lS; exact fun e => absurd (lS _ (List.Mem.tail _ (List.Mem.head _))) (by rw [e]; exact Nat.lt_irrefl _))); rotate_left; rotate_left; intro _ _ _ _; (try k_sweep))
  k_with "my subscriptTail Name Slice ref ref" => (k_here; (with_reducible rename Fr _ _ _ _ => F'); (with_reducible rename News _ _ _ _ => N'); (refine slice_l (s := ⟨_, _, _, _, _⟩) F' N' (newsList N' (by walk_at "memL")) (by constructor) (by constructor) (Side.out ?_) ?_; rotate_left; intro _ _ F' N' _))
  k_with "my call ref" => (k_here; k_dflt (refine' use_line_pieces (by walk_at "cx") (by ktr_room) (by ktr_units) (Side.out ?_) ?_); rotate_left; intro _ _ _ _ _ _ _ _ _)
  k_with "my call ref" => (k_here; k_dflt (refine' use_soft_lines (by walk_at "cx") (by ktr_room) (by ktr_units) ?q99km (by assumption) (Side.out ?_) (Side.out ?_) ?_; (case q99km => walk_at "memL")); rotate_left; rotate_left; intro _ _ _ _ _ _ _ _ _)
  k_with "my call builtin:bytes.split" => (k_here; k_dflt (refine' call_split_CR (by k_asm) (by k_asm) (Side.out ?_) ?_); rotate_left; intro _ _ _ _ _ _ _ _)
  k_with "my call builtin:bytes.join" => (k_here; k_dflt (refine' call_join ?q101kl (by assumption) (Side.out ?_) ?_; (case q101kl => walk_at "isL")); rotate_left; intro _ _)
  trivial
section
variable {w : World} {mean : ExcName → Option Value} {mg mb : Str → Option Value} {dp un : Nat} {gd : Option (List Code)} {cn : Str} {cs : Scope} {a : Addr} {ccd : Value} {cl : List (Str × Addr)} {outer : List Env} {A₀ : Around} {base h₀ : Heap} {L : Addr} {m : Str → Option Value} {news : List (Addr × Obj)} {s : Shared} {Q E : Value → Shared → Prop}

noncomputable def textLines (x : List UInt8) (b : Bool) : List (List UInt8) := if b then splitCR x else [x]
theorem use_text_lines (C : Cx w mean mg mb A₀ base outer h₀ L s.heap m news cs) (hd : dp + 1 < recursionLimit) (hu : un + 8 < cLine) {x : List UInt8} {b : Bool} {t : Tok} (hx : x.length ≤ 16777215)
    (hret : ∀ D vs k h' tk', BsAre vs (textLines x b) → Fr h₀ L h' m → News h₀ L h' ((D, listOf vs.toArray k) :: news) → (∀ p ∈ news, p.1 < D) → Q (.ref D) { s with heap := h', toks := tk' }) :
    wpAny (model PySem.Challenge.rw_no0355_01.row.toRowW.prog w) (ktrTop dp un gd cn cs L a ccd cl outer) (call (.ref 103) [.bytes x.toArray t, .bool b]) Q E s := by
  obtain ⟨B, F, X, N, T, hk⟩ := C
  refine wpAny_call ?_
  k_dflt cell_enter
  rename Fr _ _ _ _ => F1
  replace F1 : Fr _ _ _ (fun y => List.lookup y [(Str.ofString "is_text", Value.bool b), (Str.ofString "octets", Value.bytes x.toArray t)]) := F1
  cases b with
  | true =>
    k_steps
    walk_at "sides"
    rename BsAre _ _ => hBs
    rename ∀ p ∈ news, p.1 < _ => lN
    exact hret _ _ _ _ _ hBs (by k_asm) (by walk_at "dropN") lN
  | false =>
    k_steps
    walk_at "sides"
    rename ∀ p ∈ news, p.1 < _ => lN
    exact hret _ _ _ _ _ (.one _ _) (by k_asm) (by walk_at "dropN") lN

/-- the parts that are joined: a line's end behind each line that ends softly -/
noncomputable def joinParts (xs : List (List UInt8)) : List (List UInt8) := xs.flatMap fun l => if part l (some (-1)) none = [61] then [l, [13, 10]] else [l]
theorem joinParts_len (xs : List (List UInt8)) : (joinParts xs).length ≤ 2 * xs.length ∧ (joinParts xs).flatten.length ≤ xs.flatten.length + 2 * xs.length := by
  unfold joinParts
  induction xs with
  | nil => simp
  | cons y r ih =>
    simp only [List.flatMap_cons, List.length_append, List.flatten_append, List.flatten_cons, List.length_cons]
    by_cases h : part y (some (-1)) none = [61]
    · simp only [if_pos h, List.length_cons, List.length_nil, List.flatten_cons, List.flatten_nil, List.append_nil, List.length_append]; omega
    · simp only [if_neg h, List.length_cons, List.length_nil, List.flatten_cons, List.flatten_nil, List.append_nil, List.length_append]; omega
theorem take_snoc {α : Type} {xs : List α} {i : Nat} {y : α} (h : xs[i]? = some y) : xs.take (i + 1) = xs.take i ++ [y] := by
  rw [List.take_add_one, h]
  rfl
theorem use_joined_lines (C : Cx w mean mg mb A₀ base outer h₀ L s.heap m news cs) (hd : dp + 1 < recursionLimit) (hu : un + 8 < cLine) {ps : List Value} {xs : List (List UInt8)} {Pa : Addr} {k : Nat}
    (hm : (Pa, listOf ps.toArray k) ∈ news) (hb : BsAre ps xs) (hx : xs.flatten.length ≤ 4194304) (hn : xs.length ≤ 4194304)
    (hret : ∀ (t' : Tok) h' tk', Fr h₀ L h' m → News h₀ L h' news → Q (.bytes (joinParts xs).flatten.toArray t') { s with heap := h', toks := tk' }) :
    wpAny (model PySem.Challenge.rw_no0355_01.row.toRowW.prog w) (ktrTop dp un gd cn cs L a ccd cl outer) (call (.ref 118) [.ref Pa]) Q E s := by
  obtain ⟨B, F, X, N, T, hk⟩ := C
  have hpl := hb.length
  refine wpAny_call ?_
  k_dflt cell_enter
  rename Fr _ _ _ _ => F1
  replace F1 : Fr _ _ _ (fun y => List.lookup y [(Str.ofString "lines", Value.ref Pa)]) := F1
  k_steps
  walk_at "sides"
  unfold Stop
  refine For_invVF (by k_asm) rfl rfl ?_
  k_steps
  walk_at "sides"
  unfold Stop
  rename News _ _ _ _ => NN
  rename ∀ p ∈ news, p.1 < _ => lN
  refine lp_list1 NN (fun _ : Unit => []) [] (fun i vs _ => BsAre vs (joinParts (xs.take i))) rfl (newsList NN (.tail _ hm)) (NN _ (.tail _ hm)).2.1 (Nat.ne_of_lt (lN _ hm)) ?_ (by k_asm) ⟨(), ?_, ?_⟩ ?_ ?_
  · exact fun p hp => Nat.ne_of_lt (lN p hp)
  · walk_at "memNil"
  · exact .nil
  · rintro i vs k _ v u hh tk tl hv htl hrt hP F1 N1
    clear NN
    obtain ⟨y, ty, rfl, hy⟩ := hb.at i v hv
    have hjl := joinParts_len (xs.take i)
    have hfl := take_flat_le xs i
    have hlen := hP.length
    have hyl := mem_flat_le (List.mem_of_getElem? hy)
    have htk : (xs.take i).length ≤ xs.length := by rw [List.length_take]; omega
    have e61 : (List.map (fun n : Int => n.toNat.toUInt8) [61]) = [61] := rfl
    k_steps
    walk_at "sides"
    all_goals refine lp_done () (by k_asm) (by k_asm) (by walk_at "memNil") (by walk_at "frameSame") ?_
    all_goals rw [take_snoc hy, joinParts, List.flatMap_append, List.flatMap_cons, List.flatMap_nil, List.append_nil]
    · rw [if_pos (show part y (some (-1)) none = [61] from beq_iff_eq.mp ‹(_ == _) = true›), List.append_assoc]
      exact hP.append (.cons _ _ (.one _ _))
    · rw [if_neg (show ¬ part y (some (-1)) none = [61] from beq_eq_false_iff_ne.mp ‹(_ == _) = false›)]
      exact hP.append (.one _ _)
  · rintro vs k _ u hh tk hP F1 N1
    have hjl := joinParts_len xs
    rw [hpl, List.take_length] at hP
    k_steps
    walk_at "sides"
    exact hret _ _ _ (by k_asm) (by walk_at "dropN")
end
end
section
/- M4 -/
open Builtin
theorem filled4 : hd.heap_1 = hd.heap_1 ∧ PySem.Challenge.rw_no0355_01 = PySem.Challenge.rw_no0355_01 := by
  k_fill
  exact ⟨rfl, rfl⟩
theorem rows_6 : True := by
  k_with_none
  k_with "my getMethod bytes" => (k_here; first | refine method_b slot_bytes_find type_bytes_find ?_ | refine method_b slot_bytes_index type_bytes_index ?_ | refine method_b slot_bytes_lower type_bytes_lower ?_ | refine method_b slot_bytes_rstrip type_bytes_rstrip ?_ | refine method_b slot_bytes_split type_bytes_split ?_ | refine method_b slot_bytes_join type_bytes_join ?_)
  k_with "my call builtin:bytes.find" => (k_here; first | refine call_find3 ?_ | refine call_find2 ?_; intro _ _)
  k_with "my call builtin:bytes.lower" => (k_here; refine call_lower (Side.out ?_) ?_; rotate_left; intro _ _)
  k_with "my call builtin:bytes.rstrip" => (k_here; refine call_rstrip (Side.out ?_) ?_; rotate_left; intro _ _)
  k_with "my binaryOp Add bytes bytes" => (k_here; refine add_b (Side.out ?_) ?_; rotate_left; intro _ _)
  k_with "my subscriptTail" => (k_here; (with_reducible show wpAny _ _ (subscriptTail _ _ (Value.bytes (List.toArray _) _) (Value.int _ _)) _ _ _); (refine item_b (Side.out ?_) (Side.out ?_) (Side.out ?_) ?_; rotate_left; rotate_left; rotate_left; intro _ _))
  k_with "my subscriptTail" => (k_here; (with_reducible show wpAny _ _ (subscriptTail _ (Expr.Slice _ _ none _) (Value.bytes (List.toArray _) _) (Value.ref _)) _ _ _); (with_reducible rename Fr _ _ _ _ => F'); (with_reducible rename News _ _ _ _ => N'); (refine slice_b (s := ⟨_, _, _, _, _⟩) F' N' (by constructor) (by constructor) (Side.out ?_) ?_; rotate_left; intro _ _ _ _ _))
  k_with "my call builtin:len" => (k_here; (with_reducible show wpAny _ _ (call (Value.builtin "len") [Value.bytes (List.toArray _) _]) _ _ _); (refine len_b (Side.out ?_) ?_; rotate_left; intro _ _))
  k_with "my binaryOp FloorDiv int int" => (k_here; refine fdiv_i (by first | decide | omega) (by exact PyProof.noPylong_small (by omega)) ?_; intro _ _)
  k_with "my binaryOp Mod int int" => (k_here; refine fmod_i (by first | decide | omega) ?_; intro _ _)
  k_with "my call type:bytes" => (k_here; (with_reducible show wpAny _ _ (call (Value.type _) [Value.ref _]) _ _ _); k_dflt (refine' bytes_d (by k_asm) (by k_asm) ?q112i (Side.out ?_) (Side.out ?_) ?q112h ?_; (case q112i => first | l_ints | assumption); (case q112h => with_unfolding_all rfl)); rotate_left; rotate_left; intro _ _ _ _ _; (try k_sweep))
  k_with "my dropN" => first | k_asm | (refine' cb_drop ?q113cbN ?q113cbS; (case q113cbN => assumption); (case q113cbS => kcj_all))
  k_with "my sides" => (all_goals try (show Side _; unfold Side; first | assumption | omega | (simp only [List.length_cons, List.length_nil]; omega) | (simp only [List.length_append, List.length_map, List.length_cons, List.length_nil]; omega) | decide))
  k_with "my cx" => exact ⟨by k_asm, by k_asm, by k_asm, by k_asm, by k_asm, by first | exact rfl | assumption⟩
  k_with "my call ref" => (k_here; k_dflt (refine' use_hex_worth (by walk_at "cx") (by ktr_room) (by ktr_units) ?_); intro _ _ _ _ _)
  k_with "my call ref" => (k_here; k_dflt (refine' use_is_plain (by walk_at "cx") (by ktr_room) (by ktr_units) ?_); intro _ _ _ _ _)
  k_with "my call ref" => (k_here; k_dflt (refine' use_quoted_code (by walk_at "cx") (by ktr_room) (by ktr_units) (Side.out ?_) ?_); rotate_left; intro _ _ _ _ _)
  k_with "my exec For Name Call cons nil" => (k_here; refine Stop.mk ?_)
  k_with "my exec For Name Name cons nil" => (k_here; refine Stop.mk ?_)
  k_with "my pyIter ref" => ((with_reducible show wpAny _ _ (pyIter (Value.ref _)) (fun it s₂ => LoopAtV _ _ _ _ _ _ _ _ _ it s₂) _ _); refine Stop.mk ?_)
  k_with "my InvPostN" => (dsimp only [InvPostN])
  k_with "my InvEndN" => (refine Stop.mk ?_)
  k_with "my call builtin:list.append" => (k_here; (with_reducible show wpAny _ _ (call (Value.builtin _) [Value.ref _, _]) _ _ _); k_dflt (refine' append_h (by k_asm) (by k_asm) (Side.out ?_) (Side.out ?_) ?_); rotate_left; rotate_left; intro _ _ _ _; (try k_sweep))
  k_with "my frameSame" => (intro _ h1 h2 h3; (try simp only [List.forall_mem_cons, List.not_mem_nil, false_implies, implies_true, and_true, ne_eq] at h2); (try simp only [List.contains_cons, List.contains_nil, Bool.or_false, Bool.or_eq_false_iff, beq_eq_false_iff_ne, ne_eq] at h3); first | (simp [kstB, h1, h2, h3]; done) | (simp [kstB, h1, h3]; done) | (simp [kstB, h1, h2]; done) | (simp [kstB, h1]; done))
  k_with "my memNil" => exact (fun _ h => nomatch h)
  k_with "my call ref" => (k_here; k_dflt (refine' use_quoted_at (by walk_at "cx") (by ktr_room) (by ktr_units) (Side.out ?_) ?_); rotate_left; intro _ _ _ _ _)
  k_with "my memL" => first | assumption | exact List.Mem.head _ | (refine List.Mem.tail _ ?_; walk_at "memL") | (refine List.mem_append.mpr (.inr ?_); walk_at "memL") | (refine List.mem_append.mpr (.inl ?_); walk_at "memL")
  k_with "my isL" => exact newsList (by k_asm) (by walk_at "memL")
  k_with "my call builtin:len" => (k_here; (with_reducible show wpAny _ _ (call (Value.builtin "len") [Value.ref _]) _ _ _); (refine len_l (by walk_at "isL") (Side.out ?_) ?_; rotate_left; intro _ _))
  k_with "my subscriptTail" => (k_here; (with_reducible show wpAny _ _ (subscriptTail _ _ (Value.ref _) (Value.int _ _)) _ _ _); (refine item_l (by walk_at "isL") (by assumption) (Side.out ?_) (Side.out ?_) (Side.out ?_) ?_; rotate_left; rotate_left; rotate_left; intro _))
  k_with "my subscriptTail" => (k_here; (with_reducible show wpAny _ _ (subscriptTail _ (Expr.Slice _ _ none _) (Value.ref _) (Value.ref _)) _ _ _); (with_reducible rename Fr _ _ _ _ => F'); (with_reducible rename News _ _ _ _ => N'); (refine slice_l (s := ⟨_, _, _, _, _⟩) F' N' (newsList N' (by walk_at "memL")) (by constructor) (by constructor) (Side.out ?_) ?_; rotate_left; intro _ _ F' N' _))
  k_with "my binaryOp Add ref ref" => (k_here; (refine add_l (by k_asm) (by k_asm) (by walk_at "isL") (by walk_at "isL") (Side.out ?_) ?_; rotate_left; intro _ _ _ _ _))
  k_with "my call builtin:list.extend" => (k_here; k_dflt (refine' extend_h (by k_asm) (by k_asm) (Side.out ?_) (Side.out ?_) (Side.out ?_) ?_); rotate_left; rotate_left; rotate_left; intro _ _ _ _; (try k_sweep))
  k_with "my call builtin:list.extend" => (k_here; k_dflt (refine' extend_3 (by k_asm) (by k_asm) (Side.out ?_) ?q135k3 (Side.out ?_) ?_; (case q135k3 => rename ∀ p : Addr × Obj, p ∈ _ → p.1 < _ => lS; exact fun e => absurd (lS _ (List.Mem.tail _ (List.Mem.head _))) (by rw [e]; exact Nat.lt_irrefl _))); rotate_left; rotate_left; intro _ _ _ _; (try k_sweep))
  k_with "my subscriptTail Name Slice ref ref" => (k_here; (with_reducible rename Fr _ _ _ _ => F'); (with_reducible rename News _ _ _ _ => N'); (refine slice_l (s := ⟨_, _, _, _, _⟩) F' N' (newsList N' (by walk_at "memL")) (by constructor) (by constructor) (Side.out ?_) ?_; rotate_left; intro _ _ F' N' _))
  k_with "my call ref" => (k_here; k_dflt (refine' use_line_pieces (by walk_at "cx") (by ktr_room) (by ktr_units) (Side.out ?_) ?_); rotate_left; intro _ _ _ _ _ _ _ _ _)
  k_with "my call ref" => (k_here; k_dflt (refine' use_soft_lines (by walk_at "cx") (by ktr_room) (by ktr_units) ?q138km (by assumption) (Side.out ?_) (Side.out ?_) ?_; (case q138km => walk_at "memL")); rotate_left; rotate_left; intro _ _ _ _ _ _ _ _ _)
  k_with "my call builtin:bytes.split" => (k_here; k_dflt (refine' call_split_CR (by k_asm) (by k_asm) (Side.out ?_) ?_); rotate_left; intro _ _ _ _ _ _ _ _)
  k_with "my call builtin:bytes.join" => (k_here; k_dflt (refine' call_join ?q140kl (by assumption) (Side.out ?_) ?_; (case q140kl => walk_at "isL")); rotate_left; intro _ _)
  k_with "my call ref" => (k_here; k_dflt (refine' use_text_lines (by walk_at "cx") (by ktr_room) (by ktr_units) (Side.out ?_) ?_); rotate_left; intro _ _ _ _ _ _ _ _ _)
  k_with "my call ref" => (k_here; k_dflt (refine' use_joined_lines (by walk_at "cx") (by ktr_room) (by ktr_units) ?q142km (by assumption) (Side.out ?_) (Side.out ?_) ?_; (case q142km => walk_at "memL")); rotate_left; rotate_left; intro _ _ _ _ _)
  k_with "my enterD" => (refine' code_def (by k_asm) (by k_asm) (by k_asm) (by k_asm) (by k_asm) (by exact rfl) (by exact rfl) ?q143kK (by k_is) (by k_is) (by ktr_room) ?q143k9 ?q143kB ?_ (by exact rfl) (by exact rfl) (by exact rfl) ?q143c5; (case q143kK => assumption); (case q143k9 => exact binds_K (by k_in) rfl (by k_is) rfl rfl rfl); (case q143c5 => decide); (case q143kB => exact locs rfl); k_whole; intro _ _ _ _ _ _ B' _ _; (try dsimp only); (try k_lift B'); (try k_fold))
  trivial
section
variable {w : World} {mean : ExcName → Option Value} {mg mb : Str → Option Value} {dp un : Nat} {gd : Option (List Code)} {cn : Str} {cs : Scope} {a : Addr} {ccd : Value} {cl : List (Str × Addr)} {outer : List Env} {A₀ : Around} {base h₀ : Heap} {L : Addr} {m : Str → Option Value} {news : List (Addr × Obj)} {s : Shared} {Q E : Value → Shared → Prop}

theorem quotedCode_len (n : Nat) : (quotedCode n).length = 3 := rfl
theorem pieceOf_len (c : UInt8) (b : Bool) : (pieceOf c b).length ≤ 3 := by
  unfold pieceOf
  split
  · simp
  · rw [quotedCode_len]; exact Nat.le_refl _
theorem linePieces_len (x : List UInt8) : (linePieces x).length = x.length ∧ (linePieces x).flatten.length ≤ 3 * x.length := by
  refine ⟨by simp [linePieces], ?_⟩
  unfold linePieces
  generalize hn : x.length = n
  have key : ∀ l : List Nat, ((l.map fun i => pieceOf (x.getD i 0) ((i : Int) == (n : Int) - 1)).flatten).length ≤ 3 * l.length := by
    intro l
    induction l with
    | nil => simp
    | cons i r ih =>
      have := pieceOf_len (x.getD i 0) ((i : Int) == (n : Int) - 1)
      simp only [List.map_cons, List.flatten_cons, List.length_append, List.length_cons]; omega
  have := key (List.range n)
  simpa using this
theorem softRun_flat (xs : List (List UInt8)) (w : Int) : ∀ i, (softRun xs w i).1.flatten.length + (softRun xs w i).2.length ≤ (xs.take i).flatten.length + i
  | 0 => by simp [softRun]
  | i + 1 => by
    have ih := softRun_flat xs w i
    have e := take_flat xs i
    have e2 : softRun xs w (i + 1) = softStep xs.length w (softRun xs w i) i (xs.getD i []) := rfl
    by_cases h : ((softRun xs w i).2.length : Int) + ((xs.getD i []).length : Int) > (if (i : Int) = (xs.length : Int) - 1 then w else w - 1)
    · rw [e2, softStep_break h]
      simp only [List.flatten_append, List.flatten_cons, List.flatten_nil, List.append_nil, List.length_append, List.length_cons, List.length_nil]; omega
    · rw [e2, softStep_go h]
      simp only [List.length_append]; omega
theorem softLines_len (xs : List (List UInt8)) (w : Int) : (softLines xs w).length ≤ xs.length + 1 ∧ (softLines xs w).flatten.length ≤ xs.flatten.length + xs.length := by
  have h1 := softRun_le xs w xs.length
  have h2 := softRun_flat xs w xs.length
  rw [List.take_length] at h1 h2
  unfold softLines
  simp only [List.flatten_append, List.flatten_cons, List.flatten_nil, List.append_nil, List.length_append, List.length_cons, List.length_nil]
  omega
/-- the lines of quoted octets, a line's end behind those of each line -/
noncomputable def encLines (ls : List (List UInt8)) (w : Int) : List (List UInt8) := ls.flatMap fun l => softLines (linePieces l) w ++ [[13, 10]]
theorem encLines_len (w : Int) : ∀ ls : List (List UInt8), (encLines ls w).length ≤ ls.flatten.length + 2 * ls.length ∧ (encLines ls w).flatten.length ≤ 4 * ls.flatten.length + 2 * ls.length
  | [] => by simp [encLines]
  | l :: r => by
    have ih := encLines_len w r
    have h1 := linePieces_len l
    have h2 := softLines_len (linePieces l) w
    unfold encLines at ih ⊢
    simp only [List.flatMap_cons, List.flatten_append, List.flatten_cons, List.flatten_nil, List.append_nil, List.length_append, List.length_cons, List.length_nil]
    omega
noncomputable def quotedEnc (x : List UInt8) (b : Bool) (w : Int) : List UInt8 := (joinParts (encLines (textLines x b) w).dropLast).flatten
theorem part_butlast {α : Type} (vs : List α) : part vs none (some ((vs.length : Int) - 1)) = vs.dropLast := by
  unfold part
  have h : clipAt vs.length ((vs.length : Int) - 1) = vs.length - 1 := by
    cases hn : vs.length with
    | zero => decide
    | succ n =>
      have := clipAt_nat (n + 1) n
      rw [show (((n + 1 : Nat) : Int) - 1) = (n : Int) by omega, this]; omega
  simp only [Option.elim, h, List.drop_zero, Nat.sub_zero]
  rw [List.dropLast_eq_take]
theorem textLines_len (x : List UInt8) (b : Bool) : (textLines x b).length ≤ x.length + 1 ∧ (textLines x b).flatten.length ≤ x.length := by
  unfold textLines
  cases b with
  | true => exact splitCR_len x
  | false => simp
theorem BsAre.dropLast {vs : List Value} {xs : List (List UInt8)} (h : BsAre vs xs) : BsAre vs.dropLast xs.dropLast := by
  rw [List.dropLast_eq_take, List.dropLast_eq_take, h.length]
  exact h.take _

theorem use_enc3 (C : Cx w mean mg mb A₀ base outer h₀ L s.heap m news cs) (hd : dp + 3 < recursionLimit) (hu : un + 24 < cLine) {x : List UInt8} {b : Bool} {wd : Int} {t u : Tok} (hx : x.length ≤ 100000) (hw : 4 ≤ wd)
    (hret : ∀ (t' : Tok) h' tk', Fr h₀ L h' m → News h₀ L h' news → Q (.bytes (quotedEnc x b wd).toArray t') { s with heap := h', toks := tk' }) :
    wpAny (model PySem.Challenge.rw_no0355_01.row.toRowW.prog w) (ktrTop dp un gd cn cs L a ccd cl outer) (call (.ref 111) [.bytes x.toArray t, .bool b, .int wd u]) Q E s := by
  obtain ⟨B, F, X, N, T, hk⟩ := C
  have htl := textLines_len x b
  refine wpAny_call ?_
  k_dflt (walk_at "enterD")
  rename Fr _ _ _ _ => F1
  replace F1 : Fr _ _ _ (fun y => List.lookup y [(Str.ofString "width", Value.int wd u), (Str.ofString "is_text", Value.bool b), (Str.ofString "octets", Value.bytes x.toArray t)]) := F1
  k_steps
  walk_at "sides"
  unfold Stop
  refine For_invVF (by k_asm) rfl rfl ?_
  k_steps
  walk_at "sides"
  unfold Stop
  rename News _ _ _ _ => NN
  rename BsAre _ _ => hBs
  have hpl := hBs.length
  rename ∀ p : Addr × Obj, p ∈ _ :: news → p.1 < _ => lD
  rename ∀ p ∈ news, p.1 < _ => lN
  refine lp_list1 (newsSwap NN) (fun _ : Unit => []) [] (fun i vs _ => BsAre vs (encLines ((textLines x b).take i) wd)) rfl (newsList NN (.head _)) (NN _ (.head _)).2.1 (Nat.ne_of_gt (lD _ (.head _))) ?_ (by k_asm) ⟨(), ?_, ?_⟩ ?_ ?_
  · intro p hp
    rcases List.mem_cons.mp hp with rfl | hp
    · exact Nat.ne_of_gt (lD _ (.head _))
    · exact Nat.ne_of_lt (lN p hp)
  · walk_at "memNil"
  · exact .nil
  · rintro i vs k _ v u hh tk tl hv htl hrt hP F1 N1
    clear NN
    obtain ⟨y, ty, rfl, hy⟩ := hBs.at i v hv
    have hel := encLines_len wd ((textLines x b).take i)
    have hfl := take_flat_le (textLines x b) i
    have hlen := hP.length
    have hyl := mem_flat_le (List.mem_of_getElem? hy)
    have htk : ((textLines x b).take i).length ≤ (textLines x b).length := by rw [List.length_take]; omega
    have hpc := linePieces_len y
    have hsl := softLines_len (linePieces y) wd
    refine wp_hide ?_
    intro QH hQH
    k_steps
    all_goals try (rename BsAre _ (softLines _ _) => hB1; have hB2 := hB1.length)
    walk_at "sides"
    refine hQH _ _ ?_
    refine lp_done () (by k_asm) (by k_asm) (by walk_at "memNil") (by walk_at "frameSame") ?_
    rw [take_snoc hy, encLines, List.flatMap_append, List.flatMap_cons, List.flatMap_nil, List.append_nil, List.append_assoc]
    exact hP.append (hB1.append (.one _ _))
  · rintro vs k _ u hh tk hP F1 N1
    have hel := encLines_len wd (textLines x b)
    rw [hpl, List.take_length] at hP
    have hlen := hP.length
    have hdl := hP.dropLast
    rw [← part_butlast vs] at hdl
    have hd2 : (encLines (textLines x b) wd).dropLast.flatten.length ≤ (encLines (textLines x b) wd).flatten.length := by
      rw [List.dropLast_eq_take]; exact take_flat_le _ _
    have hd3 : (encLines (textLines x b) wd).dropLast.length ≤ (encLines (textLines x b) wd).length := by simp
    k_steps
    walk_at "sides"
    exact hret _ _ _ (by k_asm) (by walk_at "dropN")
theorem use_enc1 (C : Cx w mean mg mb A₀ base outer h₀ L s.heap m news cs) (hd : dp + 3 < recursionLimit) (hu : un + 24 < cLine) {x : List UInt8} {t : Tok} (hx : x.length ≤ 100000)
    (hret : ∀ (t' : Tok) h' tk', Fr h₀ L h' m → News h₀ L h' news → Q (.bytes (quotedEnc x true 76).toArray t') { s with heap := h', toks := tk' }) :
    wpAny (model PySem.Challenge.rw_no0355_01.row.toRowW.prog w) (ktrTop dp un gd cn cs L a ccd cl outer) (call (.ref 111) [.bytes x.toArray t]) Q E s := by
  obtain ⟨B, F, X, N, T, hk⟩ := C
  have htl := textLines_len x true
  refine wpAny_call ?_
  k_dflt (walk_at "enterD")
  rename Fr _ _ _ _ => F1
  replace F1 : Fr _ _ _ (fun y => List.lookup y [(Str.ofString "width", Value.int 76 _), (Str.ofString "is_text", Value.bool true), (Str.ofString "octets", Value.bytes x.toArray t)]) := F1
  k_steps
  walk_at "sides"
  unfold Stop
  refine For_invVF (by k_asm) rfl rfl ?_
  k_steps
  walk_at "sides"
  unfold Stop
  rename News _ _ _ _ => NN
  rename BsAre _ _ => hBs
  have hpl := hBs.length
  rename ∀ p : Addr × Obj, p ∈ _ :: news → p.1 < _ => lD
  rename ∀ p ∈ news, p.1 < _ => lN
  refine lp_list1 (newsSwap NN) (fun _ : Unit => []) [] (fun i vs _ => BsAre vs (encLines ((textLines x true).take i) 76)) rfl (newsList NN (.head _)) (NN _ (.head _)).2.1 (Nat.ne_of_gt (lD _ (.head _))) ?_ (by k_asm) ⟨(), ?_, ?_⟩ ?_ ?_
  · intro p hp
    rcases List.mem_cons.mp hp with rfl | hp
    · exact Nat.ne_of_gt (lD _ (.head _))
    · exact Nat.ne_of_lt (lN p hp)
  · walk_at "memNil"
  · exact .nil
  · rintro i vs k _ v u hh tk tl hv htl hrt hP F1 N1
    clear NN
    obtain ⟨y, ty, rfl, hy⟩ := hBs.at i v hv
    have hel := encLines_len 76 ((textLines x true).take i)
    have hfl := take_flat_le (textLines x true) i
    have hlen := hP.length
    have hyl := mem_flat_le (List.mem_of_getElem? hy)
    have htk : ((textLines x true).take i).length ≤ (textLines x true).length := by rw [List.length_take]; omega
    have hpc := linePieces_len y
    have hsl := softLines_len (linePieces y) 76
    refine wp_hide ?_
    intro QH hQH
    k_steps
    all_goals try (rename BsAre _ (softLines _ _) => hB1; have hB2 := hB1.length)
    walk_at "sides"
    refine hQH _ _ ?_
    refine lp_done () (by k_asm) (by k_asm) (by walk_at "memNil") (by walk_at "frameSame") ?_
    rw [take_snoc hy, encLines, List.flatMap_append, List.flatMap_cons, List.flatMap_nil, List.append_nil, List.append_assoc]
    exact hP.append (hB1.append (.one _ _))
  · rintro vs k _ u hh tk hP F1 N1
    have hel := encLines_len 76 (textLines x true)
    rw [hpl, List.take_length] at hP
    have hlen := hP.length
    have hdl := hP.dropLast
    rw [← part_butlast vs] at hdl
    have hd2 : (encLines (textLines x true) 76).dropLast.flatten.length ≤ (encLines (textLines x true) 76).flatten.length := by
      rw [List.dropLast_eq_take]; exact take_flat_le _ _
    have hd3 : (encLines (textLines x true) 76).dropLast.length ≤ (encLines (textLines x true) 76).length := by simp
    k_steps
    walk_at "sides"
    exact hret _ _ _ (by k_asm) (by walk_at "dropN")
end
end
section
/- R5 -/
theorem rows_none_R5 : True := by
  k_with_none
  trivial
open Builtin

/-- a while turn's end -/
noncomputable def WhPost {τ : Type} (h₀ : Heap) (L : Addr) (s : Shared) (Led : τ → List (Addr × Obj)) (ps : τ → List (Str × Value)) (stored : List Str) (m₀ : Str → Option Value) (P : τ → Prop) (μ : τ → Nat) (Q : Flow → Shared → Prop) (n : Nat) (f : Flow) (s₂ : Shared) : Prop :=
  match f with
  | .ret v => Q (.ret v) s₂
  | .brk => Q .next s₂
  | _ => ∃ (c : τ) (h' : Heap) (tk : Nat) (m' : Str → Option Value), s₂ = { s with heap := h', toks := tk } ∧ Fr h₀ L h' m' ∧ News h₀ L h' (Led c) ∧ (∀ p ∈ ps c, m' p.1 = some p.2) ∧ (∀ z, (∀ p ∈ ps c, z ≠ p.1) → stored.contains z = false → m' z = m₀ z) ∧ P c ∧ μ c < n
section
variable {prog : Program} {w : World} {A : Around} {E : Value → Shared → Prop} {Q : Flow → Shared → Prop} {s : Shared} {env : Env} {h₀ : Heap} {L : Addr}
theorem wh_done {τ : Type} {Led : τ → List (Addr × Obj)} {ps : τ → List (Str × Value)} {stored : List Str} {m₀ m' : Str → Option Value} {P : τ → Prop} {μ : τ → Nat} {n : Nat} {h' : Heap} {tk : Nat} (c : τ)
    (F : Fr h₀ L h' m') (N : News h₀ L h' (Led c)) (hk : ∀ p ∈ ps c, m' p.1 = some p.2) (hr : ∀ z, (∀ p ∈ ps c, z ≠ p.1) → stored.contains z = false → m' z = m₀ z) (hp : P c) (hm : μ c < n) :
    WhPost h₀ L s Led ps stored m₀ P μ Q n .next { s with heap := h', toks := tk } := ⟨c, h', tk, m', rfl, F, N, hk, hr, hp, hm⟩
theorem wh_loop {τ : Type} {test : Expr} {body : List Stmt} {pos : Pos} {m₀ : Str → Option Value} (Led : τ → List (Addr × Obj)) (ps : τ → List (Str × Value)) (stored : List Str) (P : τ → Prop) (μ : τ → Nat)
    (F : Fr h₀ L s.heap m₀) (hs : ∃ c₀, News h₀ L s.heap (Led c₀) ∧ (∀ p ∈ ps c₀, m₀ p.1 = some p.2) ∧ P c₀)
    (turn : ∀ (c : τ) (u : Str → Option Value) h tk, P c → Fr h₀ L h (kstB (fun z => if stored.contains z then u z else m₀ z) (ps c)) → News h₀ L h (Led c) →
      wpAny (model prog w) A (isTrue test env (eval test env)) (fun b s₂ =>
        if b = true then wpAny (model prog w) A (execs body env) (WhPost h₀ L s Led ps stored m₀ P μ Q (μ c)) E s₂ else Q .next s₂) E { s with heap := h, toks := tk })
    (hE : PassesOwn (model prog w) A env E := by passes_own) :
    wpAny (model prog w) A (exec (.While test body [] pos) env) Q E s := by
  obtain ⟨c₀, N, hk, hp⟩ := hs
  refine While_inv2 (fun n m nx => ∃ c : τ, nx = Led c ∧ μ c = n ∧ (∀ p ∈ ps c, m p.1 = some p.2) ∧ (∀ z, (∀ p ∈ ps c, z ≠ p.1) → stored.contains z = false → m z = m₀ z) ∧ P c) F N ⟨c₀, rfl, rfl, hk, fun _ _ _ => rfl, hp⟩ ?_ hE
  rintro n m₁ nx h tk F₁ N₁ ⟨c, hnx, hsz, h1, h2, hp'⟩
  rw [hnx] at N₁
  rw [← hsz]
  refine wpAny_mono (turn c m₁ h tk hp' (ksw_fr h1 h2 F₁) N₁) (fun b s₂ p => ?_) fun _ _ x => x
  cases b with
  | false => simpa using p
  | true =>
    simp only [if_true] at p ⊢
    refine wpAny_mono p (fun f s₃ q => ?_) fun _ _ x => x
    cases f with
    | ret v => exact q
    | brk => exact q
    | next =>
      obtain ⟨c', h', tk', m', rfl, F', N', hk9, hr9, hp9, hm9⟩ := q
      exact ⟨h', tk', m', Led c', μ c', rfl, F', N', hm9, c', rfl, rfl, hk9, hr9, hp9⟩
    | cont =>
      obtain ⟨c', h', tk', m', rfl, F', N', hk9, hr9, hp9, hm9⟩ := q
      exact ⟨h', tk', m', Led c', μ c', rfl, F', N', hm9, c', rfl, rfl, hk9, hr9, hp9⟩
/-- the same with the head of the ledger named by what is known -/
theorem wh_loopD {τ : Type} {test : Expr} {body : List Stmt} {pos : Pos} {m₀ : Str → Option Value} {D : Addr} {o : Obj} {tl : List (Addr × Obj)} (N : News h₀ L s.heap ((D, o) :: tl)) (Led : Addr → τ → List (Addr × Obj)) (ps : τ → List (Str × Value)) (stored : List Str) (P : Addr → τ → Prop) (μ : τ → Nat)
    (F : Fr h₀ L s.heap m₀) (hs : ∃ c₀, Led D c₀ = (D, o) :: tl ∧ (∀ p ∈ ps c₀, m₀ p.1 = some p.2) ∧ P D c₀)
    (turn : ∀ (c : τ) (u : Str → Option Value) h tk, P D c → Fr h₀ L h (kstB (fun z => if stored.contains z then u z else m₀ z) (ps c)) → News h₀ L h (Led D c) →
      wpAny (model prog w) A (isTrue test env (eval test env)) (fun b s₂ =>
        if b = true then wpAny (model prog w) A (execs body env) (WhPost h₀ L s (Led D) ps stored m₀ (P D) μ Q (μ c)) E s₂ else Q .next s₂) E { s with heap := h, toks := tk })
    (hE : PassesOwn (model prog w) A env E := by passes_own) :
    wpAny (model prog w) A (exec (.While test body [] pos) env) Q E s := by
  obtain ⟨c₀, e, hk, hp⟩ := hs
  exact wh_loop (Led D) ps stored (P D) μ F ⟨c₀, e ▸ N, hk, hp⟩ turn hE
end

section
variable {prog : Program} {w : World} {A : Around} {E : Value → Shared → Prop} {s : Shared} {h₀ : Heap} {L D T : Addr} {m : Str → Option Value} {tl : List (Addr × Obj)} {vs ws : List Value} {n : Nat} {v : Value} {o : Obj} {Q : Value → Shared → Prop}
/-- append where one thing stands ahead of the list in the ledger -/
theorem append_2 (F : Fr h₀ L s.heap m) (N : News h₀ L s.heap ((T, o) :: (D, listOf vs.toArray n) :: tl)) (hD : ∀ p ∈ tl, p.1 ≠ D) (hT : D < T) (hz : vs.length ≤ 16777215)
    (h : ∀ h' n', Fr h₀ L h' m → News h₀ L h' ((D, listOf (vs ++ [v]).toArray n') :: (T, o) :: tl) → Q .none { s with heap := h' }) :
    wpAny (model prog w) A (call (.builtin "list.append") [.ref D, v]) Q E s := by
  refine append_h (tl := (T, o) :: tl) F (newsSwap N) (fun p hp => ?_) hz h
  rcases List.mem_cons.mp hp with rfl | hp
  · exact Nat.ne_of_gt hT
  · exact hD p hp
end
end
section
/- M5 -/
open Builtin
theorem filled5 : hd.heap_1 = hd.heap_1 ∧ PySem.Challenge.rw_no0355_01 = PySem.Challenge.rw_no0355_01 := by
  k_fill
  exact ⟨rfl, rfl⟩
theorem rows_7 : True := by
  k_with_none
  k_with "my getMethod bytes" => (k_here; first | refine method_b slot_bytes_find type_bytes_find ?_ | refine method_b slot_bytes_index type_bytes_index ?_ | refine method_b slot_bytes_lower type_bytes_lower ?_ | refine method_b slot_bytes_rstrip type_bytes_rstrip ?_ | refine method_b slot_bytes_split type_bytes_split ?_ | refine method_b slot_bytes_join type_bytes_join ?_)
  k_with "my call builtin:bytes.find" => (k_here; first | refine call_find3 ?_ | refine call_find2 ?_; intro _ _)
  k_with "my call builtin:bytes.lower" => (k_here; refine call_lower (Side.out ?_) ?_; rotate_left; intro _ _)
  k_with "my call builtin:bytes.rstrip" => (k_here; refine call_rstrip (Side.out ?_) ?_; rotate_left; intro _ _)
  k_with "my binaryOp Add bytes bytes" => (k_here; refine add_b (Side.out ?_) ?_; rotate_left; intro _ _)
  k_with "my subscriptTail" => (k_here; (with_reducible show wpAny _ _ (subscriptTail _ _ (Value.bytes (List.toArray _) _) (Value.int _ _)) _ _ _); (refine item_b (Side.out ?_) (Side.out ?_) (Side.out ?_) ?_; rotate_left; rotate_left; rotate_left; intro _ _))
  k_with "my subscriptTail" => (k_here; (with_reducible show wpAny _ _ (subscriptTail _ (Expr.Slice _ _ none _) (Value.bytes (List.toArray _) _) (Value.ref _)) _ _ _); (with_reducible rename Fr _ _ _ _ => F'); (with_reducible rename News _ _ _ _ => N'); (refine slice_b (s := ⟨_, _, _, _, _⟩) F' N' (by constructor) (by constructor) (Side.out ?_) ?_; rotate_left; intro _ _ _ _ _))
  k_with "my call builtin:len" => (k_here; (with_reducible show wpAny _ _ (call (Value.builtin "len") [Value.bytes (List.toArray _) _]) _ _ _); (refine len_b (Side.out ?_) ?_; rotate_left; intro _ _))
  k_with "my binaryOp FloorDiv int int" => (k_here; refine fdiv_i (by first | decide | omega) (by exact PyProof.noPylong_small (by omega)) ?_; intro _ _)
  k_with "my binaryOp Mod int int" => (k_here; refine fmod_i (by first | decide | omega) ?_; intro _ _)
  k_with "my call type:bytes" => (k_here; (with_reducible show wpAny _ _ (call (Value.type _) [Value.ref _]) _ _ _); k_dflt (refine' bytes_d (by k_asm) (by k_asm) ?q154i (Side.out ?_) (Side.out ?_) ?q154h ?_; (case q154i => first | l_ints | assumption); (case q154h => with_unfolding_all rfl)); rotate_left; rotate_left; intro _ _ _ _ _; (try k_sweep))
  k_with "my dropN" => first | k_asm | (refine' cb_drop ?q155cbN ?q155cbS; (case q155cbN => assumption); (case q155cbS => kcj_all))
  k_with "my sides" => (all_goals try (show Side _; unfold Side; first | assumption | omega | (simp only [List.length_cons, List.length_nil]; omega) | (simp only [List.length_append, List.length_map, List.length_cons, List.length_nil]; omega) | decide))
  k_with "my cx" => exact ⟨by k_asm, by k_asm, by k_asm, by k_asm, by k_asm, by first | exact rfl | assumption⟩
  k_with "my call ref" => (k_here; k_dflt (refine' use_hex_worth (by walk_at "cx") (by ktr_room) (by ktr_units) ?_); intro _ _ _ _ _)
  k_with "my call ref" => (k_here; k_dflt (refine' use_is_plain (by walk_at "cx") (by ktr_room) (by ktr_units) ?_); intro _ _ _ _ _)
  k_with "my call ref" => (k_here; k_dflt (refine' use_quoted_code (by walk_at "cx") (by ktr_room) (by ktr_units) (Side.out ?_) ?_); rotate_left; intro _ _ _ _ _)
  k_with "my exec For Name Call cons nil" => (k_here; refine Stop.mk ?_)
  k_with "my exec For Name Name cons nil" => (k_here; refine Stop.mk ?_)
  k_with "my pyIter ref" => ((with_reducible show wpAny _ _ (pyIter (Value.ref _)) (fun it s₂ => LoopAtV _ _ _ _ _ _ _ _ _ it s₂) _ _); refine Stop.mk ?_)
  k_with "my InvPostN" => (dsimp only [InvPostN])
  k_with "my InvEndN" => (refine Stop.mk ?_)
  k_with "my call builtin:list.append" => (k_here; (with_reducible show wpAny _ _ (call (Value.builtin _) [Value.ref _, _]) _ _ _); k_dflt (refine' append_h (by k_asm) (by k_asm) (Side.out ?_) (Side.out ?_) ?_); rotate_left; rotate_left; intro _ _ _ _; (try k_sweep))
  k_with "my frameSame" => (intro _ h1 h2 h3; (try simp only [List.forall_mem_cons, List.not_mem_nil, false_implies, implies_true, and_true, ne_eq] at h2); (try simp only [List.contains_cons, List.contains_nil, Bool.or_false, Bool.or_eq_false_iff, beq_eq_false_iff_ne, ne_eq] at h3); first | (simp [kstB, h1, h2, h3]; done) | (simp [kstB, h1, h3]; done) | (simp [kstB, h1, h2]; done) | (simp [kstB, h1]; done))
  k_with "my memNil" => exact (fun _ h => nomatch h)
  k_with "my call ref" => (k_here; k_dflt (refine' use_quoted_at (by walk_at "cx") (by ktr_room) (by ktr_units) (Side.out ?_) ?_); rotate_left; intro _ _ _ _ _)
  k_with "my memL" => first | assumption | exact List.Mem.head _ | (refine List.Mem.tail _ ?_; walk_at "memL") | (refine List.mem_append.mpr (.inr ?_); walk_at "memL") | (refine List.mem_append.mpr (.inl ?_); walk_at "memL")
  k_with "my isL" => exact newsList (by k_asm) (by walk_at "memL")
  k_with "my call builtin:len" => (k_here; (with_reducible show wpAny _ _ (call (Value.builtin "len") [Value.ref _]) _ _ _); (refine len_l (by walk_at "isL") (Side.out ?_) ?_; rotate_left; intro _ _))
  k_with "my subscriptTail" => (k_here; (with_reducible show wpAny _ _ (subscriptTail _ _ (Value.ref _) (Value.int _ _)) _ _ _); (refine item_l (by walk_at "isL") (by assumption) (Side.out ?_) (Side.out ?_) (Side.out ?_) ?_; rotate_left; rotate_left; rotate_left; intro _))
  k_with "my subscriptTail" => (k_here; (with_reducible show wpAny _ _ (subscriptTail _ (Expr.Slice _ _ none _) (Value.ref _) (Value.ref _)) _ _ _); (with_reducible rename Fr _ _ _ _ => F'); (with_reducible rename News _ _ _ _ => N'); (refine slice_l (s := ⟨_, _, _, _, _⟩) F' N' (newsList N' (by walk_at "memL")) (by constructor) (by constructor) (Side.out ?_) ?_; rotate_left; intro _ _ F' N' _))
  k_with "my binaryOp Add ref ref" => (k_here; (refine add_l (by k_asm) (by k_asm) (by walk_at "isL") (by walk_at "isL") (Side.out ?_) ?_; rotate_left; intro _ _ _ _ _))
  k_with "my call builtin:list.extend" => (k_here; k_dflt (refine' extend_h (by k_asm) (by k_asm) (Side.out ?_) (Side.out ?_) (Side.out ?_) ?_); rotate_left; rotate_left; rotate_left; intro _ _ _ _; (try k_sweep))
  k_with "my call builtin:list.extend" => (k_here; k_dflt (refine' extend_3 (by k_asm) (by k_asm) (Side.out ?_) ?q177k3 (Side.out ?_) ?_; (case q177k3 => rename ∀ p : Addr × Obj, p ∈ _ → p.1 < _ => lS; exact fun e => absurd (lS _ (List.Mem.tail _ (List.Mem.head _))) (by rw [e]; exact Nat.lt_irrefl _))); rotate_left; rotate_left; intro _ _ _ _; (try k_sweep))
  k_with "my subscriptTail Name Slice ref ref" => (k_here; (with_reducible rename Fr _ _ _ _ => F'); (with_reducible rename News _ _ _ _ => N'); (refine slice_l (s := ⟨_, _, _, _, _⟩) F' N' (newsList N' (by walk_at "memL")) (by constructor) (by constructor) (Side.out ?_) ?_; rotate_left; intro _ _ F' N' _))
  k_with "my call ref" => (k_here; k_dflt (refine' use_line_pieces (by walk_at "cx") (by ktr_room) (by ktr_units) (Side.out ?_) ?_); rotate_left; intro _ _ _ _ _ _ _ _ _)
  k_with "my call ref" => (k_here; k_dflt (refine' use_soft_lines (by walk_at "cx") (by ktr_room) (by ktr_units) ?q180km (by assumption) (Side.out ?_) (Side.out ?_) ?_; (case q180km => walk_at "memL")); rotate_left; rotate_left; intro _ _ _ _ _ _ _ _ _)
  k_with "my call builtin:bytes.split" => (k_here; k_dflt (refine' call_split_CR (by k_asm) (by k_asm) (Side.out ?_) ?_); rotate_left; intro _ _ _ _ _ _ _ _)
  k_with "my call builtin:bytes.join" => (k_here; k_dflt (refine' call_join ?q182kl (by assumption) (Side.out ?_) ?_; (case q182kl => walk_at "isL")); rotate_left; intro _ _)
  k_with "my exec While Compare" => (k_here; refine Stop.mk ?_)
  k_with "my exec While Constant" => (k_here; refine Stop.mk ?_)
  k_with "my exec While Compare cons nil" => (k_here; refine Stop.mk ?_)
  k_with "my exec While" => (k_here; refine Stop.mk ?_)
  k_with "my whSame" => (intro _ h2 h3; (try simp only [List.forall_mem_cons, List.not_mem_nil, false_implies, implies_true, and_true, ne_eq] at h2); (try simp only [List.contains_cons, List.contains_nil, Bool.or_false, Bool.or_eq_false_iff, beq_eq_false_iff_ne, ne_eq] at h3); first | (simp [kstB, h2, h3]; done) | (simp [kstB, h3]; done) | (simp [kstB, h2]; done) | (simp [kstB]; done))
  k_with "my call builtin:list.append" => (k_here; (with_reducible show wpAny _ _ (call (Value.builtin _) [Value.ref _, Value.ref _]) _ _ _); k_dflt (refine' append_2 (by k_asm) (by k_asm) (Side.out ?_) ?q188k3 (Side.out ?_) ?_; (case q188k3 => rename _ < _ ∧ AllLt _ _ => q; exact q.1)); rotate_left; rotate_left; intro _ _ _ _; (try k_sweep))
  trivial
section
variable {w : World} {mean : ExcName → Option Value} {mg mb : Str → Option Value} {dp un : Nat} {gd : Option (List Code)} {cn : Str} {cs : Scope} {a : Addr} {ccd : Value} {cl : List (Str × Addr)} {outer : List Env} {A₀ : Around} {base h₀ : Heap} {L : Addr} {m : Str → Option Value} {news : List (Addr × Obj)} {s : Shared} {Q E : Value → Shared → Prop}
/-- the code that a quoted sign at i tells, -1 for a plain one -/
noncomputable def codeAt (x : List UInt8) (i : Nat) : Int := if x.getD i 0 = 61 then quotedAt x i else -1
noncomputable def unqFrom (x : List UInt8) (i : Nat) : List Int :=
  if i < x.length then
    if 0 ≤ codeAt x i then codeAt x i :: unqFrom x (i + 3) else ((x.getD i 0).toNat : Int) :: unqFrom x (i + 1)
  else []
termination_by x.length - i
noncomputable def unquoted (x : List UInt8) : List UInt8 := (unqFrom x 0).map fun n => n.toNat.toUInt8
theorem hexWorth_lt (c : Int) : hexWorth c < 16 ∧ -1 ≤ hexWorth c := by
  unfold hexWorth
  (repeat' split) <;> omega
theorem quotedAt_lt (x : List UInt8) (i : Nat) : quotedAt x i < 256 ∧ -1 ≤ quotedAt x i := by
  unfold quotedAt
  have h1 := hexWorth_lt ((x.getD (i + 1) 0).toNat : Int)
  have h2 := hexWorth_lt ((x.getD (i + 2) 0).toNat : Int)
  (repeat' split) <;> omega
theorem codeAt_lt (x : List UInt8) (i : Nat) : codeAt x i < 256 ∧ -1 ≤ codeAt x i := by
  unfold codeAt
  have := quotedAt_lt x i
  split <;> omega
theorem unqFrom_code {x : List UInt8} {i : Nat} (hi : i < x.length) (h : 0 ≤ codeAt x i) : unqFrom x i = codeAt x i :: unqFrom x (i + 3) := by
  rw [unqFrom, if_pos hi, if_pos h]
theorem unqFrom_plain {x : List UInt8} {i : Nat} (hi : i < x.length) (h : ¬ 0 ≤ codeAt x i) : unqFrom x i = ((x.getD i 0).toNat : Int) :: unqFrom x (i + 1) := by
  rw [unqFrom, if_pos hi, if_neg h]
theorem unqFrom_end {x : List UInt8} {i : Nat} (hi : ¬ i < x.length) : unqFrom x i = [] := by
  rw [unqFrom, if_neg hi]
theorem codeAt_is {x : List UInt8} {i : Nat} (h : ((x.getD i 0).toNat : Int) = 61) : codeAt x i = quotedAt x i := by
  unfold codeAt
  rw [if_pos]
  have h2 : (x.getD i 0).toNat = 61 := by omega
  exact UInt8.toNat_inj.mp h2
theorem codeAt_not {x : List UInt8} {i : Nat} (h : ((x.getD i 0).toNat : Int) ≠ 61) : codeAt x i = -1 := by
  unfold codeAt
  rw [if_neg]
  intro e
  rw [e] at h
  exact h rfl
noncomputable def UqInv (x : List UInt8) (vs : List Value) (ns : List Int) (i : Nat) : Prop := IntsAre vs ns ∧ ns ++ unqFrom x i = unqFrom x 0 ∧ (ns.length ≤ i ∧ i ≤ x.length + 2) ∧ ∀ n ∈ ns, 0 ≤ n ∧ n < 256
theorem UqInv.code {x : List UInt8} {vs : List Value} {ns : List Int} {i : Nat} {c : Int} {t : Tok} (h : UqInv x vs ns i) (hi : i < x.length) (e : codeAt x i = c) (h0 : 0 ≤ c) : UqInv x (vs ++ [.int c t]) (ns ++ [c]) (i + 3) := by
  obtain ⟨hI, hU, hL, hR⟩ := h
  subst e
  refine ⟨hI.append (.cons _ _ .nil), ?_, ?_, fun n hn => ?_⟩
  · rw [List.append_assoc, List.singleton_append, ← unqFrom_code hi h0, hU]
  · simp only [List.length_append, List.length_cons, List.length_nil]; omega
  · rcases List.mem_append.mp hn with hn | hn
    · exact hR n hn
    · rw [List.mem_singleton.mp hn]
      exact ⟨h0, (codeAt_lt x i).1⟩
theorem UqInv.plain {x : List UInt8} {vs : List Value} {ns : List Int} {i : Nat} {t : Tok} (h : UqInv x vs ns i) (hi : i < x.length) (h0 : ¬ 0 ≤ codeAt x i) : UqInv x (vs ++ [.int ((x.getD i 0).toNat : Int) t]) (ns ++ [((x.getD i 0).toNat : Int)]) (i + 1) := by
  obtain ⟨hI, hU, hL, hR⟩ := h
  refine ⟨hI.append (.cons _ _ .nil), ?_, ?_, fun n hn => ?_⟩
  · rw [List.append_assoc, List.singleton_append, ← unqFrom_plain hi h0, hU]
  · simp only [List.length_append, List.length_cons, List.length_nil]; omega
  · rcases List.mem_append.mp hn with hn | hn
    · exact hR n hn
    · rw [List.mem_singleton.mp hn]
      exact byte_lt _
theorem use_unquoted (C : Cx w mean mg mb A₀ base outer h₀ L s.heap m news cs) (hd : dp + 3 < recursionLimit) (hu : un + 24 < cLine) {x : List UInt8} {t : Tok} (hx : x.length ≤ 8388608)
    (hret : ∀ (t' : Tok) h' tk', Fr h₀ L h' m → News h₀ L h' news → Q (.bytes (unquoted x).toArray t') { s with heap := h', toks := tk' }) :
    wpAny (model PySem.Challenge.rw_no0355_01.row.toRowW.prog w) (ktrTop dp un gd cn cs L a ccd cl outer) (call (.ref 132) [.bytes x.toArray t]) Q E s := by
  obtain ⟨B, F, X, N, T, hk⟩ := C
  refine wpAny_call ?_
  k_dflt cell_enter
  rename Fr _ _ _ _ => F1
  replace F1 : Fr _ _ _ (fun y => List.lookup y [(Str.ofString "line", Value.bytes x.toArray t)]) := F1
  k_steps
  walk_at "sides"
  unfold Stop
  rename News _ _ _ _ => NN
  rename ∀ p ∈ news, p.1 < _ => lN
  refine wh_loopD NN (fun D c => (D, listOf c.1.toArray c.2.1) :: news) (fun c : List Value × Nat × List Int × Nat × Tok => [(Str.ofString "at", Value.int (c.2.2.2.1 : Int) c.2.2.2.2)]) ["code"]
    (fun _ c => UqInv x c.1 c.2.2.1 c.2.2.2.1) (fun c => x.length + 3 - c.2.2.2.1) (by k_asm) ?_ ?_
  · refine' ⟨([], _, [], 0, _), rfl, _, .nil, rfl, ⟨Nat.le_refl _, Nat.zero_le _⟩, fun n hn => nomatch hn⟩
    rotate_left
    · intro p hp
      rw [List.mem_singleton.mp hp]
      exact rfl
  · rintro ⟨vs, k, ns, i, ti⟩ u hh tk hI F1 N1
    clear NN
    dsimp only at hI F1 N1 ⊢
    have hI1 := hI.1
    have hlen := hI1.length
    have hL := hI.2.2.1
    have lNe : ∀ p ∈ news, p.1 ≠ _ := fun p hp => Nat.ne_of_lt (lN p hp)
    k_steps
    walk_at "sides"
    all_goals simp only [Int.toNat_natCast] at *
    · refine' wh_done (_, _, ns ++ [quotedAt x i], i + 3, _) (by k_asm) (by k_asm) (fun p hp => by rw [List.mem_singleton.mp hp]; exact rfl) (by walk_at "whSame") (hI.code (by omega) (codeAt_is (by assumption)) (by assumption)) _
      dsimp only
      omega
    · refine' wh_done (_, _, ns ++ [((x.getD i 0).toNat : Int)], i + 1, _) (by k_asm) (by k_asm) (fun p hp => by rw [List.mem_singleton.mp hp]; exact rfl) (by walk_at "whSame") (hI.plain (by omega) (by rw [codeAt_is (by assumption)]; assumption)) _
      dsimp only
      omega
    · refine' wh_done (_, _, ns ++ [((x.getD i 0).toNat : Int)], i + 1, _) (by k_asm) (by k_asm) (fun p hp => by rw [List.mem_singleton.mp hp]; exact rfl) (by walk_at "whSame") (hI.plain (by omega) (by rw [codeAt_not (by assumption)]; omega)) _
      dsimp only
      omega
    · have e : ns = unqFrom x 0 := by
        have h2 := hI.2.1
        rw [unqFrom_end (by omega), List.append_nil] at h2
        exact h2
      rw [e]
      exact hret _ _ _ (by k_asm) (by walk_at "dropN")
    · exact hI.2.2.2
end
end
section
/- M6 -/
open Builtin
theorem filled6 : hd.heap_1 = hd.heap_1 ∧ PySem.Challenge.rw_no0355_01 = PySem.Challenge.rw_no0355_01 := by
  k_fill
  exact ⟨rfl, rfl⟩
theorem rows_8 : True := by
  k_with_none
  k_with "my getMethod bytes" => (k_here; first | refine method_b slot_bytes_find type_bytes_find ?_ | refine method_b slot_bytes_index type_bytes_index ?_ | refine method_b slot_bytes_lower type_bytes_lower ?_ | refine method_b slot_bytes_rstrip type_bytes_rstrip ?_ | refine method_b slot_bytes_split type_bytes_split ?_ | refine method_b slot_bytes_join type_bytes_join ?_)
  k_with "my call builtin:bytes.find" => (k_here; first | refine call_find3 ?_ | refine call_find2 ?_; intro _ _)
  k_with "my call builtin:bytes.lower" => (k_here; refine call_lower (Side.out ?_) ?_; rotate_left; intro _ _)
  k_with "my call builtin:bytes.rstrip" => (k_here; refine call_rstrip (Side.out ?_) ?_; rotate_left; intro _ _)
  k_with "my binaryOp Add bytes bytes" => (k_here; refine add_b (Side.out ?_) ?_; rotate_left; intro _ _)
  k_with "my subscriptTail" => (k_here; (with_reducible show wpAny _ _ (subscriptTail _ _ (Value.bytes (List.toArray _) _) (Value.int _ _)) _ _ _); (refine item_b (Side.out ?_) (Side.out ?_) (Side.out ?_) ?_; rotate_left; rotate_left; rotate_left; intro _ _))
  k_with "my subscriptTail" => (k_here; (with_reducible show wpAny _ _ (subscriptTail _ (Expr.Slice _ _ none _) (Value.bytes (List.toArray _) _) (Value.ref _)) _ _ _); (with_reducible rename Fr _ _ _ _ => F'); (with_reducible rename News _ _ _ _ => N'); (refine slice_b (s := ⟨_, _, _, _, _⟩) F' N' (by constructor) (by constructor) (Side.out ?_) ?_; rotate_left; intro _ _ _ _ _))
  k_with "my call builtin:len" => (k_here; (with_reducible show wpAny _ _ (call (Value.builtin "len") [Value.bytes (List.toArray _) _]) _ _ _); (refine len_b (Side.out ?_) ?_; rotate_left; intro _ _))
  k_with "my binaryOp FloorDiv int int" => (k_here; refine fdiv_i (by first | decide | omega) (by exact PyProof.noPylong_small (by omega)) ?_; intro _ _)
  k_with "my binaryOp Mod int int" => (k_here; refine fmod_i (by first | decide | omega) ?_; intro _ _)
  k_with "my call type:bytes" => (k_here; (with_reducible show wpAny _ _ (call (Value.type _) [Value.ref _]) _ _ _); k_dflt (refine' bytes_d (by k_asm) (by k_asm) ?q199i (Side.out ?_) (Side.out ?_) ?q199h ?_; (case q199i => first | l_ints | assumption); (case q199h => with_unfolding_all rfl)); rotate_left; rotate_left; intro _ _ _ _ _; (try k_sweep))
  k_with "my dropN" => first | k_asm | (refine' cb_drop ?q200cbN ?q200cbS; (case q200cbN => assumption); (case q200cbS => kcj_all))
  k_with "my sides" => (all_goals try (show Side _; unfold Side; first | assumption | omega | (simp only [List.length_cons, List.length_nil]; omega) | (simp only [List.length_append, List.length_map, List.length_cons, List.length_nil]; omega) | decide))
  k_with "my cx" => exact ⟨by k_asm, by k_asm, by k_asm, by k_asm, by k_asm, by first | exact rfl | assumption⟩
  k_with "my call ref" => (k_here; k_dflt (refine' use_hex_worth (by walk_at "cx") (by ktr_room) (by ktr_units) ?_); intro _ _ _ _ _)
  k_with "my call ref" => (k_here; k_dflt (refine' use_is_plain (by walk_at "cx") (by ktr_room) (by ktr_units) ?_); intro _ _ _ _ _)
  k_with "my call ref" => (k_here; k_dflt (refine' use_quoted_code (by walk_at "cx") (by ktr_room) (by ktr_units) (Side.out ?_) ?_); rotate_left; intro _ _ _ _ _)
  k_with "my exec For Name Call cons nil" => (k_here; refine Stop.mk ?_)
  k_with "my exec For Name Name cons nil" => (k_here; refine Stop.mk ?_)
  k_with "my pyIter ref" => ((with_reducible show wpAny _ _ (pyIter (Value.ref _)) (fun it s₂ => LoopAtV _ _ _ _ _ _ _ _ _ it s₂) _ _); refine Stop.mk ?_)
  k_with "my InvPostN" => (dsimp only [InvPostN])
  k_with "my InvEndN" => (refine Stop.mk ?_)
  k_with "my call builtin:list.append" => (k_here; (with_reducible show wpAny _ _ (call (Value.builtin _) [Value.ref _, _]) _ _ _); k_dflt (refine' append_h (by k_asm) (by k_asm) (Side.out ?_) (Side.out ?_) ?_); rotate_left; rotate_left; intro _ _ _ _; (try k_sweep))
  k_with "my frameSame" => (intro _ h1 h2 h3; (try simp only [List.forall_mem_cons, List.not_mem_nil, false_implies, implies_true, and_true, ne_eq] at h2); (try simp only [List.contains_cons, List.contains_nil, Bool.or_false, Bool.or_eq_false_iff, beq_eq_false_iff_ne, ne_eq] at h3); first | (simp [kstB, h1, h2, h3]; done) | (simp [kstB, h1, h3]; done) | (simp [kstB, h1, h2]; done) | (simp [kstB, h1]; done))
  k_with "my memNil" => exact (fun _ h => nomatch h)
  k_with "my call ref" => (k_here; k_dflt (refine' use_quoted_at (by walk_at "cx") (by ktr_room) (by ktr_units) (Side.out ?_) ?_); rotate_left; intro _ _ _ _ _)
  k_with "my memL" => first | assumption | exact List.Mem.head _ | (refine List.Mem.tail _ ?_; walk_at "memL") | (refine List.mem_append.mpr (.inr ?_); walk_at "memL") | (refine List.mem_append.mpr (.inl ?_); walk_at "memL")
  k_with "my isL" => exact newsList (by k_asm) (by walk_at "memL")
  k_with "my call builtin:len" => (k_here; (with_reducible show wpAny _ _ (call (Value.builtin "len") [Value.ref _]) _ _ _); (refine len_l (by walk_at "isL") (Side.out ?_) ?_; rotate_left; intro _ _))
  k_with "my subscriptTail" => (k_here; (with_reducible show wpAny _ _ (subscriptTail _ _ (Value.ref _) (Value.int _ _)) _ _ _); (refine item_l (by walk_at "isL") (by assumption) (Side.out ?_) (Side.out ?_) (Side.out ?_) ?_; rotate_left; rotate_left; rotate_left; intro _))
  k_with "my subscriptTail" => (k_here; (with_reducible show wpAny _ _ (subscriptTail _ (Expr.Slice _ _ none _) (Value.ref _) (Value.ref _)) _ _ _); (with_reducible rename Fr _ _ _ _ => F'); (with_reducible rename News _ _ _ _ => N'); (refine slice_l (s := ⟨_, _, _, _, _⟩) F' N' (newsList N' (by walk_at "memL")) (by constructor) (by constructor) (Side.out ?_) ?_; rotate_left; intro _ _ F' N' _))
  k_with "my binaryOp Add ref ref" => (k_here; (refine add_l (by k_asm) (by k_asm) (by walk_at "isL") (by walk_at "isL") (Side.out ?_) ?_; rotate_left; intro _ _ _ _ _))
  k_with "my call builtin:list.extend" => (k_here; k_dflt (refine' extend_h (by k_asm) (by k_asm) (Side.out ?_) (Side.out ?_) (Side.out ?_) ?_); rotate_left; rotate_left; rotate_left; intro _ _ _ _; (try k_sweep))
  k_with "my call builtin:list.extend" => (k_here; k_dflt (refine' extend_3 (by k_asm) (by k_asm) (Side.out ?_) ?q222k3 (Side.out ?_) ?_; (case q222k3 => rename ∀ p : Addr × Obj, p ∈ _ → p.1 < _ => lS; exact fun e => absurd (lS _ (List.Mem.tail _ (List.Mem.head _))) (by rw [e]; exact Nat.lt_irrefl _))); rotate_left; rotate_left; intro _ _ _ _; (try k_sweep))
  k_with "my subscriptTail Name Slice ref ref" => (k_here; (with_reducible rename Fr _ _ _ _ => F'); (with_reducible rename News _ _ _ _ => N'); (refine slice_l (s := ⟨_, _, _, _, _⟩) F' N' (newsList N' (by walk_at "memL")) (by constructor) (by constructor) (Side.out ?_) ?_; rotate_left; intro _ _ F' N' _))
  k_with "my call ref" => (k_here; k_dflt (refine' use_line_pieces (by walk_at "cx") (by ktr_room) (by ktr_units) (Side.out ?_) ?_); rotate_left; intro _ _ _ _ _ _ _ _ _)
  k_with "my call ref" => (k_here; k_dflt (refine' use_soft_lines (by walk_at "cx") (by ktr_room) (by ktr_units) ?q225km (by assumption) (Side.out ?_) (Side.out ?_) ?_; (case q225km => walk_at "memL")); rotate_left; rotate_left; intro _ _ _ _ _ _ _ _ _)
  k_with "my call builtin:bytes.split" => (k_here; k_dflt (refine' call_split_CR (by k_asm) (by k_asm) (Side.out ?_) ?_); rotate_left; intro _ _ _ _ _ _ _ _)
  k_with "my call builtin:bytes.join" => (k_here; k_dflt (refine' call_join ?q227kl (by assumption) (Side.out ?_) ?_; (case q227kl => walk_at "isL")); rotate_left; intro _ _)
  k_with "my exec While Compare" => (k_here; refine Stop.mk ?_)
  k_with "my exec While Constant" => (k_here; refine Stop.mk ?_)
  k_with "my exec While Compare cons nil" => (k_here; refine Stop.mk ?_)
  k_with "my exec While" => (k_here; refine Stop.mk ?_)
  k_with "my whSame" => (intro _ h2 h3; (try simp only [List.forall_mem_cons, List.not_mem_nil, false_implies, implies_true, and_true, ne_eq] at h2); (try simp only [List.contains_cons, List.contains_nil, Bool.or_false, Bool.or_eq_false_iff, beq_eq_false_iff_ne, ne_eq] at h3); first | (simp [kstB, h2, h3]; done) | (simp [kstB, h3]; done) | (simp [kstB, h2]; done) | (simp [kstB]; done))
  k_with "my call builtin:list.append" => (k_here; (with_reducible show wpAny _ _ (call (Value.builtin _) [Value.ref _, Value.ref _]) _ _ _); k_dflt (refine' append_2 (by k_asm) (by k_asm) (Side.out ?_) ?q233k3 (Side.out ?_) ?_; (case q233k3 => rename _ < _ ∧ AllLt _ _ => q; exact q.1)); rotate_left; rotate_left; intro _ _ _ _; (try k_sweep))
  trivial
section
variable {w : World} {mean : ExcName → Option Value} {mg mb : Str → Option Value} {dp un : Nat} {gd : Option (List Code)} {cn : Str} {cs : Scope} {a : Addr} {ccd : Value} {cl : List (Str × Addr)} {outer : List Env} {A₀ : Around} {base h₀ : Heap} {L : Addr} {m : Str → Option Value} {news : List (Addr × Obj)} {s : Shared} {Q E : Value → Shared → Prop}
noncomputable def tupOf (a b : List UInt8) (t u : Tok) : Obj := { cls := .type "tuple", data := .seq #[.bytes a.toArray t, .bytes b.toArray u] }
noncomputable def PairsAre (tps : List (Addr × Obj)) (vs : List Value) (ps : List (List UInt8 × List UInt8)) : Prop := vs.length = ps.length ∧ ∀ (i : Nat) v, vs[i]? = some v → ∃ T a b t u, v = .ref T ∧ (T, tupOf a b t u) ∈ tps ∧ ps[i]? = some (a, b)
theorem PairsAre.snoc {tps : List (Addr × Obj)} {vs : List Value} {ps : List (List UInt8 × List UInt8)} {T : Addr} {a b : List UInt8} {t u : Tok} (h : PairsAre tps vs ps) : PairsAre ((T, tupOf a b t u) :: tps) (vs ++ [.ref T]) (ps ++ [(a, b)]) := by
  obtain ⟨hl, hi⟩ := h
  refine ⟨by simp [hl], fun i v hv => ?_⟩
  rcases Nat.lt_or_ge i vs.length with hlt | hge
  · rw [List.getElem?_append_left hlt] at hv
    obtain ⟨T', a', b', t', u', e1, e2, e3⟩ := hi i v hv
    exact ⟨T', a', b', t', u', e1, .tail _ e2, by rw [List.getElem?_append_left (by omega)]; exact e3⟩
  · rw [List.getElem?_append_right hge] at hv
    have h0 : i - vs.length = 0 := by
      cases hq : i - vs.length with
      | zero => rfl
      | succ n => rw [hq] at hv; cases hv
    rw [h0] at hv
    cases hv
    exact ⟨T, a, b, t, u, rfl, .head _, by rw [List.getElem?_append_right (by omega), show i - ps.length = 0 by omega]; rfl⟩
/-- the lines of data, each with its end -/
noncomputable def lineCut (y : List UInt8) : List (List UInt8 × List UInt8) :=
  match hf : y.findIdx? (· == 10) with
  | none => [(y, [])]
  | some j => (if 0 < j ∧ y.getD (j - 1) 0 = 13 then (y.take (j - 1), [13, 10]) else (y.take j, [10])) :: lineCut (y.drop (j + 1))
termination_by y.length
decreasing_by
  have := List.findIdx?_eq_some_iff_findIdx_eq.mp hf
  rw [List.length_drop]; omega
theorem lineCut_none {y : List UInt8} (h : y.findIdx? (· == 10) = none) : lineCut y = [(y, [])] := by
  rw [lineCut]
  split
  · rfl
  · rename_i e; rw [h] at e; cases e
theorem lineCut_some {y : List UInt8} {j : Nat} (h : y.findIdx? (· == 10) = some j) : lineCut y = (if 0 < j ∧ y.getD (j - 1) 0 = 13 then (y.take (j - 1), [13, 10]) else (y.take j, [10])) :: lineCut (y.drop (j + 1)) := by
  rw [lineCut]
  split
  · rename_i e; rw [h] at e; cases e
  · rename_i e; rw [h] at e; cases e; rfl
theorem findFrom_some {x : List UInt8} {c : UInt8} {k : Nat} (h : ¬ findFrom x c k < 0) : ∃ j, (x.drop k).findIdx? (· == c) = some j ∧ findFrom x c k = ((k + j : Nat) : Int) ∧ k + j < x.length := by
  unfold findFrom at *
  cases hf : (x.drop k).findIdx? (· == c) with
  | none => rw [hf] at h; exact absurd (show (-1 : Int) < 0 by decide) h
  | some j =>
    refine ⟨j, rfl, rfl, ?_⟩
    have := (List.findIdx?_eq_some_iff_findIdx_eq.mp hf).1
    rw [List.length_drop] at this; omega
theorem findFrom_none {x : List UInt8} {c : UInt8} {k : Nat} (h : findFrom x c k < 0) : (x.drop k).findIdx? (· == c) = none := by
  unfold findFrom at *
  cases hf : (x.drop k).findIdx? (· == c) with
  | none => rfl
  | some j => rw [hf] at h; dsimp only at h; omega
theorem part_nat {α : Type} (x : List α) (a b : Nat) : part x (some (a : Int)) (some (b : Int)) = (x.drop a).take (b - a) := by
  unfold part
  simp only [Option.elim, clipAt_nat]
  rcases Nat.le_total a x.length with h | h
  · rw [Nat.min_eq_left h]
    rcases Nat.le_total b x.length with h2 | h2
    · rw [Nat.min_eq_left h2]
    · rw [Nat.min_eq_right h2, List.take_of_length_le (by rw [List.length_drop]; omega), List.take_of_length_le (by rw [List.length_drop]; omega)]
  · rw [Nat.min_eq_right h, List.drop_eq_nil_of_le (Nat.le_refl _), List.drop_eq_nil_of_le h, List.take_nil, List.take_nil]
theorem part_from {α : Type} (x : List α) (a : Nat) : part x (some (a : Int)) none = x.drop a := by
  unfold part
  simp only [Option.elim, clipAt_nat]
  rcases Nat.le_total a x.length with h | h
  · rw [Nat.min_eq_left h, List.take_of_length_le (by rw [List.length_drop]; omega)]
  · rw [Nat.min_eq_right h, List.drop_eq_nil_of_le (Nat.le_refl _), List.drop_eq_nil_of_le h, List.take_nil]
theorem news_lp {h : Heap} {D l T l2 : Addr} {o o2 tup o3 : Obj} {tps news : List (Addr × Obj)} (N : News h₀ L h ((D, o) :: (l, o2) :: (T, tup) :: (l2, o3) :: (tps ++ news))) : News h₀ L h ((D, o) :: (((T, tup) :: tps) ++ news)) := fun p hp => by
  rcases List.mem_cons.mp hp with rfl | hp
  · exact N _ (.head _)
  · rcases List.mem_cons.mp hp with rfl | hp
    · exact N _ (.tail _ (.tail _ (.head _)))
    · exact N _ (.tail _ (.tail _ (.tail _ (.tail _ hp))))
/-- what holds between two turns of line_parts -/
structure LpInv (x : List UInt8) (news : List (Addr × Obj)) (D : Addr) (vs : List Value) (tps : List (Addr × Obj)) (i : Nat) : Prop where
  cut : ∃ ps, PairsAre tps vs ps ∧ ps ++ lineCut (x.drop i) = lineCut x
  off : ∀ p ∈ tps ++ news, p.1 ≠ D
  new : ∀ p ∈ tps, ∀ q ∈ news, q.1 < p.1
  len : vs.length ≤ i
  top : i ≤ x.length
theorem LpInv.next {x : List UInt8} {D T : Addr} {vs : List Value} {tps : List (Addr × Obj)} {i j : Nat} {a b a' b' : List UInt8} {t u : Tok} (h : LpInv x news D vs tps i) (hj : (x.drop i).findIdx? (· == 10) = some j) (hT : D < T ∧ ∀ q ∈ tps ++ news, q.1 < T)
    (e : (if 0 < j ∧ (x.drop i).getD (j - 1) 0 = 13 then ((x.drop i).take (j - 1), [13, 10]) else ((x.drop i).take j, [10])) = (a, b)) (ea : a' = a) (eb : b' = b) : LpInv x news D (vs ++ [.ref T]) ((T, tupOf a' b' t u) :: tps) (i + j + 1) := by
  subst ea; subst eb
  obtain ⟨⟨ps, hp, hc⟩, hoff, hnew, hlen, htop⟩ := h
  have hlt := (List.findIdx?_eq_some_iff_findIdx_eq.mp hj).1
  rw [List.length_drop] at hlt
  refine ⟨⟨ps ++ [(a', b')], hp.snoc, ?_⟩, fun p hp => ?_, fun p hp q hq => ?_, by simp; omega, by omega⟩
  · rw [← hc, lineCut_some hj, e, List.append_assoc, List.singleton_append, List.drop_drop]; rfl
  · rcases List.mem_cons.mp hp with rfl | hp
    · exact Nat.ne_of_gt hT.1
    · exact hoff p hp
  · rcases List.mem_cons.mp hp with rfl | hp
    · exact hT.2 q (List.mem_append_right _ hq)
    · exact hnew p hp q hq
theorem allLt {D : Addr} {l : List (Addr × Obj)} (h : AllLt D l) : ∀ q ∈ l, q.1 < D := by
  induction l with
  | nil => exact fun q hq => absurd hq (List.not_mem_nil)
  | cons p r ih =>
    intro q hq
    rcases List.mem_cons.mp hq with e | hq
    · exact e ▸ h.1
    · exact ih h.2 q hq
theorem getD_dropI {x : List UInt8} {i j : Nat} (h : 0 < j) : (x.drop i).getD (j - 1) 0 = x.getD (((i + j : Nat) : Int) - 1).toNat 0 := by
  rw [List.getD_eq_getElem?_getD, List.getD_eq_getElem?_getD, List.getElem?_drop, show (((i + j : Nat) : Int) - 1).toNat = i + (j - 1) by omega]
theorem use_line_parts (C : Cx w mean mg mb A₀ base outer h₀ L s.heap m news cs) (hd : dp + 1 < recursionLimit) (hu : un + 8 < cLine) {x : List UInt8} {t : Tok} (hx : x.length ≤ 8388608)
    (hret : ∀ D vs k tps h' tk', PairsAre tps vs (lineCut x) → Fr h₀ L h' m → News h₀ L h' ((D, listOf vs.toArray k) :: (tps ++ news)) → (∀ p ∈ tps ++ news, p.1 < D) → (∀ p ∈ tps, ∀ q ∈ news, q.1 < p.1) → Q (.ref D) { s with heap := h', toks := tk' }) :
    wpAny (model PySem.Challenge.rw_no0355_01.row.toRowW.prog w) (ktrTop dp un gd cn cs L a ccd cl outer) (call (.ref 125) [.bytes x.toArray t]) Q E s := by
  obtain ⟨B, F, X, N, T, hk⟩ := C
  refine wpAny_call ?_
  k_dflt cell_enter
  rename Fr _ _ _ _ => F1
  replace F1 : Fr _ _ _ (fun y => List.lookup y [(Str.ofString "data", Value.bytes x.toArray t)]) := F1
  k_steps
  walk_at "sides"
  unfold Stop
  rename News _ _ _ _ => NN
  rename ∀ p ∈ news, p.1 < _ => lN
  refine wh_loopD NN (fun D c => (D, listOf c.1.toArray c.2.1) :: (c.2.2.1 ++ news)) (fun c : List Value × Nat × List (Addr × Obj) × Nat × Tok => [(Str.ofString "begin", Value.int (c.2.2.2.1 : Int) c.2.2.2.2)]) ["at"]
    (fun D c => LpInv x news D c.1 c.2.2.1 c.2.2.2.1) (fun c => x.length + 3 - c.2.2.2.1) (by k_asm) ?_ ?_
  · refine' ⟨([], _, [], 0, _), rfl, _, ⟨⟨[], ⟨rfl, fun _ _ h => nomatch h⟩, rfl⟩, fun p hp => Nat.ne_of_lt (lN p hp), (fun _ h => nomatch h), Nat.le_refl _, Nat.zero_le _⟩⟩
    rotate_left
    · intro p hp
      rw [List.mem_singleton.mp hp]
      exact rfl
  · rintro ⟨vs, k, tps, i, ti⟩ u hh tk hI F1 N1
    clear NN
    dsimp only at hI F1 N1 ⊢
    have hoff := hI.off
    have hlen := hI.len
    have htop := hI.top
    k_steps
    walk_at "sides"
    · dsimp only [WhPost]
      k_steps
      obtain ⟨ps, hp, hc⟩ := hI.cut
      rw [lineCut_none (findFrom_none (by assumption)), ← part_from] at hc
      rename ∀ p : Addr × Obj, p ∈ _ → p.1 < _ => lD
      refine hret _ _ _ (_ :: _) _ _ (hc ▸ hp.snoc) (by k_asm) (news_lp (by k_asm)) (fun p hp => ?_) fun p hp q hq => ?_
      · rcases List.mem_cons.mp hp with rfl | hp
        · exact lD _ (.tail _ (.head _))
        · exact lD _ (.tail _ (.tail _ (.tail _ hp)))
      · rcases List.mem_cons.mp hp with rfl | hp
        · rename _ < _ ∧ AllLt _ (tps ++ news) => q'
          exact allLt q'.2 q (List.mem_append_right _ hq)
        · exact hI.new p hp q hq
    · obtain ⟨j, hj, he, hlt⟩ := findFrom_some ‹¬ findFrom x 10 i < 0›
      have e1 : findFrom x 10 i + 1 = ((i + j + 1 : Nat) : Int) := by rw [he]; rfl
      refine' wh_done (_, _, _ :: _, i + j + 1, _) (by k_asm) (by k_asm) (fun p hp => by rw [List.mem_singleton.mp hp]; exact congrArg (fun z => some (Value.int z _)) e1) (by walk_at "whSame") (hI.next hj (by rename _ < _ ∧ AllLt _ _ => q; exact ⟨q.1, allLt q.2⟩) (if_pos _) _ rfl) _
      · have h0 : 0 < j := by omega
        rw [getD_dropI h0, ← he]
        exact ⟨h0, UInt8.toNat_inj.mp (show _ = 13 by omega)⟩
      · rw [he, show ((i + j : Nat) : Int) - 1 = ((i + j - 1 : Nat) : Int) by omega, part_nat, show i + j - 1 - i = j - 1 by omega]
      · dsimp only
        omega
    · obtain ⟨j, hj, he, hlt⟩ := findFrom_some ‹¬ findFrom x 10 i < 0›
      have e1 : findFrom x 10 i + 1 = ((i + j + 1 : Nat) : Int) := by rw [he]; rfl
      refine' wh_done (_, _, _ :: _, i + j + 1, _) (by k_asm) (by k_asm) (fun p hp => by rw [List.mem_singleton.mp hp]; exact congrArg (fun z => some (Value.int z _)) e1) (by walk_at "whSame") (hI.next hj (by rename _ < _ ∧ AllLt _ _ => q; exact ⟨q.1, allLt q.2⟩) (if_neg _) _ rfl) _
      · rintro ⟨h0, hq⟩
        rw [getD_dropI h0, ← he] at hq
        rename ((_ : Nat) : Int) ≠ 13 => hne
        rw [hq] at hne
        exact hne rfl
      · rw [he, part_nat, show i + j - i = j by omega]
      · dsimp only
        omega
    · obtain ⟨j, hj, he, hlt⟩ := findFrom_some ‹¬ findFrom x 10 i < 0›
      unfold Side
      omega
    · obtain ⟨j, hj, he, hlt⟩ := findFrom_some ‹¬ findFrom x 10 i < 0›
      have e1 : findFrom x 10 i + 1 = ((i + j + 1 : Nat) : Int) := by rw [he]; rfl
      refine' wh_done (_, _, _ :: _, i + j + 1, _) (by k_asm) (by k_asm) (fun p hp => by rw [List.mem_singleton.mp hp]; exact congrArg (fun z => some (Value.int z _)) e1) (by walk_at "whSame") (hI.next hj (by rename _ < _ ∧ AllLt _ _ => q; exact ⟨q.1, allLt q.2⟩) (if_neg _) _ rfl) _
      · rintro ⟨h0, hq⟩
        omega
      · rw [he, part_nat, show i + j - i = j by omega]
      · dsimp only
        omega
end
end
section
/- R6 -/
theorem rows_none_R6 : True := by
  k_with_none
  trivial
open Builtin

/-- a turn's end that only goes on -/
noncomputable def LqPost {τ : Type} (h₀ : Heap) (L : Addr) (D : Addr) (tl : List (Addr × Obj)) (ps : τ → List (Str × Value)) (x : Str) (stored : List Str) (m₀ : Str → Option Value) (P : List Value → τ → Prop) (s₁ : Shared) (f : Flow) (s₂ : Shared) : Prop :=
  f = .next ∧ ∃ (vs : List Value) (n : Nat) (c : τ) (h' : Heap) (tk : Nat) (m' : Str → Option Value), s₂ = { s₁ with heap := h', toks := tk } ∧ Fr h₀ L h' m' ∧ News h₀ L h' ((D, listOf vs.toArray n) :: tl) ∧
      (∀ p ∈ ps c, m' p.1 = some p.2) ∧ (∀ z, z ≠ x → (∀ p ∈ ps c, z ≠ p.1) → stored.contains z = false → m' z = m₀ z) ∧ P vs c
theorem lq_done {τ : Type} {h₀ h' : Heap} {x : Str} {L D : Addr} {tl : List (Addr × Obj)} {ps : τ → List (Str × Value)} {stored : List Str} {m₀ m' : Str → Option Value} {P : List Value → τ → Prop} {s₁ : Shared} {tk : Nat} {vs : List Value} {n : Nat} (c : τ)
    (F : Fr h₀ L h' m') (N : News h₀ L h' ((D, listOf vs.toArray n) :: tl)) (hk : ∀ p ∈ ps c, m' p.1 = some p.2) (hr : ∀ z, z ≠ x → (∀ p ∈ ps c, z ≠ p.1) → stored.contains z = false → m' z = m₀ z) (hp : P vs c) :
    LqPost h₀ L D tl ps x stored m₀ P s₁ .next { s₁ with heap := h', toks := tk } := ⟨rfl, vs, n, c, h', tk, m', rfl, F, N, hk, hr, hp⟩

section
variable {prog : Program} {w : World} {A : Around} {E : Value → Shared → Prop} {s : Shared} {env : Env} {h₀ : Heap} {body : List Stmt} {Q : Flow → Shared → Prop}
/-- a loop with two names over a list of pairs that the ledger holds -/
theorem lq_pairs {τ : Type} {xi xc : Str} {pk pv pt : Pos} {x1 : Nat} {D l : Addr} {rest : List (Addr × Obj)} {vs₀ ws : List Value} {n₀ : Nat} {m₀ : Str → Option Value}
    (N : News h₀ env.locals s.heap ((D, listOf vs₀.toArray n₀) :: rest)) (ps : τ → List (Str × Value)) (stored : List Str) (P : Nat → List Value → τ → Prop) (P2 : Nat → Value → Value → Prop)
    (hh : A.handled = none) (hxi : env.kindOf xi = some .local) (hxc : env.kindOf xc = some .local)
    (hp : (env.scope.kind == .class || (env.scope.kind == .module && env.locals != env.globals)) = false)
    (hl : s.heap.IsList l ws.toArray) (hlL : l ≠ env.locals) (hlD : l ≠ D) (hDr : ∀ p ∈ rest, p.1 ≠ D)
    (hws : ∀ (i : Nat) v, ws[i]? = some v → ∃ T v0 v1 o, v = .ref T ∧ (T, o) ∈ rest ∧ o.cls = .type "tuple" ∧ (∃ n, o.data = .seq #[v0, v1] n) ∧ P2 i v0 v1)
    (F : Fr h₀ env.locals s.heap m₀) (hs : ∃ c₀ : τ, (∀ p ∈ ps c₀, m₀ p.1 = some p.2) ∧ P 0 vs₀ c₀) (hst : stored.contains xi = true)
    (turn : ∀ (i : Nat) vs k (c : τ) v0 v1 (u : Str → Option Value) (s₁ : Shared) h tk tl, P2 i v0 v1 → i < ws.length → (∀ p ∈ tl, p.1 ≠ D) → (∀ p ∈ rest, p ∈ tl) → P i vs c →
      Fr h₀ env.locals h (fun y => if y = xc then some v1 else if y = xi then some v0 else kstB (fun z => if stored.contains z then u z else m₀ z) (ps c) y) → News h₀ env.locals h ((D, listOf vs.toArray k) :: tl) →
      wpAny (model prog w) A (execs body env) (LqPost h₀ env.locals D tl ps xc stored m₀ (P (i + 1)) { s₁ with heap := h, toks := tk }) E { s₁ with heap := h, toks := tk })
    (done : ∀ vs k (c : τ) (u : Str → Option Value) h tk, P ws.length vs c → Fr h₀ env.locals h (fun y => if y = xc then u y else kstB (fun z => if stored.contains z then u z else m₀ z) (ps c) y) → News h₀ env.locals h ((D, listOf vs.toArray k) :: rest) → Q .next { s with heap := h, toks := tk }) :
    wpAny (model prog w) A (pyIter (.ref l)) (fun it s₂ => LoopAtT prog w A h₀ env (.Tuple [.Name xi pk, .Name xc pv] x1 pt) body Q E it s₂) E s := by
  have lts : ∀ p ∈ (D, listOf vs₀.toArray n₀) :: rest, p.1 < s.heap.objs.size := fun p hp => Heap.lt_size (N p hp).1
  obtain ⟨ol, hol, _⟩ := id hl
  have hne : l ≠ s.heap.objs.size := Nat.ne_of_lt (Heap.lt_size hol)
  refine wpAny_pyIter_list hl ?_
  have W := Walks.list (prog := prog) (w := w) hh s.heap.objs.size l hne ws.toArray
  rw [List.size_toArray] at W
  obtain ⟨c₀, hk, hp0⟩ := hs
  let J : Nat → (Str → Option Value) → List (Addr × Obj) → Prop := fun i m nx => ∃ vs k c, nx = (D, listOf vs.toArray k) :: rest ∧ (∀ p ∈ ps c, m p.1 = some p.2) ∧ (∀ z, z ≠ xc → (∀ p ∈ ps c, z ≠ p.1) → stored.contains z = false → m z = m₀ z) ∧ P i vs c
  refine ⟨s.heap.objs.size, _, _, ws.length, _, _, m₀, (D, listOf vs₀.toArray n₀) :: rest, J, rfl, W, ?_, ?_, ?_, ⟨⟨_, Heap.get?_push_size _ rfl, rfl, rfl⟩, hl.at fun o e => Heap.get?_push_of_some _ e⟩, F.push _, (fun p hp => ⟨Heap.get?_push_of_some _ (N p hp).1, (N p hp).2⟩),
    (fun i s' v Q' st hQ' => letGo_listiter st.1 hQ'), ⟨vs₀, n₀, c₀, rfl, hk, fun _ _ _ _ => rfl, hp0⟩, ?_, ?_⟩
  · intro hm
    rcases List.mem_cons.mp hm with e | hm
    · exact absurd F.ns.lt (e ▸ Nat.lt_irrefl _)
    · exact hlL (List.mem_singleton.mp hm).symm
  · intro b hb
    rw [List.mem_singleton.mp hb]
    exact next_is_new F
  · intro p hp hI
    exact absurd (lts p hp) ((List.mem_singleton.mp hI) ▸ Nat.lt_irrefl _)
  · rintro i v m₁ news₁ s₁ own hin hPv ⟨vs, k, c, rfl, h1, h2, hp'⟩ hoff hown _ _ _ F₁ N₁
    obtain ⟨T, v0, v1, o, rfl, hT, hc, ⟨n, hd'⟩, hP2⟩ := hws i v (by simpa using hPv)
    have gT := (N₁ _ (List.mem_append_right _ (.tail _ hT))).1
    have hDo : ∀ p ∈ own, p.1 ≠ D := fun p hp e => by
      rcases List.mem_cons.mp (hown p hp) with e2 | e2
      · exact absurd (lts _ (.head _)) (by rw [← e, e2]; exact Nat.lt_irrefl _)
      · exact hlD ((List.mem_singleton.mp e2) ▸ e)
    refine wpAny_assign_Tuple hh ⟨o, gT, hc, n, hd'⟩ rfl rfl fun h₃ hx₃ => ?_
    have up₃ : ∀ b o, s₁.heap.get? b = some o → h₃.get? b = some o := fun b o x => hx₃ b o (Nat.ne_of_lt (Heap.lt_size x)) x
    have F₃ : Fr h₀ env.locals h₃ m₁ := ⟨F₁.ns.at' fun o e => up₃ _ o e, fun b o e => up₃ _ _ (F₁.keep b o e), F₁.above⟩
    have N₃ : News h₀ env.locals h₃ (own ++ (D, listOf vs.toArray k) :: rest) := fun p hp => ⟨up₃ _ _ (N₁ p hp).1, (N₁ p hp).2⟩
    show wpAny _ A (do holding [v1] (assign (.Name xi pk) env v0); do holding [] (assign (.Name xc pv) env v1); pure ()) _ _ _
    refine wpAny_bind (wpAny_holding (wpAny_assign_Name (wpAny_storeName_local hxi F₃.ns (fun h₄ hn₄ hs₄ => ?_) hp)))
    replace hs₄ : Heap.SameBut env.locals h₃ h₄ := hs₄
    have F₄ := F₃.set hn₄ hs₄
    refine wpAny_bind (wpAny_holding (wpAny_assign_Name (wpAny_storeName_local hxc F₄.ns (fun h₅ hn₅ hs₅ => wpAny_pure ?_) hp)))
    replace hs₅ : Heap.SameBut env.locals h₄ h₅ := hs₅
    have F₅ := F₄.set hn₅ hs₅
    have N₅ := (N₃.set hs₄).set hs₅
    have F₆ : Fr h₀ env.locals h₅ (fun y => if y = xc then some v1 else if y = xi then some v0 else kstB (fun z => if stored.contains z then m₁ z else m₀ z) (ps c) y) := by
      have em : (fun y => if y = xc then some v1 else if y = xi then some v0 else kstB (fun z => if stored.contains z then m₁ z else m₀ z) (ps c) y) = fun y => if y = xc then some v1 else if y = xi then some v0 else m₁ y := by
        funext y
        by_cases hy : y = xc
        · rw [if_pos hy, if_pos hy]
        · rw [if_neg hy, if_neg hy, kst_off h1 h2 hy]
      rw [em]
      exact F₅
    have N₆ : News h₀ env.locals h₅ ((D, listOf vs.toArray k) :: (own ++ rest)) := fun p hp => by
      rcases List.mem_cons.mp hp with rfl | hp
      · exact N₅ _ (List.mem_append_right _ (.head _))
      · rcases List.mem_append.mp hp with hp | hp
        · exact N₅ _ (List.mem_append_left _ hp)
        · exact N₅ _ (List.mem_append_right _ (.tail _ hp))
    refine wpAny_mono (turn i vs k c v0 v1 m₁ s₁ h₅ (s₁.toks + 1 + 1) (own ++ rest) hP2 hin (fun p hp => (List.mem_append.mp hp).elim (hDo p) (hDr p)) (fun p hp => List.mem_append_right _ hp) hp' F₆ N₆) (fun f s₂ q => ?_) fun _ _ e => e
    obtain ⟨rfl, vs', n', c', h', tk, m', rfl, F', N', hk', hr', hP'⟩ := q
    refine ⟨rfl, h', tk, m', (D, listOf vs'.toArray n') :: rest, rfl, F', fun p hp => ?_, fun p hp => ?_, vs', n', c', rfl, hk', hr', hP'⟩
    · rcases List.mem_append.mp hp with hp | hp
      · exact N' _ (.tail _ (List.mem_append_left _ hp))
      · rcases List.mem_cons.mp hp with rfl | hp
        · exact N' _ (.head _)
        · exact N' _ (.tail _ (List.mem_append_right _ hp))
    · rcases List.mem_cons.mp hp with rfl | hp
      · intro hI
        exact absurd (lts _ (.head _)) (by rw [show D = _ from List.mem_singleton.mp hI]; exact Nat.lt_irrefl _)
      · intro hI
        exact absurd (lts p (.tail _ hp)) ((List.mem_singleton.mp hI) ▸ Nat.lt_irrefl _)
  · rintro h' tk m' news' F' N' _ ⟨vs, k, c, rfl, h1, h2, hp'⟩
    exact done vs k c m' h' tk hp' (kst_frOut h1 h2 F') N'
end
end
section
/- M7 -/
open Builtin
theorem filled7 : hd.heap_1 = hd.heap_1 ∧ PySem.Challenge.rw_no0355_01 = PySem.Challenge.rw_no0355_01 := by
  k_fill
  exact ⟨rfl, rfl⟩
theorem rows_9 : True := by
  k_with_none
  k_with "my getMethod bytes" => (k_here; first | refine method_b slot_bytes_find type_bytes_find ?_ | refine method_b slot_bytes_index type_bytes_index ?_ | refine method_b slot_bytes_lower type_bytes_lower ?_ | refine method_b slot_bytes_rstrip type_bytes_rstrip ?_ | refine method_b slot_bytes_split type_bytes_split ?_ | refine method_b slot_bytes_join type_bytes_join ?_)
  k_with "my call builtin:bytes.find" => (k_here; first | refine call_find3 ?_ | refine call_find2 ?_; intro _ _)
  k_with "my call builtin:bytes.lower" => (k_here; refine call_lower (Side.out ?_) ?_; rotate_left; intro _ _)
  k_with "my call builtin:bytes.rstrip" => (k_here; refine call_rstrip (Side.out ?_) ?_; rotate_left; intro _ _)
  k_with "my binaryOp Add bytes bytes" => (k_here; refine add_b (Side.out ?_) ?_; rotate_left; intro _ _)
  k_with "my subscriptTail" => (k_here; (with_reducible show wpAny _ _ (subscriptTail _ _ (Value.bytes (List.toArray _) _) (Value.int _ _)) _ _ _); (refine item_b (Side.out ?_) (Side.out ?_) (Side.out ?_) ?_; rotate_left; rotate_left; rotate_left; intro _ _))
  k_with "my subscriptTail" => (k_here; (with_reducible show wpAny _ _ (subscriptTail _ (Expr.Slice _ _ none _) (Value.bytes (List.toArray _) _) (Value.ref _)) _ _ _); (with_reducible rename Fr _ _ _ _ => F'); (with_reducible rename News _ _ _ _ => N'); (refine slice_b (s := ⟨_, _, _, _, _⟩) F' N' (by constructor) (by constructor) (Side.out ?_) ?_; rotate_left; intro _ _ _ _ _))
  k_with "my call builtin:len" => (k_here; (with_reducible show wpAny _ _ (call (Value.builtin "len") [Value.bytes (List.toArray _) _]) _ _ _); (refine len_b (Side.out ?_) ?_; rotate_left; intro _ _))
  k_with "my binaryOp FloorDiv int int" => (k_here; refine fdiv_i (by first | decide | omega) (by exact PyProof.noPylong_small (by omega)) ?_; intro _ _)
  k_with "my binaryOp Mod int int" => (k_here; refine fmod_i (by first | decide | omega) ?_; intro _ _)
  k_with "my call type:bytes" => (k_here; (with_reducible show wpAny _ _ (call (Value.type _) [Value.ref _]) _ _ _); k_dflt (refine' bytes_d (by k_asm) (by k_asm) ?q244i (Side.out ?_) (Side.out ?_) ?q244h ?_; (case q244i => first | l_ints | assumption); (case q244h => with_unfolding_all rfl)); rotate_left; rotate_left; intro _ _ _ _ _; (try k_sweep))
  k_with "my dropN" => first | k_asm | (refine' cb_drop ?q245cbN ?q245cbS; (case q245cbN => assumption); (case q245cbS => kcj_all))
  k_with "my sides" => (all_goals try (show Side _; unfold Side; first | assumption | omega | (simp only [List.length_cons, List.length_nil]; omega) | (simp only [List.length_append, List.length_map, List.length_cons, List.length_nil]; omega) | decide))
  k_with "my cx" => exact ⟨by k_asm, by k_asm, by k_asm, by k_asm, by k_asm, by first | exact rfl | assumption⟩
  k_with "my call ref" => (k_here; k_dflt (refine' use_hex_worth (by walk_at "cx") (by ktr_room) (by ktr_units) ?_); intro _ _ _ _ _)
  k_with "my call ref" => (k_here; k_dflt (refine' use_is_plain (by walk_at "cx") (by ktr_room) (by ktr_units) ?_); intro _ _ _ _ _)
  k_with "my call ref" => (k_here; k_dflt (refine' use_quoted_code (by walk_at "cx") (by ktr_room) (by ktr_units) (Side.out ?_) ?_); rotate_left; intro _ _ _ _ _)
  k_with "my exec For Name Call cons nil" => (k_here; refine Stop.mk ?_)
  k_with "my exec For Name Name cons nil" => (k_here; refine Stop.mk ?_)
  k_with "my pyIter ref" => ((with_reducible show wpAny _ _ (pyIter (Value.ref _)) (fun it s₂ => LoopAtV _ _ _ _ _ _ _ _ _ it s₂) _ _); refine Stop.mk ?_)
  k_with "my InvPostN" => (dsimp only [InvPostN])
  k_with "my InvEndN" => (refine Stop.mk ?_)
  k_with "my call builtin:list.append" => (k_here; (with_reducible show wpAny _ _ (call (Value.builtin _) [Value.ref _, _]) _ _ _); k_dflt (refine' append_h (by k_asm) (by k_asm) (Side.out ?_) (Side.out ?_) ?_); rotate_left; rotate_left; intro _ _ _ _; (try k_sweep))
  k_with "my frameSame" => (intro _ h1 h2 h3; (try simp only [List.forall_mem_cons, List.not_mem_nil, false_implies, implies_true, and_true, ne_eq] at h2); (try simp only [List.contains_cons, List.contains_nil, Bool.or_false, Bool.or_eq_false_iff, beq_eq_false_iff_ne, ne_eq] at h3); first | (simp [kstB, h1, h2, h3]; done) | (simp [kstB, h1, h3]; done) | (simp [kstB, h1, h2]; done) | (simp [kstB, h1]; done))
  k_with "my memNil" => exact (fun _ h => nomatch h)
  k_with "my call ref" => (k_here; k_dflt (refine' use_quoted_at (by walk_at "cx") (by ktr_room) (by ktr_units) (Side.out ?_) ?_); rotate_left; intro _ _ _ _ _)
  k_with "my memL" => first | assumption | exact List.Mem.head _ | (refine List.Mem.tail _ ?_; walk_at "memL") | (refine List.mem_append.mpr (.inr ?_); walk_at "memL") | (refine List.mem_append.mpr (.inl ?_); walk_at "memL")
  k_with "my isL" => exact newsList (by k_asm) (by walk_at "memL")
  k_with "my call builtin:len" => (k_here; (with_reducible show wpAny _ _ (call (Value.builtin "len") [Value.ref _]) _ _ _); (refine len_l (by walk_at "isL") (Side.out ?_) ?_; rotate_left; intro _ _))
  k_with "my subscriptTail" => (k_here; (with_reducible show wpAny _ _ (subscriptTail _ _ (Value.ref _) (Value.int _ _)) _ _ _); (refine item_l (by walk_at "isL") (by assumption) (Side.out ?_) (Side.out ?_) (Side.out ?_) ?_; rotate_left; rotate_left; rotate_left; intro _))
  k_with "my subscriptTail" => (k_here; (with_reducible show wpAny _ _ (subscriptTail _ (Expr.Slice _ _ none _) (Value.ref _) (Value.ref _)) _ _ _); (with_reducible rename Fr _ _ _ _ => F'); (with_reducible rename News _ _ _ _ => N'); (refine slice_l (s := ⟨_, _, _, _, _⟩) F' N' (newsList N' (by walk_at "memL")) (by constructor) (by constructor) (Side.out ?_) ?_; rotate_left; intro _ _ F' N' _))
  k_with "my binaryOp Add ref ref" => (k_here; (refine add_l (by k_asm) (by k_asm) (by walk_at "isL") (by walk_at "isL") (Side.out ?_) ?_; rotate_left; intro _ _ _ _ _))
  k_with "my call builtin:list.extend" => (k_here; k_dflt (refine' extend_h (by k_asm) (by k_asm) (Side.out ?_) (Side.out ?_) (Side.out ?_) ?_); rotate_left; rotate_left; rotate_left; intro _ _ _ _; (try k_sweep))
  k_with "my call builtin:list.extend" => (k_here; k_dflt (refine' extend_3 (by k_asm) (by k_asm) (Side.out ?_) ?q267k3 (Side.out ?_) ?_; (case q267k3 => rename ∀ p : Addr × Obj, p ∈ _ → p.1 < _ => lS; exact fun e => absurd (lS _ (List.Mem.tail _ (List.Mem.head _))) (by rw [e]; exact Nat.lt_irrefl _))); rotate_left; rotate_left; intro _ _ _ _; (try k_sweep))
  k_with "my subscriptTail Name Slice ref ref" => (k_here; (with_reducible rename Fr _ _ _ _ => F'); (with_reducible rename News _ _ _ _ => N'); (refine slice_l (s := ⟨_, _, _, _, _⟩) F' N' (newsList N' (by walk_at "memL")) (by constructor) (by constructor) (Side.out ?_) ?_; rotate_left; intro _ _ F' N' _))
  k_with "my call ref" => (k_here; k_dflt (refine' use_line_pieces (by walk_at "cx") (by ktr_room) (by ktr_units) (Side.out ?_) ?_); rotate_left; intro _ _ _ _ _ _ _ _ _)
  k_with "my call ref" => (k_here; k_dflt (refine' use_soft_lines (by walk_at "cx") (by ktr_room) (by ktr_units) ?q270km (by assumption) (Side.out ?_) (Side.out ?_) ?_; (case q270km => walk_at "memL")); rotate_left; rotate_left; intro _ _ _ _ _ _ _ _ _)
  k_with "my call builtin:bytes.split" => (k_here; k_dflt (refine' call_split_CR (by k_asm) (by k_asm) (Side.out ?_) ?_); rotate_left; intro _ _ _ _ _ _ _ _)
  k_with "my call builtin:bytes.join" => (k_here; k_dflt (refine' call_join ?q272kl (by assumption) (Side.out ?_) ?_; (case q272kl => walk_at "isL")); rotate_left; intro _ _)
  k_with "my exec While Compare" => (k_here; refine Stop.mk ?_)
  k_with "my exec While Constant" => (k_here; refine Stop.mk ?_)
  k_with "my exec While Compare cons nil" => (k_here; refine Stop.mk ?_)
  k_with "my exec While" => (k_here; refine Stop.mk ?_)
  k_with "my whSame" => (intro _ h2 h3; (try simp only [List.forall_mem_cons, List.not_mem_nil, false_implies, implies_true, and_true, ne_eq] at h2); (try simp only [List.contains_cons, List.contains_nil, Bool.or_false, Bool.or_eq_false_iff, beq_eq_false_iff_ne, ne_eq] at h3); first | (simp [kstB, h2, h3]; done) | (simp [kstB, h3]; done) | (simp [kstB, h2]; done) | (simp [kstB]; done))
  k_with "my call builtin:list.append" => (k_here; (with_reducible show wpAny _ _ (call (Value.builtin _) [Value.ref _, Value.ref _]) _ _ _); k_dflt (refine' append_2 (by k_asm) (by k_asm) (Side.out ?_) ?q278k3 (Side.out ?_) ?_; (case q278k3 => rename _ < _ ∧ AllLt _ _ => q; exact q.1)); rotate_left; rotate_left; intro _ _ _ _; (try k_sweep))
  k_with "my call ref" => (k_here; k_dflt (refine' use_unquoted (by walk_at "cx") (by ktr_room) (by ktr_units) (Side.out ?_) ?_); rotate_left; intro _ _ _ _ _)
  k_with "my call ref" => (k_here; k_dflt (refine' use_line_parts (by walk_at "cx") (by ktr_room) (by ktr_units) (Side.out ?_) ?_); rotate_left; intro _ _ _ _ _ _ _ _ _ _ _)
  k_with "my exec For Tuple Call cons nil" => (k_here; refine Stop.mk ?_)
  k_with "my exec For Tuple Name cons nil" => (k_here; refine Stop.mk ?_)
  k_with "my exec For Tuple Call" => (k_here; refine Stop.mk ?_)
  k_with "my pyIter ref" => ((with_reducible show wpAny _ _ (pyIter (Value.ref _)) (fun it s₂ => LoopAtT _ _ _ _ _ _ _ _ _ it s₂) _ _); refine Stop.mk ?_)
  trivial
section
variable {w : World} {mean : ExcName → Option Value} {mg mb : Str → Option Value} {dp un : Nat} {gd : Option (List Code)} {cn : Str} {cs : Scope} {a : Addr} {ccd : Value} {cl : List (Str × Addr)} {outer : List Env} {A₀ : Around} {base h₀ : Heap} {L : Addr} {m : Str → Option Value} {news : List (Addr × Obj)} {s : Shared} {Q E : Value → Shared → Prop}
/-- the octets of one line and its end -/
noncomputable def decLine (p : List UInt8 × List UInt8) : List UInt8 :=
  if part (rstripped [32, 9].contains p.1) (some (-1)) none = [61] then unquoted (part (rstripped [32, 9].contains p.1) none (some (((rstripped [32, 9].contains p.1).length : Int) - 1)))
  else unquoted (rstripped [32, 9].contains p.1) ++ p.2
noncomputable def quotedDec (x : List UInt8) : List UInt8 := ((lineCut x).map decLine).flatten
theorem codeAt_top {x : List UInt8} {i : Nat} (h : 0 ≤ codeAt x i) : i + 2 < x.length := by
  unfold codeAt quotedAt at h
  split at h
  · split at h
    · omega
    · omega
  · omega
theorem unqFrom_len (x : List UInt8) : ∀ (n i : Nat), x.length - i = n → (unqFrom x i).length ≤ x.length - i := by
  intro n
  induction n using Nat.strongRecOn with
  | _ n ih =>
    intro i hn
    by_cases hi : i < x.length
    · by_cases h : 0 ≤ codeAt x i
      · have h2 := codeAt_top h
        have := ih (x.length - (i + 3)) (by omega) (i + 3) rfl
        rw [unqFrom_code hi h, List.length_cons]; omega
      · have := ih (x.length - (i + 1)) (by omega) (i + 1) rfl
        rw [unqFrom_plain hi h, List.length_cons]; omega
    · rw [unqFrom_end hi]; simp
theorem unquoted_len (x : List UInt8) : (unquoted x).length ≤ x.length := by
  unfold unquoted
  rw [List.length_map]
  exact unqFrom_len x _ 0 rfl
theorem decLine_len (p : List UInt8 × List UInt8) : (decLine p).length ≤ p.1.length + p.2.length := by
  unfold decLine
  have h1 := rstripped_le [32, 9].contains p.1
  split
  · have h2 := unquoted_len (part (rstripped [32, 9].contains p.1) none (some (((rstripped [32, 9].contains p.1).length : Int) - 1)))
    have h3 := part_le (rstripped [32, 9].contains p.1) none (some (((rstripped [32, 9].contains p.1).length : Int) - 1))
    omega
  · have h2 := unquoted_len (rstripped [32, 9].contains p.1)
    rw [List.length_append]; omega
theorem lineCut_len : ∀ (n : Nat) (y : List UInt8), y.length = n → ((lineCut y).map fun p => p.1.length + p.2.length).sum ≤ y.length ∧ (lineCut y).length ≤ y.length + 1 := by
  intro n
  induction n using Nat.strongRecOn with
  | _ n ih =>
    intro y hn
    cases hf : y.findIdx? (· == 10) with
    | none => rw [lineCut_none hf]; simp
    | some j =>
      have hlt := (List.findIdx?_eq_some_iff_findIdx_eq.mp hf).1
      have h := ih (y.drop (j + 1)).length (by rw [List.length_drop]; omega) _ rfl
      rw [List.length_drop] at h
      rw [lineCut_some hf]
      simp only [List.map_cons, List.sum_cons, List.length_cons]
      split
      · rename_i h0
        simp only [List.length_take, List.length_cons, List.length_nil]; omega
      · simp only [List.length_take, List.length_cons, List.length_nil]; omega
theorem sum_take_le : ∀ (l : List Nat) (i : Nat), (l.take i).sum ≤ l.sum
  | [], i => by simp
  | a :: l, 0 => by simp
  | a :: l, i + 1 => by
    have := sum_take_le l i
    simp only [List.take_succ_cons, List.sum_cons]; omega
theorem flat_dec_len (l : List (List UInt8 × List UInt8)) : (l.map decLine).flatten.length ≤ (l.map fun p => p.1.length + p.2.length).sum := by
  induction l with
  | nil => simp
  | cons p r ih =>
    have := decLine_len p
    simp only [List.map_cons, List.flatten_cons, List.length_append, List.sum_cons]; omega
theorem mem_sum_le {α : Type} (f : α → Nat) : ∀ {l : List α} {p : α}, p ∈ l → f p ≤ (l.map f).sum
  | a :: l, p, h => by
    rcases List.mem_cons.mp h with rfl | h
    · simp only [List.map_cons, List.sum_cons]; omega
    · have := mem_sum_le f h
      simp only [List.map_cons, List.sum_cons]; omega
theorem newsFront {h : Heap} {D l : Addr} {o o2 : Obj} {tps news : List (Addr × Obj)} (N : News h₀ L h ((D, o) :: (tps ++ (l, o2) :: news))) : News h₀ L h ((l, o2) :: (D, o) :: (tps ++ news)) := fun p hp => by
  rcases List.mem_cons.mp hp with rfl | hp
  · exact N _ (.tail _ (List.mem_append_right _ (.head _)))
  · rcases List.mem_cons.mp hp with rfl | hp
    · exact N _ (.head _)
    · rcases List.mem_append.mp hp with hp | hp
      · exact N _ (.tail _ (List.mem_append_left _ hp))
      · exact N _ (.tail _ (List.mem_append_right _ (.tail _ hp)))
theorem use_quoted_decoded (C : Cx w mean mg mb A₀ base outer h₀ L s.heap m news cs) (hd : dp + 4 < recursionLimit) (hu : un + 32 < cLine) {x : List UInt8} {t : Tok} (hx : x.length ≤ 4194304)
    (hret : ∀ (t' : Tok) h' tk', Fr h₀ L h' m → News h₀ L h' news → Q (.bytes (quotedDec x).toArray t') { s with heap := h', toks := tk' }) :
    wpAny (model PySem.Challenge.rw_no0355_01.row.toRowW.prog w) (ktrTop dp un gd cn cs L a ccd cl outer) (call (.ref 139) [.bytes x.toArray t]) Q E s := by
  obtain ⟨B, F, X, N, T, hk⟩ := C
  refine wpAny_call ?_
  k_dflt cell_enter
  rename Fr _ _ _ _ => F1
  replace F1 : Fr _ _ _ (fun y => List.lookup y [(Str.ofString "data", Value.bytes x.toArray t)]) := F1
  k_steps
  walk_at "sides"
  unfold Stop
  refine For_invTF (by k_asm) ?_ (fun _ => rfl)
  k_steps
  walk_at "sides"
  unfold Stop
  rename ∀ p : Addr × Obj, p ∈ _ → p.1 < _ => lT
  rename ∀ p ∈ news, p.1 < _ => lN
  rename PairsAre _ _ _ => hPs
  rename ∀ p : Addr × Obj, p ∈ _ → ∀ q : Addr × Obj, q ∈ _ → q.1 < p.1 => lM
  rename News _ _ _ _ => NN
  have hcl := lineCut_len _ x rfl
  refine lq_pairs (newsFront NN) (fun _ : Unit => []) [Str.ofString "line", "kept"] (fun i vs _ => BsAre vs (((lineCut x).take i).map decLine)) (fun i v0 v1 => ∃ a b t u, v0 = .bytes (List.toArray a) t ∧ v1 = .bytes (List.toArray b) u ∧ (lineCut x)[i]? = some (a, b))
    rfl rfl rfl rfl (newsList NN (.head _)) (NN _ (.head _)).2.1 ?_ ?_ ?_ (by k_asm) ⟨(), ?_, ?_⟩ rfl ?_ ?_
  · exact Nat.ne_of_gt (lT _ (List.mem_append_right _ (.head _)))
  · intro p hp
    rcases List.mem_cons.mp hp with rfl | hp
    · exact Nat.ne_of_gt (lT _ (List.mem_append_right _ (.head _)))
    · rcases List.mem_append.mp hp with hp | hp
      · exact Nat.ne_of_gt (lM p hp _ (.head _))
      · exact Nat.ne_of_lt (lN p hp)
  · intro i v hv
    obtain ⟨T, a, b, t, u, rfl, hT, hi⟩ := hPs.2 i v hv
    exact ⟨T, _, _, _, rfl, .tail _ (List.mem_append_left _ hT), rfl, ⟨_, rfl⟩, a, b, t, u, rfl, rfl, hi⟩
  · walk_at "memNil"
  · exact .nil
  · rintro i vs k _ v0 v1 u s₁ hh tk tl ⟨a, b, ta, tb, rfl, rfl, hi⟩ hlt htl hrt hP F1 N1
    clear NN
    have hlen := hP.length
    have hil := (List.getElem?_eq_some_iff.mp hi).1
    rw [List.length_map, List.length_take] at hlen
    have hab := mem_sum_le (fun p : List UInt8 × List UInt8 => p.1.length + p.2.length) (List.mem_of_getElem? hi)
    dsimp only at hab
    have hrs := rstripped_le [32, 9].contains a
    have e61 : (List.map (fun n : Int => n.toNat.toUInt8) [61]) = [61] := rfl
    refine wp_hide ?_
    intro QH hQH
    k_steps
    walk_at "sides"
    · refine hQH _ _ ?_
      refine lq_done () (by k_asm) (by k_asm) (by walk_at "memNil") (by walk_at "frameSame") ?_
      rw [take_snoc hi, List.map_append]
      refine hP.append ?_
      rw [List.map_singleton, decLine, if_pos (show part (rstripped [32, 9].contains a) (some (-1)) none = [61] from beq_iff_eq.mp ‹(_ == _) = true›)]
      exact .one _ _
    · have := part_le (rstripped [32, 9].contains a) none (some (((rstripped [32, 9].contains a).length : Int) - 1))
      unfold Side
      omega
    · refine hQH _ _ ?_
      refine lq_done () (by k_asm) (by k_asm) (by walk_at "memNil") (by walk_at "frameSame") ?_
      rw [take_snoc hi, List.map_append]
      refine hP.append ?_
      rw [List.map_singleton, decLine, if_neg (show ¬ part (rstripped [32, 9].contains a) (some (-1)) none = [61] from beq_eq_false_iff_ne.mp ‹(_ == _) = false›)]
      exact .one _ _
    · have := unquoted_len (rstripped [32, 9].contains a)
      unfold Side
      omega
  · rintro vs k _ u hh tk hP F1 N1
    have hjl := flat_dec_len (lineCut x)
    rw [hPs.1, List.take_length] at hP
    k_steps
    walk_at "sides"
    exact hret _ _ _ (by k_asm) (by walk_at "dropN")
end
end
section
/- D1 -/
open Builtin
theorem mulOk_small {a b : Int} (h0 : 0 ≤ a) (h1 : a < 1152921504606846976) : IntMulOk a b := by
  refine IntMulOk.of_left ?_
  unfold Builtin.Int.intBits
  split
  · omega
  · rename_i h
    have h2 : a.natAbs ≠ 0 := by
      intro e
      exact h (beq_iff_eq.mpr (by omega))
    have : a.natAbs.log2 < 60 := (Nat.log2_lt h2).mpr (by omega)
    omega
section
variable {prog : Program} {w : World} {A : Around} {E : Value → Shared → Prop} {s : Shared} {l : Addr} {vs : List Value} {Q : Value → Shared → Prop}
theorem item_i {value slice : PySem.Expr} {xs : List Int} {i : Int} {ui : Tok} (hl : s.heap.IsList l vs.toArray) (hb : IntsAre vs xs) (h0 : 0 ≤ i) (h1 : i < (xs.length : Int)) (hz : xs.length ≤ 16777216) (h : ∀ t, Q (.int (xs.getD i.toNat 0) t) s)
    (hs : subscripted slice false (.ref l) (.int i ui) = operate [.ref l, .int i ui] (getItem (.ref l) (.int i ui)) := by with_unfolding_all rfl) :
    wpAny (model prog w) A (subscriptTail value slice (.ref l) (.int i ui)) Q E s := by
  have hlt : i.toNat < vs.length := by have := hb.length; omega
  obtain ⟨t, ht⟩ := hb.int_at i.toNat vs[i.toNat] (List.getElem?_eq_getElem hlt)
  exact tail_any hl.typeIs slot_list_getitem.lookup (wpAny_getItem_list hl h0 (by have := hb.length; omega) (by simpa [ht] using List.getElem?_eq_getElem hlt) (h t)) hs
end
theorem filledD1 : hd.heap_1 = hd.heap_1 ∧ PySem.Challenge.rw_no0355_01 = PySem.Challenge.rw_no0355_01 := by
  k_fill
  exact ⟨rfl, rfl⟩
theorem rows_10 : True := by
  k_with_none
  k_with "my getMethod bytes" => (k_here; first | refine method_b slot_bytes_find type_bytes_find ?_ | refine method_b slot_bytes_index type_bytes_index ?_ | refine method_b slot_bytes_lower type_bytes_lower ?_ | refine method_b slot_bytes_rstrip type_bytes_rstrip ?_ | refine method_b slot_bytes_split type_bytes_split ?_ | refine method_b slot_bytes_join type_bytes_join ?_)
  k_with "my call builtin:bytes.find" => (k_here; first | refine call_find3 ?_ | refine call_find2 ?_; intro _ _)
  k_with "my call builtin:bytes.lower" => (k_here; refine call_lower (Side.out ?_) ?_; rotate_left; intro _ _)
  k_with "my call builtin:bytes.rstrip" => (k_here; refine call_rstrip (Side.out ?_) ?_; rotate_left; intro _ _)
  k_with "my binaryOp Add bytes bytes" => (k_here; refine add_b (Side.out ?_) ?_; rotate_left; intro _ _)
  k_with "my subscriptTail" => (k_here; (with_reducible show wpAny _ _ (subscriptTail _ _ (Value.bytes (List.toArray _) _) (Value.int _ _)) _ _ _); (refine item_b (Side.out ?_) (Side.out ?_) (Side.out ?_) ?_; rotate_left; rotate_left; rotate_left; intro _ _))
  k_with "my subscriptTail" => (k_here; (with_reducible show wpAny _ _ (subscriptTail _ (Expr.Slice _ _ none _) (Value.bytes (List.toArray _) _) (Value.ref _)) _ _ _); (with_reducible rename Fr _ _ _ _ => F'); (with_reducible rename News _ _ _ _ => N'); (refine slice_b (s := ⟨_, _, _, _, _⟩) F' N' (by constructor) (by constructor) (Side.out ?_) ?_; rotate_left; intro _ _ _ _ _))
  k_with "my call builtin:len" => (k_here; (with_reducible show wpAny _ _ (call (Value.builtin "len") [Value.bytes (List.toArray _) _]) _ _ _); (refine len_b (Side.out ?_) ?_; rotate_left; intro _ _))
  k_with "my binaryOp FloorDiv int int" => (k_here; refine fdiv_i (by first | decide | omega) (by exact PyProof.noPylong_small (by omega)) ?_; intro _ _)
  k_with "my binaryOp Mod int int" => (k_here; refine fmod_i (by first | decide | omega) ?_; intro _ _)
  k_with "my call type:bytes" => (k_here; (with_reducible show wpAny _ _ (call (Value.type _) [Value.ref _]) _ _ _); k_dflt (refine' bytes_d (by k_asm) (by k_asm) ?q295i (Side.out ?_) (Side.out ?_) ?q295h ?_; (case q295i => first | l_ints | assumption); (case q295h => with_unfolding_all rfl)); rotate_left; rotate_left; intro _ _ _ _ _; (try k_sweep))
  k_with "my dropN" => first | k_asm | (refine' cb_drop ?q296cbN ?q296cbS; (case q296cbN => assumption); (case q296cbS => kcj_all))
  k_with "my sides" => (all_goals try (show Side _; unfold Side; first | assumption | omega | (simp only [List.length_cons, List.length_nil]; omega) | (simp only [List.length_append, List.length_map, List.length_cons, List.length_nil]; omega) | decide))
  k_with "my cx" => exact ⟨by k_asm, by k_asm, by k_asm, by k_asm, by k_asm, by first | exact rfl | assumption⟩
  k_with "my call ref" => (k_here; k_dflt (refine' use_hex_worth (by walk_at "cx") (by ktr_room) (by ktr_units) ?_); intro _ _ _ _ _)
  k_with "my call ref" => (k_here; k_dflt (refine' use_is_plain (by walk_at "cx") (by ktr_room) (by ktr_units) ?_); intro _ _ _ _ _)
  k_with "my call ref" => (k_here; k_dflt (refine' use_quoted_code (by walk_at "cx") (by ktr_room) (by ktr_units) (Side.out ?_) ?_); rotate_left; intro _ _ _ _ _)
  k_with "my exec For Name Call cons nil" => (k_here; refine Stop.mk ?_)
  k_with "my exec For Name Name cons nil" => (k_here; refine Stop.mk ?_)
  k_with "my pyIter ref" => ((with_reducible show wpAny _ _ (pyIter (Value.ref _)) (fun it s₂ => LoopAtV _ _ _ _ _ _ _ _ _ it s₂) _ _); refine Stop.mk ?_)
  k_with "my InvPostN" => (dsimp only [InvPostN])
  k_with "my InvEndN" => (refine Stop.mk ?_)
  k_with "my call builtin:list.append" => (k_here; (with_reducible show wpAny _ _ (call (Value.builtin _) [Value.ref _, _]) _ _ _); k_dflt (refine' append_h (by k_asm) (by k_asm) (Side.out ?_) (Side.out ?_) ?_); rotate_left; rotate_left; intro _ _ _ _; (try k_sweep))
  k_with "my frameSame" => (intro _ h1 h2 h3; (try simp only [List.forall_mem_cons, List.not_mem_nil, false_implies, implies_true, and_true, ne_eq] at h2); (try simp only [List.contains_cons, List.contains_nil, Bool.or_false, Bool.or_eq_false_iff, beq_eq_false_iff_ne, ne_eq] at h3); first | (simp [kstB, h1, h2, h3]; done) | (simp [kstB, h1, h3]; done) | (simp [kstB, h1, h2]; done) | (simp [kstB, h1]; done))
  k_with "my memNil" => exact (fun _ h => nomatch h)
  k_with "my memL" => first | assumption | exact List.Mem.head _ | (refine List.Mem.tail _ ?_; walk_at "memL") | (refine List.mem_append.mpr (.inr ?_); walk_at "memL") | (refine List.mem_append.mpr (.inl ?_); walk_at "memL")
  k_with "my isL" => exact newsList (by k_asm) (by walk_at "memL")
  k_with "my call builtin:len" => (k_here; (with_reducible show wpAny _ _ (call (Value.builtin "len") [Value.ref _]) _ _ _); (refine len_l (by walk_at "isL") (Side.out ?_) ?_; rotate_left; intro _ _))
  k_with "my subscriptTail" => (k_here; (with_reducible show wpAny _ _ (subscriptTail _ _ (Value.ref _) (Value.int _ _)) _ _ _); (refine item_l (by walk_at "isL") (by assumption) (Side.out ?_) (Side.out ?_) (Side.out ?_) ?_; rotate_left; rotate_left; rotate_left; intro _))
  k_with "my subscriptTail" => (k_here; (with_reducible show wpAny _ _ (subscriptTail _ (Expr.Slice _ _ none _) (Value.ref _) (Value.ref _)) _ _ _); (with_reducible rename Fr _ _ _ _ => F'); (with_reducible rename News _ _ _ _ => N'); (refine slice_l (s := ⟨_, _, _, _, _⟩) F' N' (newsList N' (by walk_at "memL")) (by constructor) (by constructor) (Side.out ?_) ?_; rotate_left; intro _ _ F' N' _))
  k_with "my binaryOp Add ref ref" => (k_here; (refine add_l (by k_asm) (by k_asm) (by walk_at "isL") (by walk_at "isL") (Side.out ?_) ?_; rotate_left; intro _ _ _ _ _))
  k_with "my call builtin:list.extend" => (k_here; k_dflt (refine' extend_h (by k_asm) (by k_asm) (Side.out ?_) (Side.out ?_) (Side.out ?_) ?_); rotate_left; rotate_left; rotate_left; intro _ _ _ _; (try k_sweep))
  k_with "my call builtin:list.extend" => (k_here; k_dflt (refine' extend_3 (by k_asm) (by k_asm) (Side.out ?_) ?q317k3 (Side.out ?_) ?_; (case q317k3 => rename ∀ p : Addr × Obj, p ∈ _ → p.1 < _ => lS; exact fun e => absurd (lS _ (List.Mem.tail _ (List.Mem.head _))) (by rw [e]; exact Nat.lt_irrefl _))); rotate_left; rotate_left; intro _ _ _ _; (try k_sweep))
  k_with "my subscriptTail Name Slice ref ref" => (k_here; (with_reducible rename Fr _ _ _ _ => F'); (with_reducible rename News _ _ _ _ => N'); (refine slice_l (s := ⟨_, _, _, _, _⟩) F' N' (newsList N' (by walk_at "memL")) (by constructor) (by constructor) (Side.out ?_) ?_; rotate_left; intro _ _ F' N' _))
  k_with "my setItem ref int" => (k_here; k_dflt (refine' ki_set (by k_asm) (by k_asm) ?q319a ?q319b ?q319e (Upd.head (by assumption)) ?_; (case q319a => decide); (case q319b => decide); (case q319e => rfl)); intro _ _ _)
  k_with "my binaryOp Mult int int" => (k_here; refine mul_int ?_ (mulOk_small (by omega) (by omega)))
  k_with "my subscriptTail" => (k_here; (with_reducible show wpAny _ _ (subscriptTail _ _ (Value.ref _) (Value.int _ _)) _ _ _); (refine item_i (by walk_at "isL") (by assumption) (Side.out ?_) (Side.out ?_) (Side.out ?_) ?_; rotate_left; rotate_left; rotate_left; intro _))
  trivial
section
variable {w : World} {mean : ExcName → Option Value} {mg mb : Str → Option Value} {dp un : Nat} {gd : Option (List Code)} {cn : Str} {cs : Scope} {a : Addr} {ccd : Value} {cl : List (Str × Addr)} {outer : List Env} {A₀ : Around} {base h₀ : Heap} {L : Addr} {m : Str → Option Value} {news : List (Addr × Obj)} {s : Shared} {Q E : Value → Shared → Prop}
/-- the pen: the cells, the spot, the seed -/
noncomputable def penOf (c : Addr) (spot seed : Int) (t u : Tok) (k : Nat) : Obj := listOf #[.ref c, .int spot t, .int seed u] k
theorem use_draw {P c : Addr} {spot seed : Int} {t u tm : Tok} {k n : Nat} {cv : List Value} {ns : List Int} {tl : List (Addr × Obj)} {many : Int} (C : Cx w mean mg mb A₀ base outer h₀ L s.heap m ((P, penOf c spot seed t u k) :: tl) cs) (hd : dp + 1 < recursionLimit) (hu : un + 8 < cLine)
    (hP : ∀ p ∈ tl, p.1 ≠ P) (hc : (c, listOf cv.toArray n) ∈ tl) (hi : IntsAre cv ns) (hn : ns.length ≤ 16777216) (hm : 0 < many) (hm2 : many ≤ 1000) (hs : 0 ≤ spot) (hs2 : spot ≤ 1000000)
    (hret : ∀ v t' t2 u2 k' h' tk', 0 ≤ v → v < many → Fr h₀ L h' m → News h₀ L h' ((P, penOf c (spot + 1) seed t2 u2 k') :: tl) → Q (.int v t') { s with heap := h', toks := tk' }) :
    wpAny (model PySem.Challenge.rw_no0355_01.row.toRowW.prog w) (ktrTop dp un gd cn cs L a ccd cl outer) (call (.ref 146) [.ref P, .int many tm]) Q E s := by
  obtain ⟨B, F, X, N, T, hk⟩ := C
  unfold penOf at N
  refine wpAny_call ?_
  k_dflt cell_enter
  rename Fr _ _ _ _ => F1
  replace F1 : Fr _ _ _ (fun y => List.lookup y [(Str.ofString "many", Value.int many tm), (Str.ofString "pen", Value.ref P)]) := F1
  have hl := hi.length
  k_steps
  walk_at "sides"
  all_goals exact hret _ _ _ _ _ _ _ (Int.emod_nonneg _ (by omega)) (Int.emod_lt_of_pos _ hm) (by k_asm) (by unfold penOf; walk_at "dropN")
/-- one entry of a ledger and the rest -/
inductive PenAt (P : Addr) (o : Obj) : List (Addr × Obj) → List (Addr × Obj) → Prop
  | head {r} : (∀ p ∈ r, p.1 ≠ P) → PenAt P o ((P, o) :: r) r
  | tail {p r r'} : p.1 ≠ P → PenAt P o r r' → PenAt P o (p :: r) (p :: r')
theorem PenAt.off {P : Addr} {o : Obj} {l r : List (Addr × Obj)} (h : PenAt P o l r) : ∀ p ∈ r, p.1 ≠ P := by
  induction h with
  | head h => exact h
  | tail h _ ih => exact List.forall_mem_cons.mpr ⟨h, ih⟩
theorem PenAt.sub {P : Addr} {o : Obj} {l r : List (Addr × Obj)} (h : PenAt P o l r) : ∀ p ∈ (P, o) :: r, p ∈ l := by
  induction h with
  | head h => exact fun p hp => hp
  | tail h _ ih =>
    intro p hp
    rcases List.mem_cons.mp hp with e | hp
    · exact .tail _ (ih p (e ▸ .head _))
    · rcases List.mem_cons.mp hp with e | hp
      · exact e ▸ .head _
      · exact .tail _ (ih p (.tail _ hp))
theorem use_drawU {P c : Addr} {spot seed : Int} {t u tm : Tok} {k n : Nat} {cv : List Value} {ns : List Int} {rest : List (Addr × Obj)} {many : Int} (C : Cx w mean mg mb A₀ base outer h₀ L s.heap m news cs) (U : PenAt P (penOf c spot seed t u k) news rest) (hd : dp + 1 < recursionLimit) (hu : un + 8 < cLine)
    (hc : (c, listOf cv.toArray n) ∈ rest) (hi : IntsAre cv ns) (hn : ns.length ≤ 16777216) (hm : 0 < many) (hm2 : many ≤ 1000) (hs : 0 ≤ spot) (hs2 : spot ≤ 1000000)
    (hret : ∀ v t' t2 u2 k' h' tk', 0 ≤ v → v < many → Fr h₀ L h' m → News h₀ L h' ((P, penOf c (spot + 1) seed t2 u2 k') :: rest) → Q (.int v t') { s with heap := h', toks := tk' }) :
    wpAny (model PySem.Challenge.rw_no0355_01.row.toRowW.prog w) (ktrTop dp un gd cn cs L a ccd cl outer) (call (.ref 146) [.ref P, .int many tm]) Q E s :=
  use_draw ⟨C.B, C.F, C.X, fun p hp => C.N p (U.sub p hp), C.T, C.k⟩ hd hu U.off hc hi hn hm hm2 hs hs2 hret
end
end
section
/- R7 -/
theorem rows_none_R7 : True := by
  k_with_none
  trivial
open Builtin

/-- the end of one element of a comprehension that draws from the pen -/
noncomputable def PenEnd (h₀ : Heap) (L : Addr) (m : Str → Option Value) (I : Addr) (oI : Obj) (C : Addr) (oC : Obj) (D : Addr) (oD : Obj) (P c : Addr) (seed : Int) (rest : List (Addr × Obj)) (Inv : Value → Int → Prop) (s : Shared) (y : Value) (s₂ : Shared) : Prop :=
  ∃ spot t u k h' tk, s₂ = { s with heap := h', toks := tk } ∧ Fr h₀ L h' m ∧ News h₀ L h' ((P, penOf c spot seed t u k) :: (I, oI) :: (C, oC) :: (D, oD) :: rest) ∧ Inv y spot
section
variable {prog : Program} {w : World} {A : Around} {E : Value → Shared → Prop} {s : Shared} {h₀ : Heap} {L : Addr} {m : Str → Option Value} {env : Env}
theorem pen_end {I C D P c : Addr} {oI oC oD : Obj} {seed spot : Int} {rest : List (Addr × Obj)} {Inv : Value → Int → Prop} {y : Value} {t u : Tok} {k tk : Nat} {h' : Heap} (F : Fr h₀ L h' m) (N : News h₀ L h' ((P, penOf c spot seed t u k) :: (I, oI) :: (C, oC) :: (D, oD) :: rest)) (hi : Inv y spot) :
    PenEnd h₀ L m I oI C oC D oD P c seed rest Inv s y { s with heap := h', toks := tk } := ⟨spot, t, u, k, h', tk, rfl, F, N, hi⟩
theorem off3_of {I C D : Addr} {l : List (Addr × Obj)} (h : LCg.Off3 I C D l) {l' : List (Addr × Obj)} (hs : ∀ p ∈ l', ∃ q ∈ l, q.1 = p.1) : LCg.Off3 I C D l' :=
  LCg.Off3.of fun p hp => by
    obtain ⟨q, hq, e⟩ := hs p hp
    have := h.mem q hq
    rw [e] at this
    exact this
theorem comp_pen {elt : Expr} {x : Str} {scope : Scope} {cl : List (Str × Addr)} {Fin : Shared → List Value → List (Addr × Obj) → Prop} {P c r : Addr} {seed spot : Int} {rest : List (Addr × Obj)} {n : Nat} {t u : Tok} {k : Nat} {t₀ u₀ v₀ : Tok} {b : Int}
    (N : News h₀ L s.heap ((P, penOf c spot seed t u k) :: rest)) (Inv : Nat → List Value → Int → Prop)
    (hh : A.handled = none) (F : Fr h₀ L s.heap m) (hr : IsRange s.heap r 0 b 1 t₀ u₀ v₀) (hb : b = (n : Int)) (hn : n ≤ 16777216) (h0 : Inv 0 [] spot)
    (turn : ∀ i ys spot t u k v I oI C oC D m₂ h tk (E' : Value → Shared → Prop), i < n → Inv i ys spot → LCg.NsObj oC m₂ → m₂ x = some v → Fr h₀ L h m → News h₀ L h ((I, oI) :: (C, oC) :: (D, LCg.lst ys) :: (P, penOf c spot seed t u k) :: rest) →
      LCg.Off3 I C D ((P, penOf c spot seed t u k) :: rest) → ((@Ne Nat I C) ∧ (@Ne Nat I D) ∧ (@Ne Nat C D)) →
      wpAny (model prog w) A (eval elt (compEnvC scope cl C env)) (PenEnd h₀ L m I oI C oC D (LCg.lst ys) P c seed rest (fun y => Inv (i + 1) (ys ++ [y])) { s with heap := h, toks := tk }) E' { s with heap := h, toks := tk })
    (done : ∀ g ys spot t u k, Inv n ys spot → Fin { s with heap := g } ys ((P, penOf c spot seed t u k) :: rest)) :
    LCg.CompSrc prog w A h₀ L m env elt x scope cl Fin (.ref r) s := by
  subst hb
  have hsmall : Builtin.Range.small 0 (n : Int) 1 = true := small_one (by omega) (by omega) (by omega) (by omega)
  have hsz : Builtin.Range.rangeSize 0 (n : Int) 1 = (n : Int) := by
    simp [Builtin.Range.rangeSize]; omega
  refine LCg.CompSrc.range hh F N hr hsmall hsz (by rw [sizeLine_eq]; exact hn) fun g => ?_
  have go : ∀ j i ys spot t u k, i + j = n → Inv i ys spot → LCg.CompRest prog w A h₀ L m env elt x scope cl { s with heap := g } (fun _ => True) (fun i v => ∃ t, v = .int (0 + (i : Int)) t) (Fin { s with heap := g }) j i ys ((P, penOf c spot seed t u k) :: rest) := by
    intro j
    induction j with
    | zero =>
      intro i ys spot t u k e hI
      rw [Nat.add_zero] at e
      subst e
      exact LCg.CompRest.zero (done g ys spot t u k hI)
    | succ j ih =>
      intro i ys spot t u k e hI
      refine LCg.CompRest.succ fun v I oI C oC D m₂ h tk E' _ hC hx F₁ N₁ off ne => ?_
      refine wpAny_mono (turn i ys spot t u k v I oI C oC D m₂ h tk E' (by omega) hI hC hx F₁ N₁ off ne) (fun y s₂ q => ?_) fun _ _ e => e
      obtain ⟨spot', t', u', k', h', tk', rfl, F', N', hI'⟩ := q
      refine ⟨h', tk', (P, penOf c spot' seed t' u' k') :: rest, rfl, F', fun p hp => ?_, ?_, trivial, ih (i + 1) _ _ _ _ _ (by omega) hI'⟩
      · rcases List.mem_cons.mp hp with rfl | hp
        · exact N' _ (.tail _ (.head _))
        · rcases List.mem_cons.mp hp with rfl | hp
          · exact N' _ (.tail _ (.tail _ (.head _)))
          · rcases List.mem_cons.mp hp with rfl | hp
            · exact N' _ (.tail _ (.tail _ (.tail _ (.head _))))
            · rcases List.mem_cons.mp hp with rfl | hp
              · exact N' _ (.head _)
              · exact N' _ (.tail _ (.tail _ (.tail _ (.tail _ hp))))
      · refine off3_of off fun p hp => ?_
        rcases List.mem_cons.mp hp with rfl | hp
        · exact ⟨_, .head _, rfl⟩
        · exact ⟨p, .tail _ hp, rfl⟩
  exact go n 0 [] spot t u k (Nat.zero_add n) h0
end
end
section
/- D2 -/
open Builtin
noncomputable def NeH (a b : Addr) : Prop := a ≠ b
theorem neH {a b : Addr} (h : a ≠ b) : NeH a b := h
theorem neOf {a b : Addr} (h : NeH a b) : a ≠ b := h
theorem offTail {tl : List (Addr × Obj)} {X d : Nat} (h : ∀ p ∈ tl, @LT.lt Nat _ p.1 X) (hd : X ≤ d) : ∀ p ∈ tl, p.1 ≠ d := fun p hp => Nat.ne_of_lt (Nat.lt_of_lt_of_le (h p hp) hd)
theorem all3_snoc {xs : List (List UInt8)} {y : List UInt8} (h : ∀ x ∈ xs, x.length ≤ 3) (hy : y.length ≤ 3) : ∀ x ∈ xs ++ [y], x.length ≤ 3 := fun x hx => by
  rcases List.mem_append.mp hx with hx | hx
  · exact h x hx
  · rw [List.mem_singleton.mp hx]; exact hy
theorem getD_le3 {xs : List (List UInt8)} (h : ∀ x ∈ xs, x.length ≤ 3) (j : Nat) : (xs.getD j []).length ≤ 3 := by
  rw [List.getD_eq_getElem?_getD]
  cases hj : xs[j]? with
  | none => simp
  | some y => exact h y (List.mem_of_getElem? hj)
theorem flat3_le {xs : List (List UInt8)} (h : ∀ x ∈ xs, x.length ≤ 3) : xs.flatten.length ≤ 3 * xs.length := by
  induction xs with
  | nil => simp
  | cons y r ih =>
    have h1 := h y (.head _)
    have h2 := ih fun x hx => h x (.tail _ hx)
    simp only [List.flatten_cons, List.length_append, List.length_cons]; omega
theorem filledD2 : hd.heap_1 = hd.heap_1 ∧ PySem.Challenge.rw_no0355_01 = PySem.Challenge.rw_no0355_01 := by
  k_fill
  exact ⟨rfl, rfl⟩
theorem rows_11 : True := by
  k_with_none
  k_with "my getMethod bytes" => (k_here; first | refine method_b slot_bytes_find type_bytes_find ?_ | refine method_b slot_bytes_index type_bytes_index ?_ | refine method_b slot_bytes_lower type_bytes_lower ?_ | refine method_b slot_bytes_rstrip type_bytes_rstrip ?_ | refine method_b slot_bytes_split type_bytes_split ?_ | refine method_b slot_bytes_join type_bytes_join ?_)
  k_with "my call builtin:bytes.find" => (k_here; first | refine call_find3 ?_ | refine call_find2 ?_; intro _ _)
  k_with "my call builtin:bytes.lower" => (k_here; refine call_lower (Side.out ?_) ?_; rotate_left; intro _ _)
  k_with "my call builtin:bytes.rstrip" => (k_here; refine call_rstrip (Side.out ?_) ?_; rotate_left; intro _ _)
  k_with "my binaryOp Add bytes bytes" => (k_here; refine add_b (Side.out ?_) ?_; rotate_left; intro _ _)
  k_with "my subscriptTail" => (k_here; (with_reducible show wpAny _ _ (subscriptTail _ _ (Value.bytes (List.toArray _) _) (Value.int _ _)) _ _ _); (refine item_b (Side.out ?_) (Side.out ?_) (Side.out ?_) ?_; rotate_left; rotate_left; rotate_left; intro _ _))
  k_with "my subscriptTail" => (k_here; (with_reducible show wpAny _ _ (subscriptTail _ (Expr.Slice _ _ none _) (Value.bytes (List.toArray _) _) (Value.ref _)) _ _ _); (with_reducible rename Fr _ _ _ _ => F'); (with_reducible rename News _ _ _ _ => N'); (refine slice_b (s := ⟨_, _, _, _, _⟩) F' N' (by constructor) (by constructor) (Side.out ?_) ?_; rotate_left; intro _ _ _ _ _))
  k_with "my call builtin:len" => (k_here; (with_reducible show wpAny _ _ (call (Value.builtin "len") [Value.bytes (List.toArray _) _]) _ _ _); (refine len_b (Side.out ?_) ?_; rotate_left; intro _ _))
  k_with "my binaryOp FloorDiv int int" => (k_here; refine fdiv_i (by first | decide | omega) (by exact PyProof.noPylong_small (by omega)) ?_; intro _ _)
  k_with "my binaryOp Mod int int" => (k_here; refine fmod_i (by first | decide | omega) ?_; intro _ _)
  k_with "my call type:bytes" => (k_here; (with_reducible show wpAny _ _ (call (Value.type _) [Value.ref _]) _ _ _); k_dflt (refine' bytes_d (by k_asm) (by k_asm) ?q332i (Side.out ?_) (Side.out ?_) ?q332h ?_; (case q332i => first | l_ints | assumption); (case q332h => with_unfolding_all rfl)); rotate_left; rotate_left; intro _ _ _ _ _; (try k_sweep))
  k_with "my dropN" => first | k_asm | (refine' cb_drop ?q333cbN ?q333cbS; (case q333cbN => assumption); (case q333cbS => kcj_all))
  k_with "my sides" => (all_goals try (show Side _; unfold Side; first | assumption | omega | (simp only [List.length_cons, List.length_nil]; omega) | (simp only [List.length_append, List.length_map, List.length_cons, List.length_nil]; omega) | decide))
  k_with "my cx" => exact ⟨by k_asm, by k_asm, by k_asm, by k_asm, by k_asm, by first | exact rfl | assumption⟩
  k_with "my call ref" => (k_here; k_dflt (refine' use_hex_worth (by walk_at "cx") (by ktr_room) (by ktr_units) ?_); intro _ _ _ _ _)
  k_with "my call ref" => (k_here; k_dflt (refine' use_is_plain (by walk_at "cx") (by ktr_room) (by ktr_units) ?_); intro _ _ _ _ _)
  k_with "my call ref" => (k_here; k_dflt (refine' use_quoted_code (by walk_at "cx") (by ktr_room) (by ktr_units) (Side.out ?_) ?_); rotate_left; intro _ _ _ _ _)
  k_with "my exec For Name Call cons nil" => (k_here; refine Stop.mk ?_)
  k_with "my exec For Name Name cons nil" => (k_here; refine Stop.mk ?_)
  k_with "my pyIter ref" => ((with_reducible show wpAny _ _ (pyIter (Value.ref _)) (fun it s₂ => LoopAtV _ _ _ _ _ _ _ _ _ it s₂) _ _); refine Stop.mk ?_)
  k_with "my InvPostN" => (dsimp only [InvPostN])
  k_with "my InvEndN" => (refine Stop.mk ?_)
  k_with "my call builtin:list.append" => (k_here; (with_reducible show wpAny _ _ (call (Value.builtin _) [Value.ref _, _]) _ _ _); k_dflt (refine' append_h (by k_asm) (by k_asm) (Side.out ?_) (Side.out ?_) ?_); rotate_left; rotate_left; intro _ _ _ _; (try k_sweep))
  k_with "my frameSame" => (intro _ h1 h2 h3; (try simp only [List.forall_mem_cons, List.not_mem_nil, false_implies, implies_true, and_true, ne_eq] at h2); (try simp only [List.contains_cons, List.contains_nil, Bool.or_false, Bool.or_eq_false_iff, beq_eq_false_iff_ne, ne_eq] at h3); first | (simp [kstB, h1, h2, h3]; done) | (simp [kstB, h1, h3]; done) | (simp [kstB, h1, h2]; done) | (simp [kstB, h1]; done))
  k_with "my memNil" => exact (fun _ h => nomatch h)
  k_with "my memL" => first | assumption | exact List.Mem.head _ | (refine List.Mem.tail _ ?_; walk_at "memL") | (refine List.mem_append.mpr (.inr ?_); walk_at "memL") | (refine List.mem_append.mpr (.inl ?_); walk_at "memL")
  k_with "my isL" => exact newsList (by k_asm) (by walk_at "memL")
  k_with "my call builtin:len" => (k_here; (with_reducible show wpAny _ _ (call (Value.builtin "len") [Value.ref _]) _ _ _); (refine len_l (by walk_at "isL") (Side.out ?_) ?_; rotate_left; intro _ _))
  k_with "my subscriptTail" => (k_here; (with_reducible show wpAny _ _ (subscriptTail _ _ (Value.ref _) (Value.int _ _)) _ _ _); (refine item_l (by walk_at "isL") (by assumption) (Side.out ?_) (Side.out ?_) (Side.out ?_) ?_; rotate_left; rotate_left; rotate_left; intro _))
  k_with "my subscriptTail" => (k_here; (with_reducible show wpAny _ _ (subscriptTail _ (Expr.Slice _ _ none _) (Value.ref _) (Value.ref _)) _ _ _); (with_reducible rename Fr _ _ _ _ => F'); (with_reducible rename News _ _ _ _ => N'); (refine slice_l (s := ⟨_, _, _, _, _⟩) F' N' (newsList N' (by walk_at "memL")) (by constructor) (by constructor) (Side.out ?_) ?_; rotate_left; intro _ _ F' N' _))
  k_with "my binaryOp Add ref ref" => (k_here; (refine add_l (by k_asm) (by k_asm) (by walk_at "isL") (by walk_at "isL") (Side.out ?_) ?_; rotate_left; intro _ _ _ _ _))
  k_with "my call builtin:list.extend" => (k_here; k_dflt (refine' extend_h (by k_asm) (by k_asm) (Side.out ?_) (Side.out ?_) (Side.out ?_) ?_); rotate_left; rotate_left; rotate_left; intro _ _ _ _; (try k_sweep))
  k_with "my call builtin:list.extend" => (k_here; k_dflt (refine' extend_3 (by k_asm) (by k_asm) (Side.out ?_) ?q354k3 (Side.out ?_) ?_; (case q354k3 => rename ∀ p : Addr × Obj, p ∈ _ → p.1 < _ => lS; exact fun e => absurd (lS _ (List.Mem.tail _ (List.Mem.head _))) (by rw [e]; exact Nat.lt_irrefl _))); rotate_left; rotate_left; intro _ _ _ _; (try k_sweep))
  k_with "my subscriptTail Name Slice ref ref" => (k_here; (with_reducible rename Fr _ _ _ _ => F'); (with_reducible rename News _ _ _ _ => N'); (refine slice_l (s := ⟨_, _, _, _, _⟩) F' N' (newsList N' (by walk_at "memL")) (by constructor) (by constructor) (Side.out ?_) ?_; rotate_left; intro _ _ F' N' _))
  k_with "my call builtin:bytes.join" => (k_here; k_dflt (refine' call_join ?q356kl (by assumption) (Side.out ?_) ?_; (case q356kl => walk_at "isL")); rotate_left; intro _ _)
  k_with "my neA" => first | assumption | (refine Ne.symm ?_; assumption) | exact neOf (by assumption) | exact Ne.symm (neOf (by assumption)) | (show (_ : Nat) ≠ _; (try dsimp only); omega)
  k_with "my offA" => first | assumption | exact List.forall_mem_nil _ | (refine List.forall_mem_cons.mpr ⟨?_, ?_⟩; (focus walk_at "neA"); (focus walk_at "offA")) | exact offTail (by assumption) (by omega)
  k_with "my updA" => first | (refine' UpdF.head ?q359a; (case q359a => walk_at "offA")) | (refine' UpdF.tail ?q359a ?q359b; (case q359a => walk_at "neA"); (case q359b => walk_at "updA"))
  k_with "my storeName" => (k_here; k_dflt (refine' storeX_C (by k_asm) (by k_asm) ?q360c ?q360U ?q360d ?_ ?q360a ?q360b; (case q360a => rfl); (case q360b => rfl); (case q360c => rfl); (case q360U => walk_at "updA"); (case q360d => k_asm); k_whole); intro _ _ _ N' _; (try dsimp only at N'))
  k_with "my CompSrc" => (k_here; refine Stop.mk ?_)
  k_with "my penA" => first | (refine' PenAt.head ?q362a; (case q362a => walk_at "offA")) | (refine' PenAt.tail ?q362a ?q362b; (case q362a => walk_at "neA"); (case q362b => walk_at "penA"))
  k_with "my call ref" => (k_here; k_dflt (refine' use_drawU (by walk_at "cx") ?q363kU (by ktr_room) (by ktr_units) ?q363kc (by assumption) (Side.out ?_) (by decide) (by decide) (Side.out ?_) (Side.out ?_) ?_; (case q363kU => walk_at "penA"); (case q363kc => walk_at "memL")); rotate_left; rotate_left; rotate_left; intro _ _ _ _ _ _ _ _ _ _ _)
  k_with "my bsLit" => first | assumption | exact BsAre.nil | (apply BsAre.cons; walk_at "bsLit")
  k_with "my subscriptTail" => (k_here; (with_reducible show wpAny _ _ (subscriptTail _ _ (Value.ref _) (Value.int _ _)) _ _ _); (refine item_l (by exact newsList (by k_asm) (by walk_at "memL")) (by walk_at "bsLit") (Side.out ?_) (Side.out ?_) (Side.out ?_) ?_; rotate_left; rotate_left; rotate_left; intro _))
  k_with "my PenEnd" => (refine Stop.mk ?_)
  trivial
section
variable {w : World} {mean : ExcName → Option Value} {mg mb : Str → Option Value} {dp un : Nat} {gd : Option (List Code)} {cn : Str} {cs : Scope} {a : Addr} {ccd : Value} {cl : List (Str × Addr)} {outer : List Env} {A₀ : Around} {base h₀ : Heap} {L : Addr} {m : Str → Option Value} {news : List (Addr × Obj)} {s : Shared} {Q E : Value → Shared → Prop}
theorem use_octets {P c : Addr} {spot seed : Int} {t u : Tok} {k n : Nat} {cv : List Value} {ns : List Int} {tl : List (Addr × Obj)} (C : Cx w mean mg mb A₀ base outer h₀ L s.heap m ((P, penOf c spot seed t u k) :: tl) cs) (hd : dp + 2 < recursionLimit) (hu : un + 16 < cLine)
    (hP : ∀ p ∈ tl, p.1 ≠ P) (hc : (c, listOf cv.toArray n) ∈ tl) (hi : IntsAre cv ns) (hn : ns.length ≤ 16777216) (hs : 0 ≤ spot) (hs2 : spot ≤ 100000)
    (hret : ∀ (x : List UInt8) spot' t' t2 u2 k' h' tk', x.length ≤ 51 → 0 ≤ spot' → spot' ≤ spot + 100 → Fr h₀ L h' m → News h₀ L h' ((P, penOf c spot' seed t2 u2 k') :: tl) → Q (.bytes x.toArray t') { s with heap := h', toks := tk' }) :
    wpAny (model PySem.Challenge.rw_no0355_01.row.toRowW.prog w) (ktrTop dp un gd cn cs L a ccd cl outer) (call (.ref 151) [.ref P]) Q E s := by
  obtain ⟨B, F, X, N, T, hk⟩ := C
  refine wpAny_call ?_
  k_dflt (refine' code_defC ?k1 ?k2 ?k3 ?k4 ?k5 ?kA ?kF ?kK ?k6 ?k7 ?k8 ?k9 ?kB ?kD ?_ ?c2 ?c3 ?c4; (case kA => exact rfl); (case kF => exact rfl); (case kK => assumption); (case k1 => k_asm); (case k2 => k_asm); (case k3 => k_asm); (case k4 => k_asm); (case k5 => k_asm); (case k6 => k_is); (case k7 => k_is); (case k8 => ktr_room); (case k9 => exact BindsTo.of_eq rfl); (case kB => exact rfl); (case kD => decide +kernel); (case c2 => exact rfl); (case c3 => exact rfl); (case c4 => exact rfl); k_whole)
  intro g' L' h' tk' cells' FG' F' N' Y' B' X' T' lN
  replace F' : Fr g' L' h' (fun _ => none) := F'
  k_cells Y'
  rename_i o1 o2 d1 d2
  replace d1 : o1.data = .cell none := d1
  replace d2 : o2.data = .cell (some (.ref P)) := d2
  (try simp only [List.cons_append, List.nil_append] at N'); (try dsimp only); (try k_lift B'); (try k_fold)
  have hPL : @LT.lt Nat _ P L' := lN _ (.head _)
  have hT : ∀ p ∈ tl, @LT.lt Nat _ p.1 L' := fun p hp => lN p (.tail _ hp)
  have hPk : P ≠ L' + 1 := Nat.ne_of_lt (by omega)
  k_steps
  walk_at "sides"
  unfold Stop
  rename News _ _ _ _ => NN
  rename (_ : Int) < 17 => hv17
  rename 0 ≤ (_ : Int) => hv0
  refine comp_pen (n := Int.toNat _) NN (fun i ys sp => ∃ xs, BsAre ys xs ∧ (∀ x ∈ xs, x.length ≤ 3) ∧ xs.length = i ∧ 0 ≤ sp ∧ sp ≤ spot + 1 + 3 * (i : Int)) rfl (by k_asm) (by assumption) (Int.toNat_of_nonneg hv0).symm (by omega) ⟨[], .nil, (fun _ h => nomatch h), rfl, by omega, by omega⟩ ?_ ?_
  · rintro i ys sp tA uA kA v I oI C oC D m₂ hh tk E' hin ⟨xs, hB, hx3, hxl, hs0, hs1⟩ hC hx F1 N1 hoff hne
    clear NN
    simp only [LCg.Off3, and_true] at hoff
    obtain ⟨⟨q1, q2, q3⟩, ⟨q4, q5, q6⟩, ⟨q7, q8, q9⟩, ⟨q10, q11, q12⟩, q13⟩ := hoff
    obtain ⟨q14, q15, q16⟩ := hne
    replace q1 := neH q1; replace q2 := neH q2; replace q3 := neH q3; replace q4 := neH q4; replace q5 := neH q5; replace q6 := neH q6
    replace q7 := neH q7; replace q8 := neH q8; replace q9 := neH q9; replace q10 := neH q10; replace q11 := neH q11; replace q12 := neH q12
    replace q14 := neH q14; replace q15 := neH q15; replace q16 := neH q16
    k_steps
    walk_at "sides"
    · refine pen_end (by k_asm) (by k_asm) ⟨xs ++ [_], hB.append (.one _ _), ?_, by simp [hxl], by omega, by omega⟩
      exact all3_snoc hx3 (getD_le3 (by decide) _)
    · refine pen_end (by k_asm) (by k_asm) ⟨xs ++ [_], hB.append (.one _ _), ?_, by simp [hxl], by omega, by omega⟩
      exact all3_snoc hx3 (by simp)
    · unfold Side
      exact List.forall_mem_singleton.mpr ⟨by assumption, by assumption⟩
  · rintro g ys sp tA uA kA ⟨xs, hB, hx3, hxl, hs0, hs1⟩
    have hfl := flat3_le hx3
    have hle : xs.length ≤ 16 := by omega
    k_steps
    · exact hret _ _ _ _ _ _ _ _ (by omega) hs0 (by omega) (by k_asm) (by walk_at "dropN")
    · unfold Side
      omega
end
end
section
/- D3 -/
open Builtin
theorem filledD3 : hd.heap_1 = hd.heap_1 ∧ PySem.Challenge.rw_no0355_01 = PySem.Challenge.rw_no0355_01 := by
  k_fill
  exact ⟨rfl, rfl⟩
theorem rows_12 : True := by
  k_with_none
  k_with "my getMethod bytes" => (k_here; first | refine method_b slot_bytes_find type_bytes_find ?_ | refine method_b slot_bytes_index type_bytes_index ?_ | refine method_b slot_bytes_lower type_bytes_lower ?_ | refine method_b slot_bytes_rstrip type_bytes_rstrip ?_ | refine method_b slot_bytes_split type_bytes_split ?_ | refine method_b slot_bytes_join type_bytes_join ?_)
  k_with "my call builtin:bytes.find" => (k_here; first | refine call_find3 ?_ | refine call_find2 ?_; intro _ _)
  k_with "my call builtin:bytes.lower" => (k_here; refine call_lower (Side.out ?_) ?_; rotate_left; intro _ _)
  k_with "my call builtin:bytes.rstrip" => (k_here; refine call_rstrip (Side.out ?_) ?_; rotate_left; intro _ _)
  k_with "my binaryOp Add bytes bytes" => (k_here; refine add_b (Side.out ?_) ?_; rotate_left; intro _ _)
  k_with "my subscriptTail" => (k_here; (with_reducible show wpAny _ _ (subscriptTail _ _ (Value.bytes (List.toArray _) _) (Value.int _ _)) _ _ _); (refine item_b (Side.out ?_) (Side.out ?_) (Side.out ?_) ?_; rotate_left; rotate_left; rotate_left; intro _ _))
  k_with "my subscriptTail" => (k_here; (with_reducible show wpAny _ _ (subscriptTail _ (Expr.Slice _ _ none _) (Value.bytes (List.toArray _) _) (Value.ref _)) _ _ _); (with_reducible rename Fr _ _ _ _ => F'); (with_reducible rename News _ _ _ _ => N'); (refine slice_b (s := ⟨_, _, _, _, _⟩) F' N' (by constructor) (by constructor) (Side.out ?_) ?_; rotate_left; intro _ _ _ _ _))
  k_with "my call builtin:len" => (k_here; (with_reducible show wpAny _ _ (call (Value.builtin "len") [Value.bytes (List.toArray _) _]) _ _ _); (refine len_b (Side.out ?_) ?_; rotate_left; intro _ _))
  k_with "my binaryOp FloorDiv int int" => (k_here; refine fdiv_i (by first | decide | omega) (by exact PyProof.noPylong_small (by omega)) ?_; intro _ _)
  k_with "my binaryOp Mod int int" => (k_here; refine fmod_i (by first | decide | omega) ?_; intro _ _)
  k_with "my call type:bytes" => (k_here; (with_reducible show wpAny _ _ (call (Value.type _) [Value.ref _]) _ _ _); k_dflt (refine' bytes_d (by k_asm) (by k_asm) ?q377i (Side.out ?_) (Side.out ?_) ?q377h ?_; (case q377i => first | l_ints | assumption); (case q377h => with_unfolding_all rfl)); rotate_left; rotate_left; intro _ _ _ _ _; (try k_sweep))
  k_with "my dropN" => first | k_asm | (refine' cb_drop ?q378cbN ?q378cbS; (case q378cbN => assumption); (case q378cbS => kcj_all))
  k_with "my sides" => (all_goals try (show Side _; unfold Side; first | assumption | omega | (simp only [List.length_cons, List.length_nil]; omega) | (simp only [List.length_append, List.length_map, List.length_cons, List.length_nil]; omega) | decide))
  k_with "my cx" => exact ⟨by k_asm, by k_asm, by k_asm, by k_asm, by k_asm, by first | exact rfl | assumption⟩
  k_with "my call ref" => (k_here; k_dflt (refine' use_hex_worth (by walk_at "cx") (by ktr_room) (by ktr_units) ?_); intro _ _ _ _ _)
  k_with "my call ref" => (k_here; k_dflt (refine' use_is_plain (by walk_at "cx") (by ktr_room) (by ktr_units) ?_); intro _ _ _ _ _)
  k_with "my call ref" => (k_here; k_dflt (refine' use_quoted_code (by walk_at "cx") (by ktr_room) (by ktr_units) (Side.out ?_) ?_); rotate_left; intro _ _ _ _ _)
  k_with "my exec For Name Call cons nil" => (k_here; refine Stop.mk ?_)
  k_with "my exec For Name Name cons nil" => (k_here; refine Stop.mk ?_)
  k_with "my pyIter ref" => ((with_reducible show wpAny _ _ (pyIter (Value.ref _)) (fun it s₂ => LoopAtV _ _ _ _ _ _ _ _ _ it s₂) _ _); refine Stop.mk ?_)
  k_with "my InvPostN" => (dsimp only [InvPostN])
  k_with "my InvEndN" => (refine Stop.mk ?_)
  k_with "my call builtin:list.append" => (k_here; (with_reducible show wpAny _ _ (call (Value.builtin _) [Value.ref _, _]) _ _ _); k_dflt (refine' append_h (by k_asm) (by k_asm) (Side.out ?_) (Side.out ?_) ?_); rotate_left; rotate_left; intro _ _ _ _; (try k_sweep))
  k_with "my frameSame" => (intro _ h1 h2 h3; (try simp only [List.forall_mem_cons, List.not_mem_nil, false_implies, implies_true, and_true, ne_eq] at h2); (try simp only [List.contains_cons, List.contains_nil, Bool.or_false, Bool.or_eq_false_iff, beq_eq_false_iff_ne, ne_eq] at h3); first | (simp [kstB, h1, h2, h3]; done) | (simp [kstB, h1, h3]; done) | (simp [kstB, h1, h2]; done) | (simp [kstB, h1]; done))
  k_with "my memNil" => exact (fun _ h => nomatch h)
  k_with "my memL" => first | assumption | exact List.Mem.head _ | (refine List.Mem.tail _ ?_; walk_at "memL") | (refine List.mem_append.mpr (.inr ?_); walk_at "memL") | (refine List.mem_append.mpr (.inl ?_); walk_at "memL")
  k_with "my isL" => exact newsList (by k_asm) (by walk_at "memL")
  k_with "my call builtin:len" => (k_here; (with_reducible show wpAny _ _ (call (Value.builtin "len") [Value.ref _]) _ _ _); (refine len_l (by walk_at "isL") (Side.out ?_) ?_; rotate_left; intro _ _))
  k_with "my subscriptTail" => (k_here; (with_reducible show wpAny _ _ (subscriptTail _ _ (Value.ref _) (Value.int _ _)) _ _ _); (refine item_l (by walk_at "isL") (by assumption) (Side.out ?_) (Side.out ?_) (Side.out ?_) ?_; rotate_left; rotate_left; rotate_left; intro _))
  k_with "my subscriptTail" => (k_here; (with_reducible show wpAny _ _ (subscriptTail _ (Expr.Slice _ _ none _) (Value.ref _) (Value.ref _)) _ _ _); (with_reducible rename Fr _ _ _ _ => F'); (with_reducible rename News _ _ _ _ => N'); (refine slice_l (s := ⟨_, _, _, _, _⟩) F' N' (newsList N' (by walk_at "memL")) (by constructor) (by constructor) (Side.out ?_) ?_; rotate_left; intro _ _ F' N' _))
  k_with "my binaryOp Add ref ref" => (k_here; (refine add_l (by k_asm) (by k_asm) (by walk_at "isL") (by walk_at "isL") (Side.out ?_) ?_; rotate_left; intro _ _ _ _ _))
  k_with "my call builtin:list.extend" => (k_here; k_dflt (refine' extend_h (by k_asm) (by k_asm) (Side.out ?_) (Side.out ?_) (Side.out ?_) ?_); rotate_left; rotate_left; rotate_left; intro _ _ _ _; (try k_sweep))
  k_with "my call builtin:list.extend" => (k_here; k_dflt (refine' extend_3 (by k_asm) (by k_asm) (Side.out ?_) ?q399k3 (Side.out ?_) ?_; (case q399k3 => rename ∀ p : Addr × Obj, p ∈ _ → p.1 < _ => lS; exact fun e => absurd (lS _ (List.Mem.tail _ (List.Mem.head _))) (by rw [e]; exact Nat.lt_irrefl _))); rotate_left; rotate_left; intro _ _ _ _; (try k_sweep))
  k_with "my subscriptTail Name Slice ref ref" => (k_here; (with_reducible rename Fr _ _ _ _ => F'); (with_reducible rename News _ _ _ _ => N'); (refine slice_l (s := ⟨_, _, _, _, _⟩) F' N' (newsList N' (by walk_at "memL")) (by constructor) (by constructor) (Side.out ?_) ?_; rotate_left; intro _ _ F' N' _))
  k_with "my call builtin:bytes.join" => (k_here; k_dflt (refine' call_join ?q401kl (by assumption) (Side.out ?_) ?_; (case q401kl => walk_at "isL")); rotate_left; intro _ _)
  k_with "my neA" => first | assumption | (refine Ne.symm ?_; assumption) | exact neOf (by assumption) | exact Ne.symm (neOf (by assumption)) | (show (_ : Nat) ≠ _; (try dsimp only); omega)
  k_with "my offA" => first | assumption | exact List.forall_mem_nil _ | (refine List.forall_mem_cons.mpr ⟨?_, ?_⟩; (focus walk_at "neA"); (focus walk_at "offA")) | exact offTail (by assumption) (by omega)
  k_with "my updA" => first | (refine' UpdF.head ?q404a; (case q404a => walk_at "offA")) | (refine' UpdF.tail ?q404a ?q404b; (case q404a => walk_at "neA"); (case q404b => walk_at "updA"))
  k_with "my storeName" => (k_here; k_dflt (refine' storeX_C (by k_asm) (by k_asm) ?q405c ?q405U ?q405d ?_ ?q405a ?q405b; (case q405a => rfl); (case q405b => rfl); (case q405c => rfl); (case q405U => walk_at "updA"); (case q405d => k_asm); k_whole); intro _ _ _ N' _; (try dsimp only at N'))
  k_with "my CompSrc" => (k_here; refine Stop.mk ?_)
  k_with "my penA" => first | (refine' PenAt.head ?q407a; (case q407a => walk_at "offA")) | (refine' PenAt.tail ?q407a ?q407b; (case q407a => walk_at "neA"); (case q407b => walk_at "penA"))
  k_with "my call ref" => (k_here; k_dflt (refine' use_drawU (by walk_at "cx") ?q408kU (by ktr_room) (by ktr_units) ?q408kc (by assumption) (Side.out ?_) (by decide) (by decide) (Side.out ?_) (Side.out ?_) ?_; (case q408kU => walk_at "penA"); (case q408kc => walk_at "memL")); rotate_left; rotate_left; rotate_left; intro _ _ _ _ _ _ _ _ _ _ _)
  k_with "my bsLit" => first | assumption | exact BsAre.nil | (apply BsAre.cons; walk_at "bsLit")
  k_with "my subscriptTail" => (k_here; (with_reducible show wpAny _ _ (subscriptTail _ _ (Value.ref _) (Value.int _ _)) _ _ _); (refine item_l (by exact newsList (by k_asm) (by walk_at "memL")) (by walk_at "bsLit") (Side.out ?_) (Side.out ?_) (Side.out ?_) ?_; rotate_left; rotate_left; rotate_left; intro _))
  k_with "my PenEnd" => (refine Stop.mk ?_)
  trivial
section
variable {w : World} {mean : ExcName → Option Value} {mg mb : Str → Option Value} {dp un : Nat} {gd : Option (List Code)} {cn : Str} {cs : Scope} {a : Addr} {ccd : Value} {cl : List (Str × Addr)} {outer : List Env} {A₀ : Around} {base h₀ : Heap} {L : Addr} {m : Str → Option Value} {news : List (Addr × Obj)} {s : Shared} {Q E : Value → Shared → Prop}
theorem use_row {P c : Addr} {spot seed : Int} {t u : Tok} {k n : Nat} {cv : List Value} {ns : List Int} {tl : List (Addr × Obj)} (C : Cx w mean mg mb A₀ base outer h₀ L s.heap m ((P, penOf c spot seed t u k) :: tl) cs) (hd : dp + 2 < recursionLimit) (hu : un + 16 < cLine)
    (hP : ∀ p ∈ tl, p.1 ≠ P) (hc : (c, listOf cv.toArray n) ∈ tl) (hi : IntsAre cv ns) (hn : ns.length ≤ 16777216) (hs : 0 ≤ spot) (hs2 : spot ≤ 100000)
    (hret : ∀ (x : List UInt8) spot' t' t2 u2 k' h' tk', x.length ≤ 51 → 0 ≤ spot' → spot' ≤ spot + 100 → Fr h₀ L h' m → News h₀ L h' ((P, penOf c spot' seed t2 u2 k') :: tl) → Q (.bytes x.toArray t') { s with heap := h', toks := tk' }) :
    wpAny (model PySem.Challenge.rw_no0355_01.row.toRowW.prog w) (ktrTop dp un gd cn cs L a ccd cl outer) (call (.ref 182) [.ref P]) Q E s := by
  obtain ⟨B, F, X, N, T, hk⟩ := C
  refine wpAny_call ?_
  k_dflt (refine' code_defC ?k1 ?k2 ?k3 ?k4 ?k5 ?kA ?kF ?kK ?k6 ?k7 ?k8 ?k9 ?kB ?kD ?_ ?c2 ?c3 ?c4; (case kA => exact rfl); (case kF => exact rfl); (case kK => assumption); (case k1 => k_asm); (case k2 => k_asm); (case k3 => k_asm); (case k4 => k_asm); (case k5 => k_asm); (case k6 => k_is); (case k7 => k_is); (case k8 => ktr_room); (case k9 => exact BindsTo.of_eq rfl); (case kB => exact rfl); (case kD => decide +kernel); (case c2 => exact rfl); (case c3 => exact rfl); (case c4 => exact rfl); k_whole)
  intro g' L' h' tk' cells' FG' F' N' Y' B' X' T' lN
  replace F' : Fr g' L' h' (fun _ => none) := F'
  k_cells Y'
  rename_i o1 o2 d1 d2
  replace d1 : o1.data = .cell none := d1
  replace d2 : o2.data = .cell (some (.ref P)) := d2
  (try simp only [List.cons_append, List.nil_append] at N'); (try dsimp only); (try k_lift B'); (try k_fold)
  have hPL : @LT.lt Nat _ P L' := lN _ (.head _)
  have hT : ∀ p ∈ tl, @LT.lt Nat _ p.1 L' := fun p hp => lN p (.tail _ hp)
  have hPk : P ≠ L' + 1 := Nat.ne_of_lt (by omega)
  k_steps
  walk_at "sides"
  unfold Stop
  rename News _ _ _ _ => NN
  rename (_ : Int) < 17 => hv17
  rename 0 ≤ (_ : Int) => hv0
  refine comp_pen (n := Int.toNat _) NN (fun i ys sp => ∃ xs, BsAre ys xs ∧ (∀ x ∈ xs, x.length ≤ 3) ∧ xs.length = i ∧ 0 ≤ sp ∧ sp ≤ spot + 1 + 3 * (i : Int)) rfl (by k_asm) (by assumption) (Int.toNat_of_nonneg hv0).symm (by omega) ⟨[], .nil, (fun _ h => nomatch h), rfl, by omega, by omega⟩ ?_ ?_
  · rintro i ys sp tA uA kA v I oI C oC D m₂ hh tk E' hin ⟨xs, hB, hx3, hxl, hs0, hs1⟩ hC hx F1 N1 hoff hne
    clear NN
    simp only [LCg.Off3, and_true] at hoff
    obtain ⟨⟨q1, q2, q3⟩, ⟨q4, q5, q6⟩, ⟨q7, q8, q9⟩, ⟨q10, q11, q12⟩, q13⟩ := hoff
    obtain ⟨q14, q15, q16⟩ := hne
    replace q1 := neH q1; replace q2 := neH q2; replace q3 := neH q3; replace q4 := neH q4; replace q5 := neH q5; replace q6 := neH q6
    replace q7 := neH q7; replace q8 := neH q8; replace q9 := neH q9; replace q10 := neH q10; replace q11 := neH q11; replace q12 := neH q12
    replace q14 := neH q14; replace q15 := neH q15; replace q16 := neH q16
    k_steps
    walk_at "sides"
    refine pen_end (by k_asm) (by k_asm) ⟨xs ++ [_], hB.append (.one _ _), ?_, by simp [hxl], by omega, by omega⟩
    exact all3_snoc hx3 (getD_le3 (by decide) _)
  · rintro g ys sp tA uA kA ⟨xs, hB, hx3, hxl, hs0, hs1⟩
    have hfl := flat3_le hx3
    have hle : xs.length ≤ 16 := by omega
    k_steps
    · exact hret _ _ _ _ _ _ _ _ (by omega) hs0 (by omega) (by k_asm) (by walk_at "dropN")
    · unfold Side
      omega
end
end
section
/- R8 -/
theorem rows_none_R8 : True := by
  k_with_none
  trivial
open Builtin

section
variable {prog : Program} {w : World} {A : Around} {E : Value → Shared → Prop} {s : Shared} {b : Array UInt8} {t : Tok}
theorem nextOf_bytes_item {it : Addr} {i : Nat} {c : UInt8} {Q : Value → Shared → Prop} (hit : KBw.IsBytesIter s.heap it b t i) (hx : b[i]? = some c)
    (hQ : ∀ h', KBw.IsBytesIter h' it b t (i + 1) → Heap.SameBut it s.heap h' → Q (.int (c.toNat : Int) s.toks) { s with heap := h', toks := s.toks + 1 }) : wpAny (model prog w) A (Builtin.SmallTypes.nextOf (.ref it)) Q E s := by
  obtain ⟨o, ho, hc, hd⟩ := id hit
  unfold Builtin.SmallTypes.nextOf
  refine wpAny_bind (wpAny_callSpecial?_slot (name := PySem.Str.ofString "__next__") (KBw.iter_typeIs hit) KBw.slot_next
    (wpAny_call_entry KBw.slot_next (KBw.iter_typeIs hit) KBw.entry_next ?_ (KBw.args_next _)))
  show wpAny _ _ (field (.ref it) 0 >>= _) _ _ s
  refine wpAny_bind (wpAny_field ho hd (x := .bytes b t) rfl ?_)
  show wpAny _ _ (if (Value.bytes b t == Value.none) = true then _ else _) _ _ s
  rw [if_neg (show ¬ ((Value.bytes b t == Value.none) = true) from Bool.false_ne_true)]
  show wpAny _ _ (field (.ref it) 1 >>= _) _ _ s
  refine wpAny_bind (wpAny_field ho hd (x := .int i 0) rfl ?_)
  refine wpAny_bind (wpAny_of_eq (a := b) rfl ?_)
  simp only [Int.toNat_natCast, hx]
  refine wpAny_bind (wpAny_setField ho hd (by simp) (wpAny_bind (wpAny_mkInt (wpAny_pure ⟨_, rfl, wpAny_pure (hQ _ ?_ (Heap.SameBut.update ..))⟩))))
  exact ⟨_, Heap.get?_update_self _ ho (Obj.isFreed_of_fields (Obj.data_mapFields hd _)), (Obj.cls_mapFields ..).trans hc, by
    rw [Obj.data_mapFields hd]; simp [rawInt]⟩
theorem nextOf_bytes_end {it : Addr} {i : Nat} {Q : Value → Shared → Prop} (hh : A.handled = none) (hit : KBw.IsBytesIter s.heap it b t i) (hx : b[i]? = none)
    (hE : ∀ h' e, Heap.ExtBut it s.heap h' → (∃ o, h'.get? e = some o ∧ o.cls = .type "StopIteration") → E (.ref e) { s with heap := h' }) : wpAny (model prog w) A (Builtin.SmallTypes.nextOf (.ref it)) Q E s := by
  obtain ⟨o, ho, hc, hd⟩ := id hit
  unfold Builtin.SmallTypes.nextOf
  refine wpAny_bind (wpAny_callSpecial?_slot (name := PySem.Str.ofString "__next__") (KBw.iter_typeIs hit) KBw.slot_next
    (wpAny_call_entry KBw.slot_next (KBw.iter_typeIs hit) KBw.entry_next ?_ (KBw.args_next _)))
  show wpAny _ _ (field (.ref it) 0 >>= _) _ _ s
  refine wpAny_bind (wpAny_field ho hd (x := .bytes b t) rfl ?_)
  show wpAny _ _ (if (Value.bytes b t == Value.none) = true then _ else _) _ _ s
  rw [if_neg (show ¬ ((Value.bytes b t == Value.none) = true) from Bool.false_ne_true)]
  show wpAny _ _ (field (.ref it) 1 >>= _) _ _ s
  refine wpAny_bind (wpAny_field ho hd (x := .int i 0) rfl ?_)
  refine wpAny_bind (wpAny_of_eq (a := b) rfl ?_)
  simp only [Int.toNat_natCast, hx]
  refine wpAny_bind (wpAny_rule (wpAny_bind (wpAny_setField ho hd (by simp) ?_)))
  show wpAny _ _ (newExc (.type "StopIteration") [] >>= _) _ _ _
  refine wpAny_bind ?_
  simp only [newExc, newTuple]
  refine wpAny_bind (wpAny_newObj_type ?_ (by size_fits))
  refine wpAny_bind (m := firstArgMember _ _) (wpAny_of_eq (a := Value.none) (by first | rfl | (simp only [firstArgMember]; rfl)) ?_)
  refine wpAny_newObj_type ?_ (by size_fits)
  simp only [raiseNew]
  refine wpAny_bind (wpAny_handled ?_)
  first | rw [show A.in1.handled = none from hh] | rw [hh]
  refine wpAny_bind (wpAny_pure (wpAny_throw ?_))
  exact hE _ _ (((Heap.SameBut.update ..).extBut.push _).push _) ⟨_, Heap.get?_push_size _ rfl, rfl⟩
theorem drawsBytes (hh : A.handled = none) (it : Addr) (b : Array UInt8) (t : Tok) :
    Draws prog w A it [it] b.size (fun i v => ∃ c u, b[i]? = some c ∧ v = .int (c.toNat : Int) u) (fun i h => KBw.IsBytesIter h it b t i) where
  live := fun _ _ st => let ⟨o, ho, _⟩ := st; ⟨o, ho⟩
  frame := fun _ _ _ st hk => let ⟨o, ho, r⟩ := st; ⟨o, hk it (by simp) o ho, r⟩
  item := fun i s Q E hi st hQ => by
    refine nextOf_bytes_item st (c := b[i]) (by simp [hi]) fun h' hit' hs' => ?_
    exact hQ _ h' (s.toks + 1) ⟨_, _, by simp [hi], rfl⟩ hit' hs'
  done := fun s Q E st hE => nextOf_bytes_end hh st (by simp) hE
end
theorem meets_enumerate_newB (b : Array UInt8) (t : Tok) :
    Meets (Builtin.«enumerate.__new__» ⟨[.type "enumerate", .bytes b t], []⟩) (fun _ R s =>
      R (.ok (.ret (.ref (s.heap.push { cls := .type "bytes_iterator", data := .fields #[.bytes b t, .int 0 0] }).objs.size)))
        { s with heap := (s.heap.push { cls := .type "bytes_iterator", data := .fields #[.bytes b t, .int 0 0] }).push { cls := .type "enumerate", data := .fields #[.none, .bool false, .ref s.heap.objs.size, rawInt 0, .none, .none] } }) :=
  .of_wp fun prog w A R s h => by
    obtain ⟨hp, g, d, tk, os⟩ := s
    have hsub := sub_enumerate
    wp_walk
    refine wpAny_stack_any fun st => wpAny_pure ?_
    split
    · rename_i c _ _ _ _ _
      cases (c == Value.type "enumerate")
      · wp_walk using KBw.pyIter_bytes
        exact ⟨_, rfl, h⟩
      · wp_walk using KBw.pyIter_bytes
        exact ⟨_, rfl, h⟩
    · wp_walk using KBw.pyIter_bytes
      exact ⟨_, rfl, h⟩
section
variable {prog : Program} {w : World} {A : Around} {E : Value → Shared → Prop} {s : Shared}
theorem call_enumerate_bytes {b : Array UInt8} {t : Tok} {Q : Value → Shared → Prop}
    (h : ∀ h', IsEnum h' (s.heap.objs.size + 1) s.heap.objs.size 0 .none → KBw.IsBytesIter h' s.heap.objs.size b t 0 → h'.objs.size = s.heap.objs.size + 2 →
      (∀ b o, s.heap.get? b = some o → h'.get? b = some o) → Q (.ref (s.heap.objs.size + 1)) { s with heap := h' }) :
    wpAny (model prog w) A (call (.type "enumerate") [.bytes b t]) Q E s := by
  refine callType_new F.called_enumerate (by decide) (F.typeCall_enumerate_1 _) (F.newCall_enumerate_1 _) (fun obj => F.args_object_init_2 obj _) F.entry_enumerate_new
    (meets_enumerate_newB b t) ?_
  have hz : (s.heap.push { cls := .type "bytes_iterator", data := .fields #[.bytes b t, .int 0 0] }).objs.size = s.heap.objs.size + 1 := Heap.size_push ..
  show _ ∧ _
  rw [hz]
  have he : IsEnum ((s.heap.push { cls := .type "bytes_iterator", data := .fields #[.bytes b t, .int 0 0] }).push
      { cls := .type "enumerate", data := .fields #[.none, .bool false, .ref s.heap.objs.size, rawInt 0, .none, .none] }) (s.heap.objs.size + 1) s.heap.objs.size 0 .none := by
    have := Heap.get?_push_size (s.heap.push { cls := .type "bytes_iterator", data := .fields #[.bytes b t, .int 0 0] })
      (o := { cls := .type "enumerate", data := .fields #[.none, .bool false, .ref s.heap.objs.size, rawInt 0, .none, .none] }) rfl
    rw [hz] at this; exact this
  refine ⟨⟨_, he, rfl⟩, h _ he ⟨_, Heap.get?_push_of_some _ (Heap.get?_push_size _ rfl), rfl, rfl⟩ (by rw [Heap.size_push, hz]) fun b o y => Heap.get?_push_of_some _ (Heap.get?_push_of_some _ y)⟩
end

section
variable {prog : Program} {w : World} {A : Around} {E : Value → Shared → Prop} {s : Shared} {env : Env} {h₀ : Heap} {body : List Stmt} {Q : Flow → Shared → Prop}
/-- a loop over enumerate(octets), one list at the ledger's head -/
theorem lq_enum {τ : Type} {xi xc : Str} {D : Addr} {rest : List (Addr × Obj)} {vs₀ : List Value} {n₀ : Nat} {x : List UInt8} {t : Tok} {m₀ : Str → Option Value}
    (N : News h₀ env.locals s.heap ((D, listOf vs₀.toArray n₀) :: rest)) (ps : τ → List (Str × Value)) (stored : List Str) (P : Nat → List Value → τ → Prop)
    (hh : A.handled = none) (hDr : ∀ p ∈ rest, p.1 ≠ D) (F : Fr h₀ env.locals s.heap m₀) (hs : ∃ c₀ : τ, (∀ p ∈ ps c₀, m₀ p.1 = some p.2) ∧ P 0 vs₀ c₀) (hst : stored.contains xi = true)
    (turn : ∀ (i : Nat) vs k (c : τ) ti tc (u : Str → Option Value) h tk tl, i < x.length → (∀ p ∈ tl, p.1 ≠ D) → (∀ p ∈ rest, p ∈ tl) → P i vs c →
      Fr h₀ env.locals h (fun y => if y = xc then some (.int ((x.getD i 0).toNat : Int) tc) else if y = xi then some (.int (i : Int) ti) else kstB (fun z => if stored.contains z then u z else m₀ z) (ps c) y) → News h₀ env.locals h ((D, listOf vs.toArray k) :: tl) →
      wpAny (model prog w) A (execs body env) (LpPost h₀ env.locals D tl ps xc stored m₀ (P (i + 1)) Q { s with heap := h, toks := tk }) E { s with heap := h, toks := tk })
    (done : ∀ vs k (c : τ) (u : Str → Option Value) h tk, P x.length vs c → Fr h₀ env.locals h (fun y => if y = xc then u y else kstB (fun z => if stored.contains z then u z else m₀ z) (ps c) y) → News h₀ env.locals h ((D, listOf vs.toArray k) :: rest) → Q .next { s with heap := h, toks := tk }) :
    wpAny (model prog w) A (call (.type "enumerate") [.bytes x.toArray t]) (fun xv s₁ => wpAny (model prog w) A (pyIter xv) (fun it s₂ => PairAt3 prog w A h₀ env xi xc body Q E it s₂) E s₁) E s := by
  have lts : ∀ p ∈ (D, listOf vs₀.toArray n₀) :: rest, p.1 < s.heap.objs.size := fun p hp => Heap.lt_size (N p hp).1
  have hLs := F.ns.lt
  have hab : h₀.objs.size ≤ env.locals := F.above
  refine call_enumerate_bytes fun h' he hit hsz hk => ?_
  have F' : Fr h₀ env.locals h' m₀ := ⟨F.ns.keeps hk, fun b o e => hk b o (F.keep b o e), F.above⟩
  have N' : News h₀ env.locals h' ((D, listOf vs₀.toArray n₀) :: rest) := fun p hp => ⟨hk _ _ (N p hp).1, (N p hp).2⟩
  have side1 : s.heap.objs.size + 1 ∉ [s.heap.objs.size] := fun hm => Nat.succ_ne_self _ (List.mem_singleton.mp hm)
  have sideD : ∀ p ∈ (D, listOf vs₀.toArray n₀) :: rest, p.1 ∉ [s.heap.objs.size + 1, s.heap.objs.size] := fun p hp hm => by
    have := lts p hp
    rcases List.mem_cons.mp hm with e | hm
    · exact absurd this (by rw [e]; exact Nat.not_lt.mpr (Nat.le_succ _))
    · exact absurd this (by rw [List.mem_singleton.mp hm]; exact Nat.lt_irrefl _)
  obtain ⟨c₀, hk0, hp0⟩ := hs
  let J : Nat → (Str → Option Value) → List (Addr × Obj) → Prop := fun i m nx => ∃ vs k c, nx = (D, listOf vs.toArray k) :: rest ∧ (∀ p ∈ ps c, m p.1 = some p.2) ∧ (∀ z, z ≠ xc → (∀ p ∈ ps c, z ≠ p.1) → stored.contains z = false → m z = m₀ z) ∧ P i vs c
  refine wpAny_pyIter_enum he ?_
  refine ⟨s.heap.objs.size + 1, (s.heap.objs.size + 1) :: [s.heap.objs.size], [s.heap.objs.size + 1, s.heap.objs.size], x.toArray.size, _, _, _, (fun i v0 v1 => ∃ t, v0 = .int i t ∧ ∃ c u, x.toArray[i]? = some c ∧ v1 = .int (c.toNat : Int) u), m₀, (D, listOf vs₀.toArray n₀) :: rest, J, rfl,
    WalksT.enumerateD (drawsBytes (A := A.in1) hh s.heap.objs.size x.toArray t) _ (Nat.succ_ne_self _) side1 (.head _), ?_, ?_, ?_, sideD, ⟨⟨_, by simpa using he⟩, hit⟩, F', N', ⟨vs₀, n₀, c₀, rfl, hk0, fun _ _ _ _ => rfl, hp0⟩, ?_, ?_⟩
  · rintro i vals ⟨t', v, hPx, rfl⟩
    exact ⟨_, _, rfl, t', rfl, hPx⟩
  · intro hm
    rcases List.mem_cons.mp hm with e | hm
    · exact Nat.ne_of_lt (Nat.lt_succ_of_lt hLs) e
    · exact Nat.ne_of_lt hLs (List.mem_singleton.mp hm)
  · intro b hb
    rcases List.mem_cons.mp hb with rfl | hb
    · exact Heap.get?_none_of_le (Nat.le_trans hab (Nat.le_of_lt (Nat.lt_succ_of_lt hLs)))
    · rw [List.mem_singleton.mp hb]
      exact Heap.get?_none_of_le (Nat.le_trans hab (Nat.le_of_lt hLs))
  · rintro i v0 v1 m₁ news₁ s₁ own ⟨hh', tk', rfl⟩ hin ⟨ti, rfl, c8, tc, hc8, rfl⟩ ⟨vs, k, c, rfl, h1, h2, hp'⟩ _ hown F₁ N₁
    have hDo : ∀ p ∈ own, p.1 ≠ D := fun p hp e => sideD (D, listOf vs₀.toArray n₀) (.head _) (e ▸ hown p hp)
    have e8 : x.getD i 0 = c8 := by
      rw [List.getElem?_toArray] at hc8
      rw [List.getD_eq_getElem?_getD, hc8]; rfl
    have N₂ : News h₀ env.locals hh' ((D, listOf vs.toArray k) :: (own ++ rest)) := fun p hp => by
      rcases List.mem_cons.mp hp with rfl | hp
      · exact N₁ _ (List.mem_append_right _ (.head _))
      · rcases List.mem_append.mp hp with hp | hp
        · exact N₁ _ (List.mem_append_left _ hp)
        · exact N₁ _ (List.mem_append_right _ (.tail _ hp))
    have F₂ : Fr h₀ env.locals hh' (fun y => if y = xc then some (.int ((x.getD i 0).toNat : Int) tc) else if y = xi then some (.int (i : Int) ti) else kstB (fun z => if stored.contains z then m₁ z else m₀ z) (ps c) y) := by
      have em : (fun y => if y = xc then some (Value.int ((x.getD i 0).toNat : Int) tc) else if y = xi then some (.int (i : Int) ti) else kstB (fun z => if stored.contains z then m₁ z else m₀ z) (ps c) y) = fun y => if y = xc then some (.int (c8.toNat : Int) tc) else if y = xi then some (.int (i : Int) ti) else m₁ y := by
        funext y
        by_cases hy : y = xc
        · rw [if_pos hy, if_pos hy, e8]
        · rw [if_neg hy, if_neg hy, kst_off h1 h2 hy]
      rw [em]
      exact F₁
    refine wpAny_mono (turn i vs k c ti tc m₁ hh' tk' (own ++ rest) (by simpa using hin) (fun p hp => (List.mem_append.mp hp).elim (hDo p) (hDr p)) (fun p hp => List.mem_append_right _ hp) hp' F₂ N₂) (fun f s₂ q => ?_) fun _ _ e => e
    have fin : (∃ (vs : List Value) (n : Nat) (c : τ) (h' : Heap) (tk : Nat) (m' : Str → Option Value), s₂ = { s with heap := h', toks := tk } ∧ Fr h₀ env.locals h' m' ∧ News h₀ env.locals h' ((D, listOf vs.toArray n) :: (own ++ rest)) ∧
      (∀ p ∈ ps c, m' p.1 = some p.2) ∧ (∀ z, z ≠ xc → (∀ p ∈ ps c, z ≠ p.1) → stored.contains z = false → m' z = m₀ z) ∧ P (i + 1) vs c) → LoopStep2 h₀ env.locals own ((D, listOf vs.toArray k) :: rest) (J (i + 1)) { s with heap := hh', toks := tk' } .next s₂ := by
      rintro ⟨vs', n', c', h', tk, m', rfl, F', N', hk', hr', hP'⟩
      refine ⟨rfl, h', tk, m', (D, listOf vs'.toArray n') :: rest, rfl, F', fun p hp => ?_, rfl, vs', n', c', rfl, hk', hr', hP'⟩
      rcases List.mem_append.mp hp with hp | hp
      · exact N' _ (.tail _ (List.mem_append_left _ hp))
      · rcases List.mem_cons.mp hp with rfl | hp
        · exact N' _ (.head _)
        · exact N' _ (.tail _ (List.mem_append_right _ hp))
    cases f with
    | ret v => exact q
    | brk => exact q
    | next => exact fin q
    | cont => exact fin q
  · rintro h' tk m' news' F' N' _ ⟨vs, k, c, rfl, h1, h2, hp'⟩
    exact done vs k c m' h' tk (by simpa using hp') (kst_frOut h1 h2 F') N'
end
end
section
/- R9 -/
theorem rows_none_R9 : True := by
  k_with_none
  trivial
open Builtin
/-- octets below 128 as a text -/
noncomputable def asc (x : List UInt8) : Str := ⟨(x.map UInt8.toNat).toArray⟩
theorem asc_append (x y : List UInt8) : asc x ++ asc y = asc (x ++ y) := by
  show Str.append _ _ = _
  unfold Str.append asc
  simp
theorem asc_length (x : List UInt8) : (asc x).length = x.length := by
  unfold asc Str.length
  simp
theorem asc_eq : Str.ofString "=" = asc [61] := by decide +kernel
theorem asc_empty : Str.ofString "" = asc [] := by decide +kernel
theorem asc_crlf : Str.ofString "\r\n" = asc [13, 10] := by decide +kernel
section
variable {prog : Program} {w : World} {A : Around} {E : Value → Shared → Prop} {s : Shared} {Q : Value → Shared → Prop} {x y : List UInt8} {X Y : Str} {t u : Tok}
theorem add_t (ex : X = asc x) (ey : Y = asc y) (hz : x.length + y.length ≤ 16777216) (h : ∀ t' k, Q (.str (asc (x ++ y)) t') { s with toks := k }) : wpAny (model prog w) A (binaryOp .Add (.str X t) (.str Y u)) Q E s := by
  subst ex ey
  refine SB.add (hsz := by rw [asc_length, asc_length, sizeLine_eq]; exact hz) fun t' k => ?_
  rw [asc_append]
  exact h t' k
theorem chr_t {c : UInt8} (h : ∀ t' k, Q (.str (asc [c]) t') { s with toks := k }) : wpAny (model prog w) A (call (.builtin "chr") [.int (c.toNat : Int) t]) Q E s := by
  have := c.toNat_lt
  refine P.chr_of_int ?_ ?_
  · simp only [Bool.or_eq_false_iff, decide_eq_false_iff_not]; omega
  · exact h _ _
theorem hex_item : ∀ n : Nat, n < 16 → (Txt.charAt (Str.ofString "0123456789ABCDEF") (n : Int)).isSome = true ∧ Txt.item (Str.ofString "0123456789ABCDEF") (n : Int) = asc [hexSign n] := by decide +kernel
theorem item_hex {i : Int} {value slice : PySem.Expr} (h0 : 0 ≤ i) (h1 : i < 16) (h : ∀ t' k, Q (.str (asc [hexSign i.toNat]) t') { s with toks := k })
    (hs : subscripted slice false (.str (Str.ofString "0123456789ABCDEF") t) (.int i u) = operate [.str (Str.ofString "0123456789ABCDEF") t, .int i u] (getItem (.str (Str.ofString "0123456789ABCDEF") t) (.int i u)) := by with_unfolding_all rfl) :
    wpAny (model prog w) A (subscriptTail value slice (.str (Str.ofString "0123456789ABCDEF") t) (.int i u)) Q E s := by
  obtain ⟨n, rfl⟩ := Int.eq_ofNat_of_zero_le h0
  obtain ⟨e1, e2⟩ := hex_item n (by omega)
  have hr : fitsSsize ((n : Nat) : Int) = true := by
    unfold fitsSsize
    simp only [Bool.not_eq_true', Bool.or_eq_false_iff, decide_eq_false_iff_not]; omega
  refine tail_any (typeIs_str _ _ _) F.slot_str_getitem.lookup (SB.getItem hr e1 ?_) hs
  rw [e2]
  exact h _ _
theorem len_t (hz : x.length ≤ 16777216) (h : ∀ t' k, Q (.int (x.length : Int) t') { s with toks := k }) : wpAny (model prog w) A (call (.builtin "len") [.str (asc x) t]) Q E s := by
  exact SBL.len (by rw [asc_length]; omega) (by rw [asc_length]; exact h _ _)
end
/-- the ledger from one entry on -/
inductive FromD (D : Addr) : List (Addr × Obj) → Obj → List (Addr × Obj) → Prop
  | head {o tl} : FromD D ((D, o) :: tl) o tl
  | tail {p r o tl} : FromD D r o tl → FromD D (p :: r) o tl
theorem FromD.sub {D : Addr} {l tl : List (Addr × Obj)} {o : Obj} (h : FromD D l o tl) : ∀ p ∈ (D, o) :: tl, p ∈ l := by
  induction h with
  | head => exact fun p hp => hp
  | tail _ ih => exact fun p hp => .tail _ (ih p hp)
section
variable {prog : Program} {w : World} {A : Around} {E : Value → Shared → Prop} {s : Shared} {h₀ : Heap} {L D : Addr} {m : Str → Option Value} {l tl : List (Addr × Obj)} {vs : List Value} {n : Nat} {v : Value} {Q : Value → Shared → Prop}
theorem append_f (F : Fr h₀ L s.heap m) (N : News h₀ L s.heap l) (U : FromD D l (listOf vs.toArray n) tl) (hD : ∀ p ∈ tl, p.1 ≠ D) (hz : vs.length ≤ 16777215)
    (h : ∀ h' n', Fr h₀ L h' m → News h₀ L h' ((D, listOf (vs ++ [v]).toArray n') :: tl) → Q .none { s with heap := h' }) :
    wpAny (model prog w) A (call (.builtin "list.append") [.ref D, v]) Q E s := append_h F (fun p hp => N p (U.sub p hp)) hD hz h
end
end
section
/- D4 -/
open Builtin
theorem filledD4 : hd.heap_1 = hd.heap_1 ∧ PySem.Challenge.rw_no0355_01 = PySem.Challenge.rw_no0355_01 := by
  k_fill
  exact ⟨rfl, rfl⟩
theorem rows_13 : True := by
  k_with_none
  k_with "my getMethod bytes" => (k_here; first | refine method_b slot_bytes_find type_bytes_find ?_ | refine method_b slot_bytes_index type_bytes_index ?_ | refine method_b slot_bytes_lower type_bytes_lower ?_ | refine method_b slot_bytes_rstrip type_bytes_rstrip ?_ | refine method_b slot_bytes_split type_bytes_split ?_ | refine method_b slot_bytes_join type_bytes_join ?_)
  k_with "my call builtin:bytes.find" => (k_here; first | refine call_find3 ?_ | refine call_find2 ?_; intro _ _)
  k_with "my call builtin:bytes.lower" => (k_here; refine call_lower (Side.out ?_) ?_; rotate_left; intro _ _)
  k_with "my call builtin:bytes.rstrip" => (k_here; refine call_rstrip (Side.out ?_) ?_; rotate_left; intro _ _)
  k_with "my binaryOp Add bytes bytes" => (k_here; refine add_b (Side.out ?_) ?_; rotate_left; intro _ _)
  k_with "my subscriptTail" => (k_here; (with_reducible show wpAny _ _ (subscriptTail _ _ (Value.bytes (List.toArray _) _) (Value.int _ _)) _ _ _); (refine item_b (Side.out ?_) (Side.out ?_) (Side.out ?_) ?_; rotate_left; rotate_left; rotate_left; intro _ _))
  k_with "my subscriptTail" => (k_here; (with_reducible show wpAny _ _ (subscriptTail _ (Expr.Slice _ _ none _) (Value.bytes (List.toArray _) _) (Value.ref _)) _ _ _); (with_reducible rename Fr _ _ _ _ => F'); (with_reducible rename News _ _ _ _ => N'); (refine slice_b (s := ⟨_, _, _, _, _⟩) F' N' (by constructor) (by constructor) (Side.out ?_) ?_; rotate_left; intro _ _ _ _ _))
  k_with "my call builtin:len" => (k_here; (with_reducible show wpAny _ _ (call (Value.builtin "len") [Value.bytes (List.toArray _) _]) _ _ _); (refine len_b (Side.out ?_) ?_; rotate_left; intro _ _))
  k_with "my binaryOp FloorDiv int int" => (k_here; refine fdiv_i (by first | decide | omega) (by exact PyProof.noPylong_small (by omega)) ?_; intro _ _)
  k_with "my binaryOp Mod int int" => (k_here; refine fmod_i (by first | decide | omega) ?_; intro _ _)
  k_with "my call type:bytes" => (k_here; (with_reducible show wpAny _ _ (call (Value.type _) [Value.ref _]) _ _ _); k_dflt (refine' bytes_d (by k_asm) (by k_asm) ?q422i (Side.out ?_) (Side.out ?_) ?q422h ?_; (case q422i => first | l_ints | assumption); (case q422h => with_unfolding_all rfl)); rotate_left; rotate_left; intro _ _ _ _ _; (try k_sweep))
  k_with "my dropN" => first | k_asm | (refine' cb_drop ?q423cbN ?q423cbS; (case q423cbN => assumption); (case q423cbS => kcj_all))
  k_with "my sides" => (all_goals try (show Side _; unfold Side; first | assumption | omega | (simp only [List.length_cons, List.length_nil]; omega) | (simp only [List.length_append, List.length_map, List.length_cons, List.length_nil]; omega) | decide))
  k_with "my cx" => exact ⟨by k_asm, by k_asm, by k_asm, by k_asm, by k_asm, by first | exact rfl | assumption⟩
  k_with "my exec For Name Call cons nil" => (k_here; refine Stop.mk ?_)
  k_with "my exec For Name Name cons nil" => (k_here; refine Stop.mk ?_)
  k_with "my pyIter ref" => ((with_reducible show wpAny _ _ (pyIter (Value.ref _)) (fun it s₂ => LoopAtV _ _ _ _ _ _ _ _ _ it s₂) _ _); refine Stop.mk ?_)
  k_with "my InvPostN" => (dsimp only [InvPostN])
  k_with "my InvEndN" => (refine Stop.mk ?_)
  k_with "my call builtin:list.append" => (k_here; (with_reducible show wpAny _ _ (call (Value.builtin _) [Value.ref _, _]) _ _ _); k_dflt (refine' append_h (by k_asm) (by k_asm) (Side.out ?_) (Side.out ?_) ?_); rotate_left; rotate_left; intro _ _ _ _; (try k_sweep))
  k_with "my frameSame" => (intro _ h1 h2 h3; (try simp only [List.forall_mem_cons, List.not_mem_nil, false_implies, implies_true, and_true, ne_eq] at h2); (try simp only [List.contains_cons, List.contains_nil, Bool.or_false, Bool.or_eq_false_iff, beq_eq_false_iff_ne, ne_eq] at h3); first | (simp [kstB, h1, h2, h3]; done) | (simp [kstB, h1, h3]; done) | (simp [kstB, h1, h2]; done) | (simp [kstB, h1]; done))
  k_with "my memNil" => exact (fun _ h => nomatch h)
  k_with "my memL" => first | assumption | exact List.Mem.head _ | (refine List.Mem.tail _ ?_; walk_at "memL") | (refine List.mem_append.mpr (.inr ?_); walk_at "memL") | (refine List.mem_append.mpr (.inl ?_); walk_at "memL")
  k_with "my isL" => exact newsList (by k_asm) (by walk_at "memL")
  k_with "my call builtin:len" => (k_here; (with_reducible show wpAny _ _ (call (Value.builtin "len") [Value.ref _]) _ _ _); (refine len_l (by walk_at "isL") (Side.out ?_) ?_; rotate_left; intro _ _))
  k_with "my subscriptTail" => (k_here; (with_reducible show wpAny _ _ (subscriptTail _ _ (Value.ref _) (Value.int _ _)) _ _ _); (refine item_l (by walk_at "isL") (by assumption) (Side.out ?_) (Side.out ?_) (Side.out ?_) ?_; rotate_left; rotate_left; rotate_left; intro _))
  k_with "my subscriptTail" => (k_here; (with_reducible show wpAny _ _ (subscriptTail _ (Expr.Slice _ _ none _) (Value.ref _) (Value.ref _)) _ _ _); (with_reducible rename Fr _ _ _ _ => F'); (with_reducible rename News _ _ _ _ => N'); (refine slice_l (s := ⟨_, _, _, _, _⟩) F' N' (newsList N' (by walk_at "memL")) (by constructor) (by constructor) (Side.out ?_) ?_; rotate_left; intro _ _ F' N' _))
  k_with "my binaryOp Add ref ref" => (k_here; (refine add_l (by k_asm) (by k_asm) (by walk_at "isL") (by walk_at "isL") (Side.out ?_) ?_; rotate_left; intro _ _ _ _ _))
  k_with "my call builtin:list.extend" => (k_here; k_dflt (refine' extend_h (by k_asm) (by k_asm) (Side.out ?_) (Side.out ?_) (Side.out ?_) ?_); rotate_left; rotate_left; rotate_left; intro _ _ _ _; (try k_sweep))
  k_with "my call builtin:list.extend" => (k_here; k_dflt (refine' extend_3 (by k_asm) (by k_asm) (Side.out ?_) ?q441k3 (Side.out ?_) ?_; (case q441k3 => rename ∀ p : Addr × Obj, p ∈ _ → p.1 < _ => lS; exact fun e => absurd (lS _ (List.Mem.tail _ (List.Mem.head _))) (by rw [e]; exact Nat.lt_irrefl _))); rotate_left; rotate_left; intro _ _ _ _; (try k_sweep))
  k_with "my subscriptTail Name Slice ref ref" => (k_here; (with_reducible rename Fr _ _ _ _ => F'); (with_reducible rename News _ _ _ _ => N'); (refine slice_l (s := ⟨_, _, _, _, _⟩) F' N' (newsList N' (by walk_at "memL")) (by constructor) (by constructor) (Side.out ?_) ?_; rotate_left; intro _ _ F' N' _))
  k_with "my exec For Tuple Call cons nil" => (k_here; refine Stop.mk ?_)
  k_with "my exec For Tuple Call" => (k_here; refine Stop.mk ?_)
  k_with "my call type:enumerate" => (k_here; refine Stop.mk ?_)
  k_with "my ascLit" => first | exact asc_eq | exact asc_empty | exact asc_crlf | exact rfl
  k_with "my binaryOp Add str str" => (k_here; refine add_t (by walk_at "ascLit") (by walk_at "ascLit") (Side.out ?_) ?_; rotate_left; intro _ _)
  k_with "my call builtin:chr" => (k_here; refine chr_t ?_; intro _ _)
  k_with "my subscriptTail" => (k_here; (with_reducible show wpAny _ _ (subscriptTail _ _ (Value.str (Str.ofString _) _) (Value.int _ _)) _ _ _); (refine item_hex (by omega) (by omega) ?_; intro _ _))
  k_with "my fromD" => first | exact FromD.head | (apply FromD.tail; walk_at "fromD")
  k_with "my call builtin:list.append" => (k_here; (with_reducible show wpAny _ _ (call (Value.builtin _) [Value.ref _, Value.str _ _]) _ _ _); k_dflt (refine' append_f (by k_asm) (by k_asm) ?q451k3 (Side.out ?_) (Side.out ?_) ?_; (case q451k3 => walk_at "fromD")); rotate_left; rotate_left; intro _ _ _ _)
  trivial
section
variable {w : World} {mean : ExcName → Option Value} {mg mb : Str → Option Value} {dp un : Nat} {gd : Option (List Code)} {cn : Str} {cs : Scope} {a : Addr} {ccd : Value} {cl : List (Str × Addr)} {outer : List Env} {A₀ : Around} {base h₀ : Heap} {L : Addr} {m : Str → Option Value} {news : List (Addr × Obj)} {s : Shared} {Q E : Value → Shared → Prop}
noncomputable def lawSelf (c : Nat) (last : Bool) : Bool := ((c == 9 || c == 32) || (decide (33 ≤ c) && decide (c < 127))) && c != 61 && !((c == 9 || c == 32) && last)
noncomputable def lawPiece (c : UInt8) (last : Bool) : List UInt8 := if lawSelf c.toNat last then [c] else quotedCode c.toNat
noncomputable def lawPieces (x : List UInt8) : List (List UInt8) := (List.range x.length).map fun i => lawPiece (x.getD i 0) (i + 1 == x.length)
theorem law_step {vs : List Value} {x : List UInt8} {i : Nat} {p : List UInt8} {t : Tok} (hP : StrsAre vs (((lawPieces x).take i).map asc)) (hi : i < x.length) (e : lawPiece (x.getD i 0) (i + 1 == x.length) = p) :
    StrsAre (vs ++ [.str (asc p) t]) (((lawPieces x).take (i + 1)).map asc) := by
  have e1 : (lawPieces x).take (i + 1) = (lawPieces x).take i ++ [p] := by
    rw [List.take_add_one]
    have : (lawPieces x)[i]? = some p := by
      unfold lawPieces
      rw [List.getElem?_map, List.getElem?_range hi, Option.map_some, e]
    rw [this]
    rfl
  rw [e1, List.map_append]
  exact hP.append' (.cons _ _ .nil)
theorem law_self {c : UInt8} {last : Bool} (h : lawSelf c.toNat last = true) : lawPiece c last = [c] := by
  unfold lawPiece
  rw [if_pos h]
theorem law_quote {c : UInt8} {last : Bool} (h : lawSelf c.toNat last = false) : lawPiece c last = [61] ++ [hexSign (((c.toNat : Nat) : Int) / 16).toNat] ++ [hexSign (((c.toNat : Nat) : Int) % 16).toNat] := by
  unfold lawPiece
  rw [if_neg (by rw [h]; decide)]
  unfold quotedCode
  rw [show (((c.toNat : Nat) : Int) / 16).toNat = c.toNat / 16 by omega, show (((c.toNat : Nat) : Int) % 16).toNat = c.toNat % 16 by omega]
  rfl
theorem use_law_pieces (C : Cx w mean mg mb A₀ base outer h₀ L s.heap m news cs) (hd : dp + 1 < recursionLimit) (hu : un + 8 < cLine) {x : List UInt8} {t : Tok} (hx : x.length ≤ 16777215)
    (hret : ∀ D vs k h' tk', StrsAre vs ((lawPieces x).map asc) → Fr h₀ L h' m → News h₀ L h' ((D, listOf vs.toArray k) :: news) → (∀ p ∈ news, p.1 < D) → Q (.ref D) { s with heap := h', toks := tk' }) :
    wpAny (model PySem.Challenge.rw_no0355_01.row.toRowW.prog w) (ktrTop dp un gd cn cs L a ccd cl outer) (call (.ref 158) [.bytes x.toArray t]) Q E s := by
  obtain ⟨B, F, X, N, T, hk⟩ := C
  refine wpAny_call ?_
  k_dflt cell_enter
  rename Fr _ _ _ _ => F1
  replace F1 : Fr _ _ _ (fun y => List.lookup y [(Str.ofString "line", Value.bytes x.toArray t)]) := F1
  k_steps
  walk_at "sides"
  unfold Stop
  refine For_pair3F (by k_asm) rfl rfl rfl rfl ?_ (fun _ => rfl)
  k_steps
  walk_at "sides"
  unfold Stop
  rename News _ _ _ _ => NN
  rename ∀ p ∈ news, p.1 < _ => lN
  refine lq_enum NN (fun _ : Unit => []) [Str.ofString "at", "is_last_white", "is_itself"] (fun i vs _ => StrsAre vs (((lawPieces x).take i).map asc)) rfl ?_ (by k_asm) ⟨(), ?_, ?_⟩ rfl ?_ ?_
  · exact fun p hp => Nat.ne_of_lt (lN p hp)
  · walk_at "memNil"
  · exact .nil
  · rintro i vs k _ ti tc u hh tk tl hi htl hrt hP F1 N1
    clear NN
    have hb8 := byte_lt (x.getD i 0)
    have hlen := hP.length
    rw [List.length_map, List.length_take] at hlen
    refine wp_hide ?_
    intro QH hQH
    k_steps
    walk_at "sides"
    all_goals refine hQH _ _ ?_
    all_goals refine lp_done () (by k_asm) (by k_asm) (by walk_at "memNil") (by walk_at "frameSame") (law_step hP hi ?_)
    all_goals
      first
        | (refine law_self ?_
           clear hret B F X N T hP hrt
           simp only [List.any_cons, List.any_nil, Bool.or_false, Bool.or_eq_true, Bool.or_eq_false_iff, beq_iff_eq, beq_eq_false_iff_ne, ne_eq] at *
           unfold lawSelf
           simp only [Bool.and_eq_true, Bool.or_eq_true, Bool.not_eq_true', Bool.and_eq_false_iff, Bool.or_eq_false_iff, beq_iff_eq, bne_iff_ne, beq_eq_false_iff_ne, ne_eq, decide_eq_true_eq, decide_eq_false_iff_not]
           omega)
        | (refine law_quote ?_
           clear hret B F X N T hP hrt
           simp only [List.any_cons, List.any_nil, Bool.or_false, Bool.or_eq_true, Bool.or_eq_false_iff, beq_iff_eq, beq_eq_false_iff_ne, ne_eq] at *
           rw [← Bool.not_eq_true]
           unfold lawSelf
           simp only [Bool.and_eq_true, Bool.or_eq_true, Bool.not_eq_true', Bool.and_eq_false_iff, Bool.or_eq_false_iff, beq_iff_eq, bne_iff_ne, beq_eq_false_iff_ne, ne_eq, decide_eq_true_eq, decide_eq_false_iff_not]
           omega)
  · rintro vs k _ u hh tk hP F1 N1
    k_steps
    walk_at "sides"
    refine hret _ _ _ _ _ ?_ (by k_asm) (by k_asm) lN
    rw [List.take_of_length_le (by simp [lawPieces])] at hP
    exact hP
end
end
section
/- R10 -/
theorem rows_none_R10 : True := by
  k_with_none
  trivial
open Builtin

/-- the end of one element of a comprehension that changes nothing -/
noncomputable def QuietEnd (h₀ : Heap) (L : Addr) (m : Str → Option Value) (I : Addr) (oI : Obj) (C : Addr) (oC : Obj) (D : Addr) (oD : Obj) (news : List (Addr × Obj)) (Inv : Value → Prop) (s : Shared) (y : Value) (s₂ : Shared) : Prop :=
  ∃ h' tk, s₂ = { s with heap := h', toks := tk } ∧ Fr h₀ L h' m ∧ News h₀ L h' ((I, oI) :: (C, oC) :: (D, oD) :: news) ∧ Inv y
section
variable {prog : Program} {w : World} {A : Around} {E : Value → Shared → Prop} {s : Shared} {h₀ : Heap} {L : Addr} {m : Str → Option Value} {env : Env}
theorem quiet_end {I C D : Addr} {oI oC oD : Obj} {news : List (Addr × Obj)} {Inv : Value → Prop} {y : Value} {tk : Nat} {h' : Heap} (F : Fr h₀ L h' m) (N : News h₀ L h' ((I, oI) :: (C, oC) :: (D, oD) :: news)) (hi : Inv y) :
    QuietEnd h₀ L m I oI C oC D oD news Inv s y { s with heap := h', toks := tk } := ⟨h', tk, rfl, F, N, hi⟩
theorem comp_list {elt : Expr} {x : Str} {scope : Scope} {cl : List (Str × Addr)} {Fin : Shared → List Value → List (Addr × Obj) → Prop} {l : Addr} {ws : List Value} {k : Nat} {news : List (Addr × Obj)}
    (N : News h₀ L s.heap news) (Inv : Nat → List Value → Prop) (hm : (l, listOf ws.toArray k) ∈ news)
    (hh : A.handled = none) (F : Fr h₀ L s.heap m) (hn : ws.length ≤ 16777216) (h0 : Inv 0 [])
    (turn : ∀ i ys v I oI C oC D m₂ h tk (E' : Value → Shared → Prop), ws[i]? = some v → Inv i ys → LCg.NsObj oC m₂ → m₂ x = some v → Fr h₀ L h m → News h₀ L h ((I, oI) :: (C, oC) :: (D, LCg.lst ys) :: news) →
      LCg.Off3 I C D news → ((@Ne Nat I C) ∧ (@Ne Nat I D) ∧ (@Ne Nat C D)) →
      wpAny (model prog w) A (eval elt (compEnvC scope cl C env)) (QuietEnd h₀ L m I oI C oC D (LCg.lst ys) news (fun y => Inv (i + 1) (ys ++ [y])) { s with heap := h, toks := tk }) E' { s with heap := h, toks := tk })
    (done : ∀ g ys, Inv ws.length ys → Fin { s with heap := g } ys news) :
    LCg.CompSrc prog w A h₀ L m env elt x scope cl Fin (.ref l) s := by
  refine LCg.CompSrc.ledger hh F N hm (by rw [sizeLine_eq]; simpa using hn) fun g => ?_
  rw [List.size_toArray]
  have go : ∀ j i ys, i + j = ws.length → Inv i ys → LCg.CompRest prog w A h₀ L m env elt x scope cl { s with heap := g } (LCg.SrcAt h₀ l ws.toArray) (fun i v => ws.toArray[i]? = some v) (Fin { s with heap := g }) j i ys news := by
    intro j
    induction j with
    | zero =>
      intro i ys e hI
      rw [Nat.add_zero] at e
      subst e
      exact LCg.CompRest.zero (done g ys hI)
    | succ j ih =>
      intro i ys e hI
      refine LCg.CompRest.succ fun v I oI C oC D m₂ h tk E' hv hC hx F₁ N₁ off ne => ?_
      refine wpAny_mono (turn i ys v I oI C oC D m₂ h tk E' (by simpa using hv) hI hC hx F₁ N₁ off ne) (fun y s₂ q => ?_) fun _ _ e => e
      obtain ⟨h', tk', rfl, F', N', hI'⟩ := q
      exact ⟨h', tk', news, rfl, F', N', off, .inr ⟨_, hm, rfl, _, rfl⟩, ih (i + 1) _ (by omega) hI'⟩
  exact go ws.length 0 [] (Nat.zero_add _) h0
theorem comp_rangeT {ct elt : Expr} {x : Str} {scope : Scope} {cl : List (Str × Addr)} {Fin : Shared → List Value → List (Addr × Obj) → Prop} {r : Addr} {n : Nat} {news : List (Addr × Obj)} {t₀ u₀ v₀ : Tok} {b : Int}
    (N : News h₀ L s.heap news) (Inv : Nat → List Value → Prop)
    (hh : A.handled = none) (F : Fr h₀ L s.heap m) (hr : IsRange s.heap r 0 b 1 t₀ u₀ v₀) (hb : b = (n : Int)) (hn : n ≤ 16777216) (h0 : Inv 0 [])
    (turn : ∀ i ys t I oI C oC D m₂ h tk (E' : Value → Shared → Prop), i < n → Inv i ys → LCg.NsObj oC m₂ → m₂ x = some (.int (i : Int) t) → Fr h₀ L h m → News h₀ L h ((I, oI) :: (C, oC) :: (D, LCg.lst ys) :: news) →
      LCg.Off3 I C D news → ((@Ne Nat I C) ∧ (@Ne Nat I D) ∧ (@Ne Nat C D)) →
      wpAny (model prog w) A (isTrue ct (compEnvC scope cl C env) (eval ct (compEnvC scope cl C env))) (fun ok s' => if ok = true then
        wpAny (model prog w) A (eval elt (compEnvC scope cl C env)) (QuietEnd h₀ L m I oI C oC D (LCg.lst ys) news (fun y => Inv (i + 1) (ys ++ [y])) { s with heap := h, toks := tk }) E' s'
        else QuietEnd h₀ L m I oI C oC D (LCg.lst ys) news (fun _ => Inv (i + 1) ys) { s with heap := h, toks := tk } Value.none s') E' { s with heap := h, toks := tk })
    (done : ∀ g ys, Inv n ys → Fin { s with heap := g } ys news) :
    LCt.CompSrcT prog w A h₀ L m env ct elt x scope cl Fin (.ref r) s := by
  subst hb
  have hsmall : Builtin.Range.small 0 (n : Int) 1 = true := small_one (by omega) (by omega) (by omega) (by omega)
  have hsz : Builtin.Range.rangeSize 0 (n : Int) 1 = (n : Int) := by
    simp [Builtin.Range.rangeSize]; omega
  refine LCt.CompSrcT.range hh F N hr hsmall hsz (by rw [sizeLine_eq]; exact hn) fun g => ?_
  have go : ∀ j i ys, i + j = n → Inv i ys → LCt.CompRestT prog w A h₀ L m env ct elt x scope cl { s with heap := g } (fun _ => True) (fun i v => ∃ t, v = .int (0 + (i : Int)) t) (Fin { s with heap := g }) j i ys news := by
    intro j
    induction j with
    | zero =>
      intro i ys e hI
      rw [Nat.add_zero] at e
      subst e
      exact LCt.CompRestT.zero (done g ys hI)
    | succ j ih =>
      intro i ys e hI
      refine LCt.CompRestT.succ fun v I oI C oC D m₂ h tk E' hv hC hx F₁ N₁ off ne => ?_
      obtain ⟨t, rfl⟩ := hv
      rw [Int.zero_add] at hx
      refine wpAny_mono (turn i ys t I oI C oC D m₂ h tk E' (by omega) hI hC hx F₁ N₁ off ne) (fun ok s₂ q => ?_) fun _ _ e => e
      cases ok with
      | true =>
        simp only [if_true] at q ⊢
        refine wpAny_mono q (fun y s₃ q => ?_) fun _ _ e => e
        obtain ⟨h', tk', rfl, F', N', hI'⟩ := q
        exact ⟨h', tk', news, rfl, F', N', off, trivial, ih (i + 1) _ (by omega) hI'⟩
      | false =>
        simp only [Bool.false_eq_true, if_false] at q ⊢
        obtain ⟨h', tk', rfl, F', N', hI'⟩ := q
        exact ⟨h', tk', news, rfl, F', N', off, trivial, ih (i + 1) _ (by omega) hI'⟩
  exact go n 0 [] (Nat.zero_add _) h0
theorem copy_l {l : Addr} {vs : List Value} {k : Nat} {news : List (Addr × Obj)} {Q : Value → Shared → Prop} (F : Fr h₀ L s.heap m) (N : News h₀ L s.heap news) (hm : (l, listOf vs.toArray k) ∈ news) (hz : vs.length ≤ 16777216)
    (h : ∀ D c h', Fr h₀ L h' m → News h₀ L h' ((D, listOf vs.toArray c) :: news) → (∀ q ∈ news, q.1 < D) → Q (.ref D) { s with heap := h' }) : wpAny (model prog w) A (call (.type "list") [.ref l]) Q E s :=
  list_copyK F N (newsList N hm) h (by rw [sizeLine_eq]; simpa using hz)
end
end
section
/- R11 -/
theorem rows_none_R11 : True := by
  k_with_none
  trivial
open Builtin
theorem part_to {α : Type} (x : List α) (b : Nat) : part x none (some (b : Int)) = x.take b := by
  unfold part
  simp only [Option.elim, clipAt_nat, List.drop_zero, Nat.sub_zero]
  rcases Nat.le_total b x.length with h | h
  · rw [Nat.min_eq_left h]
  · rw [Nat.min_eq_right h, List.take_length, List.take_of_length_le h]
theorem strsAre_part {vs : List Value} {ys : List (List UInt8)} {b : Nat} (h : StrsAre vs (ys.map asc)) : StrsAre (part vs none (some (b : Int))) ((ys.take b).map asc) := by
  rw [part_to, List.map_take]
  exact h.take' b
theorem strsAre_from {vs : List Value} {ys : List (List UInt8)} {b : Nat} (h : StrsAre vs (ys.map asc)) : StrsAre (part vs (some (b : Int)) none) ((ys.drop b).map asc) := by
  have e : part vs (some (b : Int)) none = vs.drop b := by
    unfold part
    simp only [Option.elim, clipAt_nat]
    rcases Nat.le_total b vs.length with h | h
    · rw [Nat.min_eq_left h, List.take_of_length_le (by rw [List.length_drop]; omega)]
    · rw [Nat.min_eq_right h, List.drop_eq_nil_of_le (Nat.le_refl _), List.drop_eq_nil_of_le h, List.take_nil]
  rw [e, List.map_drop]
  exact h.drop' b
noncomputable def joinL (sep : List UInt8) : List (List UInt8) → List UInt8
  | [] => []
  | [x] => x
  | x :: y :: r => x ++ sep ++ joinL sep (y :: r)
theorem join_asc (sep : List UInt8) : ∀ xs : List (List UInt8), Str.join (asc sep) (xs.map asc) = asc (joinL sep xs)
  | [] => by rfl
  | [x] => rfl
  | x :: y :: r => by
    have ih := join_asc sep (y :: r)
    show asc x ++ asc sep ++ Str.join (asc sep) ((y :: r).map asc) = _
    rw [ih, asc_append, asc_append]
    rfl
theorem joinL_nil : ∀ xs : List (List UInt8), joinL [] xs = xs.flatten
  | [] => rfl
  | [x] => by simp [joinL]
  | x :: y :: r => by
    have ih := joinL_nil (y :: r)
    show x ++ [] ++ joinL [] (y :: r) = _
    rw [ih]
    simp
theorem map_asc_len (xs : List (List UInt8)) : ((xs.map asc).map (·.length)).sum = xs.flatten.length := by
  induction xs with
  | nil => rfl
  | cons x r ih => simp only [List.map_cons, List.sum_cons, List.flatten_cons, List.length_append, asc_length, ih]
section
variable {prog : Program} {w : World} {A : Around} {E : Value → Shared → Prop} {s : Shared} {Q : Value → Shared → Prop} {l : Addr} {vs : List Value} {xs : List (List UInt8)} {sep : List UInt8} {X : Str} {t : Tok}
theorem join_t (hl : s.heap.IsList l vs.toArray) (hi : StrsAre vs (xs.map asc)) (ex : X = asc sep) (hs : sep.length ≤ 2) (hz : xs.flatten.length + xs.length * 2 ≤ 16777216) (h : ∀ t' k, Q (.str (asc (joinL sep xs)) t') { s with toks := k }) :
    wpAny (model prog w) A (call (.builtin "str.join") [.str X t, .ref l]) Q E s := by
  subst ex
  refine join_list hl (by simpa using hi) ?_ fun t' k => ?_
  · rw [map_asc_len, asc_length, List.length_map]
    have := Nat.mul_le_mul_left xs.length hs
    omega
  · show Q (.str (Builtin.Str.glued _ _) t') _
    rw [StrLaws.glued_eq_join, join_asc]
    exact h t' k
end
end
section
/- D5 -/
open Builtin
theorem filledD5 : hd.heap_1 = hd.heap_1 ∧ PySem.Challenge.rw_no0355_01 = PySem.Challenge.rw_no0355_01 := by
  k_fill
  exact ⟨rfl, rfl⟩
theorem rows_14 : True := by
  k_with_none
  k_with "my getMethod bytes" => (k_here; first | refine method_b slot_bytes_find type_bytes_find ?_ | refine method_b slot_bytes_index type_bytes_index ?_ | refine method_b slot_bytes_lower type_bytes_lower ?_ | refine method_b slot_bytes_rstrip type_bytes_rstrip ?_ | refine method_b slot_bytes_split type_bytes_split ?_ | refine method_b slot_bytes_join type_bytes_join ?_)
  k_with "my call builtin:bytes.find" => (k_here; first | refine call_find3 ?_ | refine call_find2 ?_; intro _ _)
  k_with "my call builtin:bytes.lower" => (k_here; refine call_lower (Side.out ?_) ?_; rotate_left; intro _ _)
  k_with "my call builtin:bytes.rstrip" => (k_here; refine call_rstrip (Side.out ?_) ?_; rotate_left; intro _ _)
  k_with "my binaryOp Add bytes bytes" => (k_here; refine add_b (Side.out ?_) ?_; rotate_left; intro _ _)
  k_with "my subscriptTail" => (k_here; (with_reducible show wpAny _ _ (subscriptTail _ _ (Value.bytes (List.toArray _) _) (Value.int _ _)) _ _ _); (refine item_b (Side.out ?_) (Side.out ?_) (Side.out ?_) ?_; rotate_left; rotate_left; rotate_left; intro _ _))
  k_with "my subscriptTail" => (k_here; (with_reducible show wpAny _ _ (subscriptTail _ (Expr.Slice _ _ none _) (Value.bytes (List.toArray _) _) (Value.ref _)) _ _ _); (with_reducible rename Fr _ _ _ _ => F'); (with_reducible rename News _ _ _ _ => N'); (refine slice_b (s := ⟨_, _, _, _, _⟩) F' N' (by constructor) (by constructor) (Side.out ?_) ?_; rotate_left; intro _ _ _ _ _))
  k_with "my call builtin:len" => (k_here; (with_reducible show wpAny _ _ (call (Value.builtin "len") [Value.bytes (List.toArray _) _]) _ _ _); (refine len_b (Side.out ?_) ?_; rotate_left; intro _ _))
  k_with "my binaryOp FloorDiv int int" => (k_here; refine fdiv_i (by first | decide | omega) (by exact PyProof.noPylong_small (by omega)) ?_; intro _ _)
  k_with "my binaryOp Mod int int" => (k_here; refine fmod_i (by first | decide | omega) ?_; intro _ _)
  k_with "my call type:bytes" => (k_here; (with_reducible show wpAny _ _ (call (Value.type _) [Value.ref _]) _ _ _); k_dflt (refine' bytes_d (by k_asm) (by k_asm) ?q462i (Side.out ?_) (Side.out ?_) ?q462h ?_; (case q462i => first | l_ints | assumption); (case q462h => with_unfolding_all rfl)); rotate_left; rotate_left; intro _ _ _ _ _; (try k_sweep))
  k_with "my dropN" => first | k_asm | (refine' cb_drop ?q463cbN ?q463cbS; (case q463cbN => assumption); (case q463cbS => kcj_all))
  k_with "my sides" => (all_goals try (show Side _; unfold Side; first | assumption | omega | (simp only [List.length_cons, List.length_nil]; omega) | (simp only [List.length_append, List.length_map, List.length_cons, List.length_nil]; omega) | decide))
  k_with "my cx" => exact ⟨by k_asm, by k_asm, by k_asm, by k_asm, by k_asm, by first | exact rfl | assumption⟩
  k_with "my exec For Name Call cons nil" => (k_here; refine Stop.mk ?_)
  k_with "my exec For Name Name cons nil" => (k_here; refine Stop.mk ?_)
  k_with "my pyIter ref" => ((with_reducible show wpAny _ _ (pyIter (Value.ref _)) (fun it s₂ => LoopAtV _ _ _ _ _ _ _ _ _ it s₂) _ _); refine Stop.mk ?_)
  k_with "my InvPostN" => (dsimp only [InvPostN])
  k_with "my InvEndN" => (refine Stop.mk ?_)
  k_with "my call builtin:list.append" => (k_here; (with_reducible show wpAny _ _ (call (Value.builtin _) [Value.ref _, _]) _ _ _); k_dflt (refine' append_h (by k_asm) (by k_asm) (Side.out ?_) (Side.out ?_) ?_); rotate_left; rotate_left; intro _ _ _ _; (try k_sweep))
  k_with "my frameSame" => (intro _ h1 h2 h3; (try simp only [List.forall_mem_cons, List.not_mem_nil, false_implies, implies_true, and_true, ne_eq] at h2); (try simp only [List.contains_cons, List.contains_nil, Bool.or_false, Bool.or_eq_false_iff, beq_eq_false_iff_ne, ne_eq] at h3); first | (simp [kstB, h1, h2, h3]; done) | (simp [kstB, h1, h3]; done) | (simp [kstB, h1, h2]; done) | (simp [kstB, h1]; done))
  k_with "my memNil" => exact (fun _ h => nomatch h)
  k_with "my memL" => first | assumption | exact List.Mem.head _ | (refine List.Mem.tail _ ?_; walk_at "memL") | (refine List.mem_append.mpr (.inr ?_); walk_at "memL") | (refine List.mem_append.mpr (.inl ?_); walk_at "memL")
  k_with "my isL" => exact newsList (by k_asm) (by walk_at "memL")
  k_with "my call builtin:len" => (k_here; (with_reducible show wpAny _ _ (call (Value.builtin "len") [Value.ref _]) _ _ _); (refine len_l (by walk_at "isL") (Side.out ?_) ?_; rotate_left; intro _ _))
  k_with "my subscriptTail" => (k_here; (with_reducible show wpAny _ _ (subscriptTail _ _ (Value.ref _) (Value.int _ _)) _ _ _); (refine item_l (by walk_at "isL") (by assumption) (Side.out ?_) (Side.out ?_) (Side.out ?_) ?_; rotate_left; rotate_left; rotate_left; intro _))
  k_with "my subscriptTail" => (k_here; (with_reducible show wpAny _ _ (subscriptTail _ (Expr.Slice _ _ none _) (Value.ref _) (Value.ref _)) _ _ _); (with_reducible rename Fr _ _ _ _ => F'); (with_reducible rename News _ _ _ _ => N'); (refine slice_l (s := ⟨_, _, _, _, _⟩) F' N' (newsList N' (by walk_at "memL")) (by constructor) (by constructor) (Side.out ?_) ?_; rotate_left; intro _ _ F' N' _))
  k_with "my binaryOp Add ref ref" => (k_here; (refine add_l (by k_asm) (by k_asm) (by walk_at "isL") (by walk_at "isL") (Side.out ?_) ?_; rotate_left; intro _ _ _ _ _))
  k_with "my call builtin:list.extend" => (k_here; k_dflt (refine' extend_h (by k_asm) (by k_asm) (Side.out ?_) (Side.out ?_) (Side.out ?_) ?_); rotate_left; rotate_left; rotate_left; intro _ _ _ _; (try k_sweep))
  k_with "my call builtin:list.extend" => (k_here; k_dflt (refine' extend_3 (by k_asm) (by k_asm) (Side.out ?_) ?q481k3 (Side.out ?_) ?_; (case q481k3 => rename ∀ p : Addr × Obj, p ∈ _ → p.1 < _ => lS; exact fun e => absurd (lS _ (List.Mem.tail _ (List.Mem.head _))) (by rw [e]; exact Nat.lt_irrefl _))); rotate_left; rotate_left; intro _ _ _ _; (try k_sweep))
  k_with "my subscriptTail Name Slice ref ref" => (k_here; (with_reducible rename Fr _ _ _ _ => F'); (with_reducible rename News _ _ _ _ => N'); (refine slice_l (s := ⟨_, _, _, _, _⟩) F' N' (newsList N' (by walk_at "memL")) (by constructor) (by constructor) (Side.out ?_) ?_; rotate_left; intro _ _ F' N' _))
  k_with "my neA" => first | assumption | (refine Ne.symm ?_; assumption) | exact neOf (by assumption) | exact Ne.symm (neOf (by assumption)) | (show (_ : Nat) ≠ _; (try dsimp only); omega)
  k_with "my offA" => first | assumption | exact List.forall_mem_nil _ | (refine List.forall_mem_cons.mpr ⟨?_, ?_⟩; (focus walk_at "neA"); (focus walk_at "offA")) | exact offTail (by assumption) (by omega)
  k_with "my updA" => first | (refine' UpdF.head ?q485a; (case q485a => walk_at "offA")) | (refine' UpdF.tail ?q485a ?q485b; (case q485a => walk_at "neA"); (case q485b => walk_at "updA"))
  k_with "my storeName" => (k_here; k_dflt (refine' storeX_C (by k_asm) (by k_asm) ?q486c ?q486U ?q486d ?_ ?q486a ?q486b; (case q486a => rfl); (case q486b => rfl); (case q486c => rfl); (case q486U => walk_at "updA"); (case q486d => k_asm); k_whole); intro _ _ _ N' _; (try dsimp only at N'))
  k_with "my CompSrc" => (k_here; refine Stop.mk ?_)
  k_with "my penA" => first | (refine' PenAt.head ?q488a; (case q488a => walk_at "offA")) | (refine' PenAt.tail ?q488a ?q488b; (case q488a => walk_at "neA"); (case q488b => walk_at "penA"))
  k_with "my call ref" => (k_here; k_dflt (refine' use_drawU (by walk_at "cx") ?q489kU (by ktr_room) (by ktr_units) ?q489kc (by assumption) (Side.out ?_) (by decide) (by decide) (Side.out ?_) (Side.out ?_) ?_; (case q489kU => walk_at "penA"); (case q489kc => walk_at "memL")); rotate_left; rotate_left; rotate_left; intro _ _ _ _ _ _ _ _ _ _ _)
  k_with "my bsLit" => first | assumption | exact BsAre.nil | (apply BsAre.cons; walk_at "bsLit")
  k_with "my subscriptTail" => (k_here; (with_reducible show wpAny _ _ (subscriptTail _ _ (Value.ref _) (Value.int _ _)) _ _ _); (refine item_l (by exact newsList (by k_asm) (by walk_at "memL")) (by walk_at "bsLit") (Side.out ?_) (Side.out ?_) (Side.out ?_) ?_; rotate_left; rotate_left; rotate_left; intro _))
  k_with "my PenEnd" => (refine Stop.mk ?_)
  k_with "my exec For Tuple Call cons nil" => (k_here; refine Stop.mk ?_)
  k_with "my exec For Tuple Call" => (k_here; refine Stop.mk ?_)
  k_with "my call type:enumerate" => (k_here; refine Stop.mk ?_)
  k_with "my ascLit" => first | exact asc_eq | exact asc_empty | exact asc_crlf | exact rfl
  k_with "my binaryOp Add str str" => (k_here; refine add_t (by walk_at "ascLit") (by walk_at "ascLit") (Side.out ?_) ?_; rotate_left; intro _ _)
  k_with "my call builtin:chr" => (k_here; refine chr_t ?_; intro _ _)
  k_with "my subscriptTail" => (k_here; (with_reducible show wpAny _ _ (subscriptTail _ _ (Value.str (Str.ofString _) _) (Value.int _ _)) _ _ _); (refine item_hex (by omega) (by omega) ?_; intro _ _))
  k_with "my fromD" => first | exact FromD.head | (apply FromD.tail; walk_at "fromD")
  k_with "my call builtin:list.append" => (k_here; (with_reducible show wpAny _ _ (call (Value.builtin _) [Value.ref _, Value.str _ _]) _ _ _); k_dflt (refine' append_f (by k_asm) (by k_asm) ?q501k3 (Side.out ?_) (Side.out ?_) ?_; (case q501k3 => walk_at "fromD")); rotate_left; rotate_left; intro _ _ _ _)
  k_with "my exec While Compare" => (k_here; refine Stop.mk ?_)
  k_with "my exec While Constant" => (k_here; refine Stop.mk ?_)
  k_with "my exec While Compare cons nil" => (k_here; refine Stop.mk ?_)
  k_with "my exec While" => (k_here; refine Stop.mk ?_)
  k_with "my whSame" => (intro _ h2 h3; (try simp only [List.forall_mem_cons, List.not_mem_nil, false_implies, implies_true, and_true, ne_eq] at h2); (try simp only [List.contains_cons, List.contains_nil, Bool.or_false, Bool.or_eq_false_iff, beq_eq_false_iff_ne, ne_eq] at h3); first | (simp [kstB, h2, h3]; done) | (simp [kstB, h3]; done) | (simp [kstB, h2]; done) | (simp [kstB]; done))
  k_with "my call builtin:list.append" => (k_here; (with_reducible show wpAny _ _ (call (Value.builtin _) [Value.ref _, Value.ref _]) _ _ _); k_dflt (refine' append_2 (by k_asm) (by k_asm) (Side.out ?_) ?q507k3 (Side.out ?_) ?_; (case q507k3 => rename _ < _ ∧ AllLt _ _ => q; exact q.1)); rotate_left; rotate_left; intro _ _ _ _; (try k_sweep))
  k_with "my CompSrcT" => (k_here; refine Stop.mk ?_)
  k_with "my QuietEnd" => (refine Stop.mk ?_)
  k_with "my call builtin:len" => (k_here; (with_reducible show wpAny _ _ (call (Value.builtin "len") [Value.str (asc _) _]) _ _ _); (refine len_t (Side.out ?_) ?_; rotate_left; intro _ _))
  k_with "my call type:list" => (k_here; (with_reducible show wpAny _ _ (call (Value.type _) [Value.ref _]) _ _ _); k_dflt (refine' copy_l (by k_asm) (by k_asm) ?q511k3 (Side.out ?_) ?_; (case q511k3 => walk_at "memL")); rotate_left; intro _ _ _ _ _ l1; (try k_lt l1))
  k_with "my call builtin:sum" => (k_here; (with_reducible show wpAny _ _ (call (Value.builtin "sum") [Value.ref _]) _ _ _); k_dflt (refine' PyProof.Rows.LSm.sum_ints (by k_asm) (by k_asm) ?q512k0 ?q512k3 (by assumption) ?_; (case q512k0 => with_unfolding_all rfl); (case q512k3 => exact newsList (by k_asm) (by walk_at "memL"))); intro _ _ _ _ _)
  k_with "my call builtin:str.join" => (k_here; (with_reducible show wpAny _ _ (call (Value.builtin "str.join") [Value.str _ _, Value.ref _]) _ _ _); k_dflt (refine' join_t ?q513kl ?q513ki ?q513kx ?q513kd (Side.out ?_) ?_; (case q513kl => exact newsList (by k_asm) (by walk_at "memL")); (case q513ki => first | assumption | exact strsAre_part (by assumption)); (case q513kx => walk_at "ascLit"); (case q513kd => decide)); rotate_left; intro _ _)
  trivial
section
variable {w : World} {mean : ExcName → Option Value} {mg mb : Str → Option Value} {dp un : Nat} {gd : Option (List Code)} {cn : Str} {cs : Scope} {a : Addr} {ccd : Value} {cl : List (Str × Addr)} {outer : List Env} {A₀ : Around} {base h₀ : Heap} {L : Addr} {m : Str → Option Value} {news : List (Addr × Obj)} {s : Shared} {Q E : Value → Shared → Prop}
noncomputable def lens (ys : List (List UInt8)) : List Int := ys.map fun y => (y.length : Int)
/-- how many pieces the law puts on one line -/
noncomputable def IsMany (w : Nat) (ys : List (List UInt8)) (M : Nat) : Prop := M < w ∧ (lens (ys.take M)).sum < w ∧ ∀ c, c < w → (lens (ys.take c)).sum < w → c ≤ M
/-- the lines that the law lays -/
inductive LawFill (w : Nat) : List (List UInt8) → List (List UInt8) → Prop
  | stop {ys} : ¬ (lens (ys.take (w + 1))).sum > w → LawFill w ys [ys.flatten]
  | step {ys M ls} : (lens (ys.take (w + 1))).sum > w → IsMany w ys M → LawFill w (ys.drop M) ls → LawFill w ys (((ys.take M).flatten ++ [61]) :: ls)
structure FillS where
  vs : List Value
  k : Nat
  R : Addr
  rv : List Value
  kr : Nat
  ys : List (List UInt8)
  o : Obj
structure FillInv (wd : Nat) (xs : List (List UInt8)) (L' D : Addr) (c : FillS) : Prop where
  cell : c.o.data = .cell (some (.ref c.R))
  rest : StrsAre c.rv (c.ys.map asc)
  small : ∀ y ∈ c.ys, 1 ≤ y.length ∧ y.length ≤ 3
  run : ∃ pre, StrsAre c.vs (pre.map asc) ∧ pre.length + c.ys.length ≤ xs.length ∧ ∀ ls, LawFill wd c.ys ls → LawFill wd xs (pre ++ ls)
  hR : @LT.lt Nat _ (L' + 1 + 1) c.R
  hD : @LT.lt Nat _ (L' + 1 + 1) D
  hRD : @Ne Nat c.R D
theorem getElem?_map_inv {ys : List (List UInt8)} {i : Nat} {Y : Str} (h : (ys.map asc)[i]? = some Y) : ∃ y, ys[i]? = some y ∧ asc y = Y := by
  rw [List.getElem?_map] at h
  exact Option.map_eq_some_iff.mp h
theorem lens_snoc {zs : List Value} {ys : List (List UInt8)} {i : Nat} {y : List UInt8} {t : Tok} (hy : ys[i]? = some y) (hz : IntsAre zs (lens (ys.take i))) : IntsAre (zs ++ [.int (y.length : Int) t]) (lens (ys.take (i + 1))) := by
  have e : lens (ys.take (i + 1)) = lens (ys.take i) ++ [(y.length : Int)] := by
    unfold lens
    rw [List.take_add_one, hy, List.map_append]
    rfl
  rw [e]
  exact hz.append (.cons _ _ .nil)
/-- the counts that fit on a line -/
noncomputable def cnt (w : Nat) (ys : List (List UInt8)) (n : Nat) : List Int := ((List.range n).filter fun c => decide ((lens (ys.take c)).sum < (w : Int))).map fun c : Nat => (c : Int)
theorem cnt_yes {w : Nat} {ys : List (List UInt8)} {i : Nat} {zs : List Value} {t : Tok} (hz : IntsAre zs (cnt w ys i)) (h : (lens (ys.take i)).sum < (w : Int)) : IntsAre (zs ++ [.int (i : Int) t]) (cnt w ys (i + 1)) := by
  have e : cnt w ys (i + 1) = cnt w ys i ++ [(i : Int)] := by
    unfold cnt
    rw [List.range_succ, List.filter_append, List.map_append, List.filter_cons_of_pos (by simpa using h)]
    rfl
  rw [e]
  exact hz.append (.cons _ _ .nil)
theorem cnt_no {w : Nat} {ys : List (List UInt8)} {i : Nat} {zs : List Value} (hz : IntsAre zs (cnt w ys i)) (h : ¬ (lens (ys.take i)).sum < (w : Int)) : IntsAre zs (cnt w ys (i + 1)) := by
  have e : cnt w ys (i + 1) = cnt w ys i := by
    unfold cnt
    rw [List.range_succ, List.filter_append, List.filter_cons_of_neg (by simpa using h)]
    simp
  rw [e]
  exact hz
theorem cnt_mem {w : Nat} {ys : List (List UInt8)} {M : Int} : M ∈ cnt w ys w ↔ ∃ c : Nat, M = (c : Int) ∧ c < w ∧ (lens (ys.take c)).sum < (w : Int) := by
  unfold cnt
  simp only [List.mem_map, List.mem_filter, List.mem_range, decide_eq_true_eq]
  constructor
  · rintro ⟨c, ⟨h1, h2⟩, rfl⟩
    exact ⟨c, rfl, h1, h2⟩
  · rintro ⟨c, rfl, h1, h2⟩
    exact ⟨c, ⟨h1, h2⟩, rfl⟩
section
variable {prog : Program} {A : Around} {l : Addr}
theorem max_many {vs : List Value} {wd : Nat} {ys : List (List UInt8)} (F : Fr h₀ L s.heap m) (N : News h₀ L s.heap news) (hl : s.heap.IsList l vs.toArray) (hi : IntsAre vs (cnt wd ys wd)) (hw : 0 < wd) (hh : A.handled = none)
    (h : ∀ h' (c : Nat) (t : Tok) tk, Fr h₀ L h' m → News h₀ L h' news → IsMany wd ys c → Q (.int (c : Int) t) { s with heap := h', toks := tk }) : wpAny (model prog w) A (call (.builtin "max") [.ref l]) Q E s := by
  have h0 : (0 : Int) ∈ cnt wd ys wd := cnt_mem.mpr ⟨0, rfl, hw, by simp [lens]; omega⟩
  refine kso_max F N hl hi (List.length_pos_of_mem h0) hh fun h' M t tk F' N' hM hle => ?_
  obtain ⟨c, rfl, h1, h2⟩ := cnt_mem.mp hM
  refine h h' c t tk F' N' ⟨h1, h2, fun c' h3 h4 => ?_⟩
  have := hle _ (cnt_mem.mpr ⟨c', rfl, h3, h4⟩)
  omega
end
theorem many_pos {wd c : Nat} {ys : List (List UInt8)} (hw : 4 ≤ wd) (h3 : ∀ y ∈ ys, 1 ≤ y.length ∧ y.length ≤ 3) (h : IsMany wd ys c) : 1 ≤ c := by
  refine h.2.2 1 (by omega) ?_
  cases ys with
  | nil => simp [lens]; omega
  | cons y r =>
    have := h3 y (.head _)
    simp [lens]; omega
theorem ys_pos {wd n : Nat} {ys : List (List UInt8)} (h : (wd : Int) < (lens (ys.take n)).sum) : 0 < ys.length := by
  cases ys with
  | nil => simp [lens] at h; omega
  | cons y r => simp
noncomputable abbrev manyOf {wd c : Nat} {ys : List (List UInt8)} (_ : IsMany wd ys c) : Nat := c
theorem fill_next {wd c : Nat} {xs ys pre : List (List UInt8)} (hrun : ∀ ls, LawFill wd ys ls → LawFill wd xs (pre ++ ls)) (hgt : (wd : Int) < (lens (ys.take (wd + 1))).sum) (hM : IsMany wd ys c) :
    ∀ ls, LawFill wd (ys.drop c) ls → LawFill wd xs ((pre ++ [joinL [] (ys.take c) ++ [61]]) ++ ls) := fun ls h => by
  rw [List.append_assoc, joinL_nil]
  exact hrun _ (.step hgt hM h)
theorem newsSwapDrop {h : Heap} {a b r : Addr × Obj} {tl : List (Addr × Obj)} (N : News h₀ L h (a :: b :: r :: tl)) : News h₀ L h (b :: a :: tl) := fun p hp => by
  rcases List.mem_cons.mp hp with rfl | hp
  · exact N _ (.tail _ (.head _))
  · rcases List.mem_cons.mp hp with rfl | hp
    · exact N _ (.head _)
    · exact N _ (.tail _ (.tail _ (.tail _ hp)))
theorem take_flat3 {ys : List (List UInt8)} (c : Nat) (h : ys.flatten.length ≤ 3 * ys.length) : (ys.take c).flatten.length ≤ 3 * ys.length ∧ (ys.take c).length ≤ ys.length := by
  have e : ys.flatten.length = (ys.take c).flatten.length + (ys.drop c).flatten.length := by
    conv => lhs; rw [← List.take_append_drop c ys, List.flatten_append, List.length_append]
  constructor
  · omega
  · rw [List.length_take]; omega
theorem rows_15 : True := by
  k_with "my call builtin:max" => (k_here; (with_reducible show wpAny _ _ (call (Value.builtin _) [Value.ref _]) _ _ _); k_dflt (refine' max_many (by k_asm) (by k_asm) ?q514k3 (by assumption) (by omega) ?q514k6 ?_; (case q514k3 => exact newsList (by k_asm) (by walk_at "memL")); (case q514k6 => with_unfolding_all rfl)); intro _ _ _ _ _ _ _)
  k_with "my subscriptTail Name Slice ref ref" => (k_here; (with_reducible rename Fr _ _ _ _ => F'); (with_reducible rename News _ _ _ _ => N'); (refine slice_l (s := ⟨_, _, _, _, _⟩) F' N' (newsList N' (by walk_at "memL")) (by constructor) (by constructor) (Side.out ?_) ?_; rotate_left; intro _ _ F' N' l1; (try k_lt l1)))
  trivial
theorem use_filled (C : Cx w mean mg mb A₀ base outer h₀ L s.heap m news cs) (hd : dp + 1 < recursionLimit) (hu : un + 8 < cLine) {ps : List Value} {xs : List (List UInt8)} {Pa : Addr} {k : Nat} {wd : Nat} {t : Tok}
    (hm : (Pa, listOf ps.toArray k) ∈ news) (hb : StrsAre ps (xs.map asc)) (h3 : ∀ x ∈ xs, 1 ≤ x.length ∧ x.length ≤ 3) (hw4 : 4 ≤ wd) (hw : wd ≤ 1000) (hn : xs.length ≤ 1000000)
    (hret : ∀ D vs k ls h' tk', LawFill wd xs ls → StrsAre vs (ls.map asc) → Fr h₀ L h' m → News h₀ L h' ((D, listOf vs.toArray k) :: news) → (∀ p ∈ news, p.1 < D) → Q (.ref D) { s with heap := h', toks := tk' }) :
    wpAny (model PySem.Challenge.rw_no0355_01.row.toRowW.prog w) (ktrTop dp un gd cn cs L a ccd cl outer) (call (.ref 163) [.ref Pa, .int (wd : Int) t]) Q E s := by
  obtain ⟨B, F, X, N, T, hk⟩ := C
  have hpl := hb.length
  rw [List.length_map] at hpl
  refine wpAny_call ?_
  k_dflt (refine' code_defC ?k1 ?k2 ?k3 ?k4 ?k5 ?kA ?kF ?kK ?k6 ?k7 ?k8 ?k9 ?kB ?kD ?_ ?c2 ?c3 ?c4; (case kA => exact rfl); (case kF => exact rfl); (case kK => assumption); (case k1 => k_asm); (case k2 => k_asm); (case k3 => k_asm); (case k4 => k_asm); (case k5 => k_asm); (case k6 => k_is); (case k7 => k_is); (case k8 => ktr_room); (case k9 => exact BindsTo.of_eq rfl); (case kB => exact rfl); (case kD => decide +kernel); (case c2 => exact rfl); (case c3 => exact rfl); (case c4 => exact rfl); k_whole)
  intro g' L' h' tk' cells' FG' F' N' Y' B' X' T' lN
  replace F' : Fr g' L' h' (fun y => if y = Str.ofString "pieces" then some (.ref Pa) else none) := F'
  k_cells Y'
  rename_i o1 o2 d1 d2
  replace d1 : o1.data = .cell none := d1
  replace d2 : o2.data = .cell (some (.int (wd : Int) t)) := d2
  (try simp only [List.cons_append, List.nil_append] at N'); (try dsimp only); (try k_lift B'); (try k_fold)
  have hT : ∀ p ∈ news, @LT.lt Nat _ p.1 L' := fun p hp => lN p hp
  k_steps
  walk_at "sides"
  unfold Stop
  rename News _ _ _ _ => NN
  refine wh_loopD (fun p hp => NN p (.tail _ hp)) (fun D (c : FillS) => (D, listOf c.vs.toArray c.k) :: (c.R, listOf c.rv.toArray c.kr) :: (L' + 1 + 1, c.o) :: (L' + 1, o2) :: news) (fun _ => []) ["many"] (fun D c => FillInv wd xs L' D c) (fun c => c.ys.length) (by k_asm) ?_ ?_
  · refine ⟨⟨[], 0, _, ps, _, xs, _⟩, rfl, ?_, ⟨by assumption, hb, h3, ⟨[], .nil, by simp, fun ls h => h⟩, by dsimp only; omega, by omega, by dsimp only; omega⟩⟩
    walk_at "memNil"
  · rintro ⟨vs, k, R, rv, kr, ys, o⟩ u hh tk hI F1 N1
    clear NN
    dsimp only at hI F1 N1 ⊢
    obtain ⟨hcell, hrest, hsm, ⟨pre, hpre, hlen, hrun⟩, hR, hD, hRD⟩ := hI
    dsimp only at hcell hrest hsm hpre hlen hrun hR hRD
    have hrl := hrest.length
    rw [List.length_map] at hrl
    k_steps
    walk_at "sides"
    unfold Stop
    rename News _ _ _ _ => NN
    have hps := strsAre_part (b := wd + 1) hrest
    have hpl2 := hps.length
    rw [List.length_map, List.length_take] at hpl2
    have hpl2' : (part rv none (some ((wd : Int) + 1))).length = (ys.take (wd + 1)).length := by
      rw [List.length_take]; exact hpl2
    refine comp_list NN (fun i zs => IntsAre zs (lens ((ys.take (wd + 1)).take i))) (.head _) rfl (by k_asm) (by rw [hpl2', List.length_take]; omega) .nil ?_ ?_
    · rintro i zs v I oI C oC D m₂ h2 tk2 E' hv hz hC hx F2 N2 hoff hne
      obtain ⟨Y, tY, rfl, hY⟩ := hps.item i v hv
      obtain ⟨y, hy, rfl⟩ := getElem?_map_inv hY
      have hyl := hsm y (List.mem_of_mem_take (List.mem_of_getElem? hy))
      k_steps
      walk_at "sides"
      refine quiet_end (by k_asm) (by k_asm) ?_
      exact lens_snoc hy hz
    · intro g zs hz
      rw [hpl2', List.take_length] at hz
      have hyf := flat3_le fun y hy => (hsm y hy).2
      k_steps
      walk_at "sides"
      · unfold Stop
        rename News _ _ _ _ => NN
        refine comp_rangeT (n := wd) NN (fun i zs => IntsAre zs (cnt wd ys i)) rfl (by k_asm) (by assumption) rfl (by omega) .nil ?_ ?_
        · rintro i zs2 tI I oI C oC D m₂ h2 tk2 E' hi hz2 hC hx F2 N2 hoff hne
          clear NN
          k_steps
          walk_at "sides"
          unfold Stop
          rename News _ _ _ _ => NN
          have hps3 := strsAre_part (b := i) hrest
          have hpl3 : (part rv none (some (i : Int))).length = (ys.take i).length := by
            have := hps3.length
            rwa [List.length_map] at this
          refine comp_list NN (fun j zs => IntsAre zs (lens ((ys.take i).take j))) (.head _) rfl (by k_asm) (by rw [hpl3, List.length_take]; omega) .nil ?_ ?_
          · rintro j zs3 v I3 oI3 C3 oC3 D3 m3 h3' tk3 E3 hv hz3 hC3 hx3 F3 N3 hoff3 hne3
            obtain ⟨Y, tY, rfl, hY⟩ := hps3.item j v hv
            obtain ⟨y, hy, rfl⟩ := getElem?_map_inv hY
            have hyl := hsm y (List.mem_of_mem_take (List.mem_of_getElem? hy))
            k_steps
            walk_at "sides"
            refine quiet_end (by k_asm) (by k_asm) ?_
            exact lens_snoc hy hz3
          · intro g3 zs3 hz3
            rw [hpl3, List.take_length] at hz3
            k_steps
            walk_at "sides"
            · exact quiet_end (by k_asm) (by walk_at "dropN") (cnt_yes hz2 (by assumption))
            · exact quiet_end (by k_asm) (by walk_at "dropN") (cnt_no hz2 (by assumption))
        · intro g zs2 hz2
          have hpl5 := hpre.length
          rw [List.length_map] at hpl5
          k_steps
          walk_at "sides"
          · rename IsMany wd ys _ => hM
            rename (wd : Int) < (lens (ys.take (wd + 1))).sum => hgt
            have hc1 : 1 ≤ manyOf hM := many_pos hw4 hsm hM
            have hy1 := ys_pos hgt
            rename News _ _ _ _ => NF
            refine' wh_done ⟨vs ++ [_], _, _, part rv (some ((manyOf hM : Nat) : Int)) none, _, ys.drop (manyOf hM), _⟩ (by k_asm) (newsSwapDrop NF) (by walk_at "memNil") (by walk_at "whSame") ⟨by assumption, strsAre_from hrest, fun y hy => hsm y (List.mem_of_mem_drop hy), ⟨pre ++ [_], _, _, fill_next hrun hgt hM⟩, _, hD, _⟩ _
            · rw [List.map_append]
              exact hpre.append' (.cons _ _ .nil)
            · rw [List.length_append, List.length_drop, List.length_singleton]; omega
            · dsimp only; omega
            · dsimp only; omega
            · dsimp only; rw [List.length_drop]; omega
          · unfold Side
            walk_at "offA"
          · have := take_flat3 (manyOf ‹IsMany wd ys _›) hyf
            dsimp only [manyOf] at this
            unfold Side
            rw [joinL_nil]
            simp only [List.length_singleton]
            omega
          · have := take_flat3 (manyOf ‹IsMany wd ys _›) hyf
            dsimp only [manyOf] at this
            unfold Side
            omega
      · rename ∀ p : Addr × Obj, p ∈ _ → p.1 < _ => lD
        refine hret _ _ _ (pre ++ [ys.flatten]) _ _ (hrun _ (.stop (by assumption))) ?_ (by k_asm) (by walk_at "dropN") ?_
        · rw [List.map_append]
          refine hpre.append' ?_
          rw [← joinL_nil]
          exact .cons _ _ .nil
        · intro p hp
          refine lD p ?_
          repeat (first | exact hp | refine List.Mem.tail _ ?_)
      · have hpl5 := hpre.length
        rw [List.length_map] at hpl5
        unfold Side
        simp only [List.length_singleton]
        omega
end
end
section
/- R12 -/
theorem rows_none_R12 : True := by
  k_with_none
  trivial
open Builtin Builtin._codecs
theorem asc_foldl (x : List UInt8) (a : Array UInt8) : ((x.map UInt8.toNat).toArray).foldl (fun acc y => acc ++ ([y.toUInt8] : List UInt8).toArray) a = a ++ x.toArray := by
  induction x generalizing a with
  | nil => simp
  | cons c r ih =>
    simp only [List.size_toArray, List.foldl_toArray', List.map_cons, List.foldl_cons] at ih ⊢
    rw [ih]
    apply Array.ext'
    simp
theorem asc_none {x : List UInt8} (h : ∀ c ∈ x, c.toNat < 128) : (asc x).cps.findIdx? asciiCodec.bad = none := by
  rw [Array.findIdx?_eq_none_iff]
  intro n hn
  unfold asc at hn
  simp only [List.mem_toArray, List.mem_map] at hn
  obtain ⟨c, hc, rfl⟩ := hn
  have := h c hc
  unfold asciiCodec
  simp only [ge_iff_le, decide_eq_false_iff_not]
  omega
section
variable {M : Model} {A : Around} {E : Value → Shared → Prop} {s : Shared} {Q : Array UInt8 → Shared → Prop}
theorem two_turns {β : Type} {x : Nat} {r : List Nat} {b₀ b₁ : β} {f : Nat → β → Sem (ForInStep β)} {Q : β → Shared → Prop} (e₀ : ∀ x, f x b₀ = pure (.yield b₁)) (e₁ : ∀ x, f x b₁ = pure (.done b₁)) (hq : Q b₁ s) : wpAny M A (forIn (x :: r) b₀ f) Q E s := by
  refine KPc.turn ?_
  rw [e₀]
  refine wpAny_pure ?_
  cases r with
  | nil => exact wpAny_pure hq
  | cons y r =>
    refine KPc.turn ?_
    rw [e₁]
    exact wpAny_pure hq
theorem wp_encodeNarrow {id : String} {self : Value} {x : List UInt8} (h : ∀ c ∈ x, c.toNat < 128) (hz : x.length ≤ 16777216) (hq : Q x.toArray s) : wpAny M A (encodeNarrow id asciiCodec none self (asc x)) Q E s := by
  unfold encodeNarrow
  dsimp only
  rw [KPc.range_list, asc_length]
  cases x with
  | nil => exact wpAny_pure hq
  | cons c r =>
    have e0 : (asc (c :: r)).cps[0]? = some c.toNat := by
      unfold asc
      simp
    have hc : asciiCodec.bad c.toNat = false := by
      have := h c (List.mem_cons_self ..)
      unfold asciiCodec
      simp only [ge_iff_le, decide_eq_false_iff_not]
      omega
    have ex : (asc (c :: r)).cps.extract 0 (asc (c :: r)).cps.size = (asc (c :: r)).cps := by simp
    have ez : (asc (c :: r)).cps.size = r.length + 1 := by
      unfold asc
      simp
    have eo : Array.foldl (fun acc y => acc ++ (asciiCodec.bytesOf y).toArray) #[] (asc (c :: r)).cps = (c :: r).toArray := by
      refine (asc_foldl (c :: r) #[]).trans ?_
      simp
    have en : (asc (c :: r)).cps[r.length + 1]? = none := by
      rw [← ez]
      simp
    have e8 : ¬ (#[] : Array UInt8).size > sizeLine := by rw [sizeLine_eq]; exact Nat.not_lt_zero _
    have e9 : ¬ (c :: r).toArray.size > sizeLine := by rw [sizeLine_eq]; simpa using hz
    rw [List.length_cons, List.range'_succ]
    refine wpAny_bind ?_
    refine two_turns (b₁ := ⟨r.length + 1, (c :: r).toArray, {}⟩) (fun _ => ?_) (fun _ => ?_) ?_
    · dsimp only
      rw [if_neg e8]
      simp only [e0, hc, Bool.not_false, if_true, ex, asc_none h, Option.getD_none, Nat.zero_add]
      rw [eo, ez]
    · dsimp only
      rw [if_neg e9]
      simp only [en]
    · exact wpAny_pure hq
end
theorem encodeRoad_ascii (id : String) (self : Value) (x : Str) (errors : Option Str) : encodeRoad id self x (Str.ofString "ascii") errors = (do mkBytes (← encodeNarrow id asciiCodec errors self x)) := by
  first | kernel_rfl | rfl | (unfold encodeRoad; rfl) | (unfold encodeRoad; simp only []; rfl) | decide
theorem encode_tree2 (x : Str) (t u : Tok) : «str.encode» ⟨[.str x t, .str (Str.ofString "ascii") u], []⟩ = (do ret (← encodeRoad "str.encode" (.str x t) x (Str.ofString "ascii") none)) := by
  first | kernel_rfl | rfl
theorem meets_encode {x : List UInt8} (t u : Tok) (h : ∀ c ∈ x, c.toNat < 128) (hz : x.length ≤ 16777216) :
    Meets («str.encode» ⟨[.str (asc x) t, .str (Str.ofString "ascii") u], []⟩) (fun _ R s => ∀ t' k', R (.ok (.ret (.bytes x.toArray t'))) { s with toks := k' }) := by
  rw [encode_tree2, encodeRoad_ascii]
  refine .of_wp fun _ _ _ _ _ hR => ?_
  refine wpAny_bind ?_
  refine wpAny_bind ?_
  refine wp_encodeNarrow h hz ?_
  refine wpAny_mkBytes ?_ ?_
  · exact wpAny_pure ⟨_, rfl, hR _ _⟩
  · rw [sizeLine_eq]; simpa using hz
theorem call_encode {prog : Program} {w : World} {A : Around} {E : Value → Shared → Prop} {s : Shared} {Q : Value → Shared → Prop} {x : List UInt8} {X : Str} {t u : Tok} (e : X = asc x) (h : ∀ c ∈ x, c.toNat < 128) (hz : x.length ≤ 16777216) (hq : ∀ t' k', Q (.bytes x.toArray t') { s with toks := k' }) :
    wpAny (model prog w) A (call (.builtin "str.encode") [.str X t, .str (Str.ofString "ascii") u]) Q E s := by
  subst e
  exact call_meets F.slot_str_encode (typeIs_str _ _ _) F.entry_str_encode (F.args_str_encode_2 _ _) (meets_encode t u h hz) hq
end
section
/- P2 -/
theorem rows_none_P2 : True := by
  k_with_none
  trivial
open Builtin
/-- lines laid from a line begun and the pieces left -/
noncomputable def fillF (w : Int) : List UInt8 → List (List UInt8) → List (List UInt8)
  | line, [] => [line]
  | line, p :: r => if (line.length : Int) + (p.length : Int) > (if r = [] then w else w - 1) then (line ++ [61]) :: fillF w p r else fillF w (line ++ p) r
theorem fillF_cons (w : Int) (line p : List UInt8) (r : List (List UInt8)) : fillF w line (p :: r) = if (line.length : Int) + (p.length : Int) > (if r = [] then w else w - 1) then (line ++ [61]) :: fillF w p r else fillF w (line ++ p) r := by rw [fillF]
theorem drop_getD {xs : List (List UInt8)} {i : Nat} (h : i < xs.length) : xs.drop i = xs.getD i [] :: xs.drop (i + 1) := by
  rw [List.drop_eq_getElem_cons h, List.getD_eq_getElem?_getD, List.getElem?_eq_getElem h]
  rfl
theorem softRun_fill (xs : List (List UInt8)) (w : Int) : ∀ i, i ≤ xs.length → (softRun xs w i).1 ++ fillF w (softRun xs w i).2 (xs.drop i) = fillF w [] xs
  | 0, _ => rfl
  | i + 1, h => by
    have ih := softRun_fill xs w i (by omega)
    rw [drop_getD (by omega)] at ih
    rw [← ih]
    have e2 : softRun xs w (i + 1) = softStep xs.length w (softRun xs w i) i (xs.getD i []) := rfl
    have eif : (if xs.drop (i + 1) = [] then w else w - 1) = (if (i : Int) = (xs.length : Int) - 1 then w else w - 1) := by
      by_cases hh : (i : Int) = (xs.length : Int) - 1
      · rw [if_pos hh, if_pos (List.drop_eq_nil_of_le (by omega))]
      · rw [if_neg hh, if_neg]
        intro e
        have := List.length_drop (i := i + 1) (l := xs)
        rw [e] at this
        simp at this
        omega
    rw [fillF_cons]
    rw [eif, e2]
    by_cases hb : ((softRun xs w i).2.length : Int) + ((xs.getD i []).length : Int) > (if (i : Int) = (xs.length : Int) - 1 then w else w - 1)
    · rw [softStep_break hb, if_pos hb]
      simp
    · rw [softStep_go hb, if_neg hb]
theorem softLines_fill (xs : List (List UInt8)) (w : Int) : softLines xs w = fillF w [] xs := by
  rw [← softRun_fill xs w xs.length (Nat.le_refl _), List.drop_length]
  rfl
theorem lens_sum (ys : List (List UInt8)) : (lens ys).sum = (ys.flatten.length : Int) := by
  induction ys with
  | nil => rfl
  | cons y r ih =>
    show (y.length : Int) + (lens r).sum = _
    rw [ih, List.flatten_cons, List.length_append]
    omega
theorem fillF_stop {w : Int} : ∀ {ys : List (List UInt8)} {line : List UInt8}, (∀ y ∈ ys, 1 ≤ y.length) → (line.length : Int) + (ys.flatten.length : Int) ≤ w → fillF w line ys = [line ++ ys.flatten]
  | [], line, _, _ => by simp [fillF]
  | y :: r, line, h1, h => by
    rw [List.flatten_cons, List.length_append] at h
    rw [fillF_cons, if_neg, fillF_stop (fun z hz => h1 z (.tail _ hz)) (by rw [List.length_append]; omega)]
    · simp
    · by_cases hr : r = []
      · rw [if_pos hr]; omega
      · rw [if_neg hr]
        obtain ⟨z, r', rfl⟩ := List.exists_cons_of_ne_nil hr
        have := h1 z (.tail _ (.head _))
        rw [List.flatten_cons, List.length_append] at h
        omega
theorem fillF_step {w : Int} : ∀ {M : Nat} {ys : List (List UInt8)} {line : List UInt8}, M < ys.length → (line.length : Int) + ((ys.take M).flatten.length : Int) < w → (line.length : Int) + ((ys.take (M + 1)).flatten.length : Int) ≥ w →
    (line.length : Int) + (ys.flatten.length : Int) > w → fillF w line ys = (line ++ (ys.take M).flatten ++ [61]) :: fillF w (ys.getD M []) (ys.drop (M + 1))
  | M, [], _, h, _, _, _ => absurd h (Nat.not_lt_zero _)
  | 0, p :: r, line, _, h1, h2, h3 => by
    simp only [List.take_succ_cons, List.take_zero, List.flatten_cons, List.flatten_nil, List.append_nil, List.length_append, List.length_nil] at h1 h2 h3
    rw [fillF_cons, if_pos]
    · simp
    · by_cases hr : r = []
      · subst hr
        rw [if_pos rfl]
        simp at h3
        omega
      · rw [if_neg hr]; omega
  | M + 1, p :: r, line, h, h1, h2, h3 => by
    simp only [List.take_succ_cons, List.flatten_cons, List.length_append] at h1 h2 h3
    simp only [List.length_cons] at h
    have hr : r ≠ [] := by rintro rfl; simp at h
    rw [fillF_cons, if_neg (by rw [if_neg hr]; omega), fillF_step (M := M) (by omega) (by rw [List.length_append]; omega) (by rw [List.length_append]; omega) (by rw [List.length_append]; omega)]
    simp
theorem flatten_ge {ys : List (List UInt8)} (h : ∀ y ∈ ys, 1 ≤ y.length) : ys.length ≤ ys.flatten.length := by
  induction ys with
  | nil => simp
  | cons y r ih =>
    have := ih fun z hz => h z (.tail _ hz)
    have := h y (.head _)
    simp only [List.flatten_cons, List.length_append, List.length_cons]
    omega
theorem lawFill_soft {wd : Nat} {xs ls : List (List UInt8)} (hw : 4 ≤ wd) (h : LawFill wd xs ls) : (∀ x ∈ xs, 1 ≤ x.length ∧ x.length ≤ 3) → ls = softLines xs wd := by
  induction h with
  | @stop ys hs =>
    intro h3
    rw [lens_sum] at hs
    have hn := flatten_ge (ys := ys.take (wd + 1)) fun y hy => (h3 y (List.mem_of_mem_take hy)).1
    rw [List.length_take] at hn
    have e : ys.take (wd + 1) = ys := List.take_of_length_le (by omega)
    rw [e] at hs
    rw [softLines_fill, fillF_stop (fun y hy => (h3 y hy).1) (by simp only [List.length_nil]; omega)]
    simp
  | @step ys M ls hs hM _ ih =>
    intro h3
    obtain ⟨hM1, hM2, hM3⟩ := hM
    rw [lens_sum] at hs hM2
    have hle := take_flat_le ys (wd + 1)
    have hlt : M < ys.length := by
      refine Nat.lt_of_not_le fun hh => ?_
      rw [List.take_of_length_le hh] at hM2
      omega
    have hge : ((ys.take (M + 1)).flatten.length : Int) ≥ wd := by
      refine Int.not_lt.mp fun hh => ?_
      have hn := flatten_ge (ys := ys.take (M + 1)) fun y hy => (h3 y (List.mem_of_mem_take hy)).1
      rw [List.length_take] at hn
      have := hM3 (M + 1) (by omega) (by rw [lens_sum]; exact hh)
      omega
    have ih := ih fun y hy => h3 y (List.mem_of_mem_drop hy)
    rw [softLines_fill, drop_getD hlt] at ih
    rw [softLines_fill, fillF_step hlt (by simp only [List.length_nil]; omega) (by simp only [List.length_nil]; omega) (by simp only [List.length_nil]; omega), List.nil_append, ih]
    congr 1
    have hp : (ys.getD M []).length ≤ 3 := by
      rw [List.getD_eq_getElem?_getD, List.getElem?_eq_getElem hlt]
      exact (h3 _ (List.getElem_mem hlt)).2
    rw [fillF_cons, if_neg, List.nil_append]
    simp only [List.length_nil]
    split <;> omega
/-- how a code stands as a piece: both ways alike -/
theorem piece_alike : ∀ c : UInt8, ∀ b : Bool, lawSelf c.toNat b = (isPlain (c.toNat : Int) && !(isWhite c && b)) := by
  intro c
  have h : ∀ n : Nat, n < 256 → ∀ b : Bool, lawSelf n b = (isPlain (n : Int) && !(((n : Int) == 32 || (n : Int) == 9) && b)) := by decide +kernel
  exact h c.toNat c.toNat_lt
theorem lawPieces_line (x : List UInt8) : lawPieces x = linePieces x := by
  unfold lawPieces linePieces
  refine List.map_congr_left fun i hi => ?_
  unfold lawPiece pieceOf
  have e : (i + 1 == x.length) = ((i : Int) == (x.length : Int) - 1) := by
    have := List.mem_range.mp hi
    rw [Bool.eq_iff_iff]
    simp only [beq_iff_eq]
    omega
  rw [piece_alike, e]
end
section
/- P3 -/
theorem rows_none_P3 : True := by
  k_with_none
  trivial
open Builtin
theorem fillF_break {w : Int} {line p : List UInt8} {r : List (List UInt8)} (h : (line.length : Int) + (p.length : Int) > (if r = [] then w else w - 1)) : fillF w line (p :: r) = (line ++ [61]) :: fillF w p r := by rw [fillF_cons, if_pos h]
theorem fillF_go {w : Int} {line p : List UInt8} {r : List (List UInt8)} (h : ¬ (line.length : Int) + (p.length : Int) > (if r = [] then w else w - 1)) : fillF w line (p :: r) = fillF w (line ++ p) r := by rw [fillF_cons, if_neg h]
theorem byte_all {P : UInt8 → Prop} (h : ∀ n : Nat, n < 256 → P n.toUInt8) (c : UInt8) : P c := by
  have := h c.toNat c.toNat_lt
  simpa using this
theorem fill_all {R : UInt8 → Prop} (h61 : R 61) {w : Int} : ∀ {ps : List (List UInt8)} {line : List UInt8}, (∀ d ∈ line, R d) → (∀ p ∈ ps, ∀ d ∈ p, R d) → ∀ l ∈ fillF w line ps, ∀ d ∈ l, R d
  | [], line, h1, _, l, hl => by
    rw [List.mem_singleton.mp hl]
    exact h1
  | p :: r, line, h1, h2, l, hl => by
    have hp := h2 p (.head _)
    have hr := fun q hq => h2 q (.tail p hq)
    by_cases hb : (line.length : Int) + (p.length : Int) > (if r = [] then w else w - 1)
    · rw [fillF_break hb] at hl
      rcases List.mem_cons.mp hl with rfl | hl
      · intro d hd
        rcases List.mem_append.mp hd with hd | hd
        · exact h1 d hd
        · rw [List.mem_singleton.mp hd]; exact h61
      · exact fill_all h61 hp hr l hl
    · rw [fillF_go hb] at hl
      refine fill_all h61 (fun d hd => ?_) hr l hl
      rcases List.mem_append.mp hd with hd | hd
      · exact h1 d hd
      · exact hp d hd
theorem fill_ne (w : Int) : ∀ (ps : List (List UInt8)) (line : List UInt8), fillF w line ps ≠ []
  | [], line => by simp [fillF]
  | p :: r, line => by
    by_cases hb : (line.length : Int) + (p.length : Int) > (if r = [] then w else w - 1)
    · rw [fillF_break hb]; simp
    · rw [fillF_go hb]; exact fill_ne w r _
theorem fill_width {w : Int} (hw : 4 ≤ w) : ∀ {ps : List (List UInt8)} {line : List UInt8}, (∀ p ∈ ps, p.length ≤ 3) → (line.length : Int) ≤ (if ps = [] then w else w - 1) → ∀ l ∈ fillF w line ps, (l.length : Int) ≤ w
  | [], line, _, h1, l, hl => by
    rw [List.mem_singleton.mp hl]
    simpa using h1
  | p :: r, line, h3, h1, l, hl => by
    have hp := h3 p (.head _)
    have hr := fun q hq => h3 q (.tail p hq)
    rw [if_neg (by simp)] at h1
    by_cases hb : (line.length : Int) + (p.length : Int) > (if r = [] then w else w - 1)
    · rw [fillF_break hb] at hl
      rcases List.mem_cons.mp hl with rfl | hl
      · simp only [List.length_append, List.length_singleton]; omega
      · exact fill_width hw hr (by split <;> omega) l hl
    · rw [fillF_go hb] at hl
      refine fill_width hw hr ?_ l hl
      rw [List.length_append]
      omega
theorem hexSign_ok : ∀ n : Nat, n < 16 → (hexSign n ≠ 10 ∧ hexSign n ≠ 13 ∧ hexSign n ≠ 61 ∧ hexSign n ≠ 32 ∧ hexSign n ≠ 9 ∧ (hexSign n).toNat < 128) ∧ hexWorth ((hexSign n).toNat : Int) = (n : Int) := by decide +kernel
/-- how a piece may stand for an octet -/
noncomputable def PieceOk (p : List UInt8) (c : UInt8) : Prop := (p = [c] ∧ c ≠ 61 ∧ c ≠ 10 ∧ c ≠ 13 ∧ c.toNat < 128) ∨ p = quotedCode c.toNat
theorem pieceOf_ok (c : UInt8) (b : Bool) : PieceOk (pieceOf c b) c := by
  unfold pieceOf
  split
  · rename_i h
    refine .inl ⟨rfl, ?_⟩
    revert h
    refine byte_all (P := fun c => (isPlain (c.toNat : Int) && !(isWhite c && b)) = true → c ≠ 61 ∧ c ≠ 10 ∧ c ≠ 13 ∧ c.toNat < 128) ?_ c
    cases b <;> decide +kernel
  · exact .inr rfl
theorem piece_pos {p : List UInt8} {c : UInt8} (h : PieceOk p c) : 1 ≤ p.length ∧ p.length ≤ 3 := by
  rcases h with ⟨rfl, _⟩ | rfl
  · simp
  · rw [quotedCode_len]; omega
theorem div16 (c : UInt8) : c.toNat / 16 < 16 ∧ c.toNat % 16 < 16 := by
  have := c.toNat_lt
  omega
theorem piece_free {p : List UInt8} {c : UInt8} (h : PieceOk p c) : ∀ d ∈ p, d ≠ 10 ∧ d ≠ 13 ∧ d.toNat < 128 := by
  have hd := div16 c
  rcases h with ⟨rfl, h1, h2, h3, h4⟩ | rfl
  · intro d hd
    rw [List.mem_singleton.mp hd]
    exact ⟨h2, h3, h4⟩
  · have e1 := (hexSign_ok _ hd.1).1
    have e2 := (hexSign_ok _ hd.2).1
    unfold quotedCode
    simp only [List.forall_mem_cons]
    exact ⟨by decide, ⟨e1.1, e1.2.1, e1.2.2.2.2.2⟩, ⟨e2.1, e2.2.1, e2.2.2.2.2.2⟩, List.forall_mem_nil _⟩
/-- the last octet is neither white nor an = -/
noncomputable def LastOk (x : List UInt8) : Prop := ∀ d, x.getLast? = some d → d ≠ 61 ∧ d ≠ 32 ∧ d ≠ 9
theorem lastOk_append {x y : List UInt8} (hy : y ≠ []) : LastOk (x ++ y) ↔ LastOk y := by
  unfold LastOk
  obtain ⟨z, d, rfl⟩ : ∃ z d, y = z ++ [d] := by
    rcases List.eq_nil_or_concat y with h | ⟨z, d, h⟩
    · exact absurd h hy
    · exact ⟨z, d, by simpa using h⟩
  rw [← List.append_assoc, List.getLast?_concat, List.getLast?_concat]
theorem quoted_last (c : UInt8) : LastOk (quotedCode c.toNat) := by
  intro d h
  have e : (quotedCode c.toNat).getLast? = some (hexSign (c.toNat % 16)) := rfl
  rw [e] at h
  cases h
  have e2 := (hexSign_ok _ (div16 c).2).1
  exact ⟨e2.2.2.1, e2.2.2.2.1, e2.2.2.2.2.1⟩
theorem pieceOf_last (c : UInt8) : LastOk (pieceOf c true) := by
  unfold pieceOf
  split
  · rename_i h
    intro d hd
    cases hd
    revert h
    refine byte_all (P := fun c => (isPlain (c.toNat : Int) && !(isWhite c && true)) = true → c ≠ 61 ∧ c ≠ 32 ∧ c ≠ 9) ?_ c
    decide +kernel
  · exact quoted_last c
inductive PsOf : List (List UInt8) → List UInt8 → Prop
  | nil : PsOf [] []
  | cons {ps u p c} : PieceOk p c → PsOf ps u → PsOf (p :: ps) (c :: u)
theorem PsOf.append : ∀ {ps u qs v}, PsOf ps u → PsOf qs v → PsOf (ps ++ qs) (u ++ v)
  | _, _, _, _, .nil, h => h
  | _, _, _, _, .cons h1 h2, h => .cons h1 (h2.append h)
theorem PsOf.pos {ps u} (h : PsOf ps u) : ∀ p ∈ ps, 1 ≤ p.length ∧ p.length ≤ 3 := by
  induction h with
  | nil => exact List.forall_mem_nil _
  | cons h1 _ ih => exact List.forall_mem_cons.mpr ⟨piece_pos h1, ih⟩
theorem PsOf.free {ps u} (h : PsOf ps u) : ∀ p ∈ ps, ∀ d ∈ p, d ≠ 10 ∧ d ≠ 13 ∧ d.toNat < 128 := by
  induction h with
  | nil => exact List.forall_mem_nil _
  | cons h1 _ ih => exact List.forall_mem_cons.mpr ⟨piece_free h1, ih⟩
theorem linePieces_cons (c : UInt8) (r : List UInt8) : linePieces (c :: r) = pieceOf c (r.isEmpty) :: linePieces r := by
  unfold linePieces
  rw [List.length_cons, List.range_succ_eq_map, List.map_cons, List.map_map]
  congr 1
  · show pieceOf c _ = _
    congr 1
    cases r with
    | nil => rfl
    | cons d r =>
      rw [Bool.eq_iff_iff]
      simp
      omega
  · refine List.map_congr_left fun i hi => ?_
    show pieceOf (r.getD i 0) _ = _
    congr 1
    rw [Bool.eq_iff_iff]
    simp only [beq_iff_eq]
    omega
theorem linePieces_of : ∀ x : List UInt8, PsOf (linePieces x) x
  | [] => .nil
  | c :: r => by
    rw [linePieces_cons]
    exact .cons (pieceOf_ok _ _) (linePieces_of r)
theorem flat_ne {ps : List (List UInt8)} {u : List UInt8} (h : PsOf ps u) (hu : u ≠ []) : ps.flatten ≠ [] := by
  cases h with
  | nil => exact absurd rfl hu
  | cons h1 h2 =>
    have := piece_pos h1
    intro e
    rw [List.flatten_cons, List.append_eq_nil_iff] at e
    rw [e.1] at this
    simp at this
theorem linePieces_last : ∀ x : List UInt8, LastOk (linePieces x).flatten
  | [] => fun d h => by cases h
  | [c] => by
    rw [linePieces_cons]
    have : LastOk (pieceOf c true) := pieceOf_last c
    simpa [linePieces] using this
  | c :: d :: r => by
    rw [linePieces_cons, List.flatten_cons]
    exact (lastOk_append (flat_ne (linePieces_of (d :: r)) (by simp))).mpr (linePieces_last (d :: r))
/-- unquoting, octet by octet -/
noncomputable def unqL : List UInt8 → List UInt8
  | [] => []
  | [c] => [c]
  | [c, d] => [c, d]
  | c :: h :: l :: r => if c = 61 ∧ 0 ≤ hexWorth (h.toNat : Int) ∧ 0 ≤ hexWorth (l.toNat : Int) then (16 * hexWorth (h.toNat : Int) + hexWorth (l.toNat : Int)).toNat.toUInt8 :: unqL r else c :: unqL (h :: l :: r)
theorem unqL_plain {c : UInt8} (h : c ≠ 61) : ∀ r, unqL (c :: r) = c :: unqL r
  | [] => rfl
  | [d] => rfl
  | d :: e :: r => by
    conv => lhs; unfold unqL
    rw [if_neg fun q => h q.1]
theorem drop3 {x : List UInt8} {i : Nat} (h : i + 2 < x.length) : x.drop i = x.getD i 0 :: x.getD (i + 1) 0 :: x.getD (i + 2) 0 :: x.drop (i + 3) := by
  rw [List.drop_eq_getElem_cons (by omega), List.drop_eq_getElem_cons (show i + 1 < x.length by omega), List.drop_eq_getElem_cons (show i + 1 + 1 < x.length by omega)]
  simp only [List.getD_eq_getElem?_getD, List.getElem?_eq_getElem (show i < x.length by omega), List.getElem?_eq_getElem (show i + 1 < x.length by omega), List.getElem?_eq_getElem h, Option.getD_some]
theorem unq_shift (x : List UInt8) : ∀ (n i : Nat), x.length - i = n → (unqFrom x i).map (fun n => n.toNat.toUInt8) = unqL (x.drop i) := by
  intro n
  induction n using Nat.strongRecOn with
  | _ n ih =>
    intro i hn
    by_cases hi : i < x.length
    · by_cases h : 0 ≤ codeAt x i
      · have h2 := codeAt_top h
        rw [unqFrom_code hi h, List.map_cons, ih (x.length - (i + 3)) (by omega) (i + 3) rfl, drop3 h2]
        conv => rhs; unfold unqL
        unfold codeAt quotedAt at h ⊢
        have e1 : x.getD i 0 = 61 := by
          refine Decidable.byContradiction fun q => ?_
          rw [if_neg q] at h
          omega
        rw [if_pos e1, if_neg (by omega)] at h ⊢
        by_cases h3 : hexWorth ((x.getD (i + 1) 0).toNat : Int) ≥ 0 ∧ hexWorth ((x.getD (i + 2) 0).toNat : Int) ≥ 0
        · rw [if_pos h3, if_pos ⟨e1, h3.1, h3.2⟩]
        · rw [if_neg h3] at h
          omega
      · rw [unqFrom_plain hi h, List.map_cons, ih (x.length - (i + 1)) (by omega) (i + 1) rfl, byte_int]
        by_cases h2 : i + 2 < x.length
        · have e : x.drop (i + 1) = x.getD (i + 1) 0 :: x.getD (i + 2) 0 :: x.drop (i + 3) := by
            have := drop3 h2
            rw [List.drop_eq_getElem_cons hi] at this
            exact (List.cons.inj this).2
          rw [drop3 h2, e]
          conv => rhs; unfold unqL
          rw [if_neg]
          rintro ⟨e1, h3, h4⟩
          unfold codeAt quotedAt at h
          rw [if_pos e1, if_neg (by omega), if_pos ⟨h3, h4⟩] at h
          omega
        · have el : (x.drop i).length = x.length - i := List.length_drop
          rw [List.drop_eq_getElem_cons hi] at el ⊢
          have eg : x.getD i 0 = x[i] := by rw [List.getD_eq_getElem?_getD, List.getElem?_eq_getElem hi]; rfl
          rw [eg]
          match hq : x.drop (i + 1), el with
          | [], _ => rfl
          | [d], _ => rfl
          | d :: e :: r, el =>
            try rw [hq] at el
            simp only [List.length_cons] at el
            omega
    · rw [unqFrom_end hi, List.drop_eq_nil_of_le (by omega)]
      rfl
theorem unquoted_eq (x : List UInt8) : unquoted x = unqL x := by
  unfold unquoted
  rw [unq_shift x _ 0 rfl, List.drop_zero]
theorem code_back (c : UInt8) : (16 * ((c.toNat / 16 : Nat) : Int) + ((c.toNat % 16 : Nat) : Int)).toNat.toUInt8 = c := by
  have e : (16 * ((c.toNat / 16 : Nat) : Int) + ((c.toNat % 16 : Nat) : Int)).toNat = c.toNat := by omega
  rw [e]
  simp
theorem unqL_piece {p : List UInt8} {c : UInt8} (h : PieceOk p c) (r : List UInt8) : unqL (p ++ r) = c :: unqL r := by
  rcases h with ⟨rfl, h1, _⟩ | rfl
  · exact unqL_plain h1 r
  · have e1 := (hexSign_ok _ (div16 c).1).2
    have e2 := (hexSign_ok _ (div16 c).2).2
    show unqL (61 :: hexSign (c.toNat / 16) :: hexSign (c.toNat % 16) :: r) = _
    conv => lhs; unfold unqL
    rw [e1, e2, if_pos ⟨rfl, by omega, by omega⟩, code_back]
theorem unqL_pieces {ps u} (h : PsOf ps u) : unqL ps.flatten = u := by
  induction h with
  | nil => rfl
  | cons h1 _ ih => rw [List.flatten_cons, unqL_piece h1, ih]
theorem part_last_nil : part ([] : List UInt8) (some (-1)) none = [] := by simp [part]
theorem part_last (x : List UInt8) (d : UInt8) : part (x ++ [d]) (some (-1)) none = [d] := by
  unfold part
  have e : clipAt (x ++ [d]).length (-1) = x.length := by
    have := clipAt_neg (x ++ [d]).length 1 (by omega)
    rw [show (-((1 : Nat) : Int)) = -1 from rfl] at this
    rw [this]
    simp
  simp only [Option.elim, e]
  simp
theorem last_cases (x : List UInt8) : x = [] ∨ ∃ y d, x = y ++ [d] := by
  rcases List.eq_nil_or_concat x with h | ⟨y, d, h⟩
  · exact .inl h
  · exact .inr ⟨y, d, by simpa using h⟩
theorem lastOk_soft {x : List UInt8} (h : LastOk x) : ¬ part x (some (-1)) none = [61] := by
  rcases last_cases x with rfl | ⟨y, d, rfl⟩
  · rw [part_last_nil]; simp
  · rw [part_last]
    have := (h d (by simp)).1
    simpa using this
theorem rstripped_ok (y : List UInt8) {d : UInt8} (h1 : d ≠ 32) (h2 : d ≠ 9) : rstripped [32, 9].contains (y ++ [d]) = y ++ [d] := by
  unfold rstripped
  rw [List.reverse_append, List.reverse_singleton, List.singleton_append, List.dropWhile_cons_of_neg]
  · simp
  · simp [h1, h2]
theorem lastOk_strip {x : List UInt8} (h : LastOk x) : rstripped [32, 9].contains x = x := by
  rcases last_cases x with rfl | ⟨y, d, rfl⟩
  · rfl
  · have := h d (by simp)
    exact rstripped_ok y this.2.1 this.2.2
theorem decLine_hard {x e : List UInt8} (h : LastOk x) : decLine (x, e) = unqL x ++ e := by
  unfold decLine
  rw [lastOk_strip h, if_neg (lastOk_soft h), unquoted_eq]
theorem decLine_soft (x e : List UInt8) : decLine (x ++ [61], e) = unqL x := by
  unfold decLine
  dsimp only
  rw [rstripped_ok x (by decide) (by decide), if_pos (part_last x 61), part_butlast, List.dropLast_concat, unquoted_eq]
/-- the octets of lines, a line's end between them -/
noncomputable def decAll : List (List UInt8) → List UInt8
  | [] => []
  | [l] => decLine (l, [])
  | l :: m :: r => decLine (l, [13, 10]) ++ decAll (m :: r)
theorem find_free {l : List UInt8} (h : ∀ d ∈ l, d ≠ 10) (r : List UInt8) : (l ++ [13, 10] ++ r).findIdx? (· == 10) = some (l.length + 1) := by
  induction l with
  | nil => rfl
  | cons c l ih =>
    have h1 := h c (.head _)
    have := ih fun d hd => h d (.tail _ hd)
    simp only [List.cons_append, List.findIdx?_cons]
    rw [if_neg (by simpa using h1), this]
    rfl
theorem find_none {l : List UInt8} (h : ∀ d ∈ l, d ≠ 10) : l.findIdx? (· == 10) = none := by
  rw [List.findIdx?_eq_none_iff]
  intro d hd
  simpa using h d hd
theorem lineCut_free {l : List UInt8} (h : ∀ d ∈ l, d ≠ 10) (r : List UInt8) : lineCut (l ++ [13, 10] ++ r) = (l, [13, 10]) :: lineCut r := by
  rw [lineCut_some (find_free h r), if_pos]
  · congr 1
    · simp
    · congr 1
      have : (l ++ [13, 10]).length = l.length + 1 + 1 := by simp
      rw [← this, List.drop_left]
  · refine ⟨by omega, ?_⟩
    simp [List.getD_eq_getElem?_getD]
theorem dec_lines : ∀ ls : List (List UInt8), ls ≠ [] → (∀ l ∈ ls, ∀ d ∈ l, d ≠ 10) → quotedDec (joinL [13, 10] ls) = decAll ls
  | [], h, _ => absurd rfl h
  | [l], _, h => by
    show quotedDec l = decLine (l, [])
    unfold quotedDec
    rw [lineCut_none (find_none (h l (.head _)))]
    simp
  | l :: m :: r, _, h => by
    have ih := dec_lines (m :: r) (by simp) fun q hq => h q (.tail _ hq)
    show quotedDec (l ++ [13, 10] ++ joinL [13, 10] (m :: r)) = decLine (l, [13, 10]) ++ decAll (m :: r)
    rw [← ih]
    unfold quotedDec
    rw [lineCut_free (h l (.head _))]
    simp
theorem decAll_cons {l : List UInt8} {r : List (List UInt8)} (h : r ≠ []) : decAll (l :: r) = decLine (l, [13, 10]) ++ decAll r := by
  cases r with
  | nil => exact absurd rfl h
  | cons m r => rfl
/-- what stands behind a line -/
noncomputable def rest2 (rest : List (List UInt8)) : List UInt8 := if rest = [] then [] else [13, 10] ++ decAll rest
theorem decAll_fill {w : Int} (rest : List (List UInt8)) : ∀ {ps : List (List UInt8)} {u : List UInt8}, PsOf ps u → ∀ {lp : List (List UInt8)} {v : List UInt8}, PsOf lp v → LastOk (lp.flatten ++ ps.flatten) →
    decAll (fillF w lp.flatten ps ++ rest) = v ++ u ++ rest2 rest := by
  intro ps u h
  induction h with
  | nil =>
    intro lp v hv hl
    rw [List.flatten_nil, List.append_nil] at hl
    show decAll (lp.flatten :: rest) = _
    unfold rest2
    by_cases hr : rest = []
    · subst hr
      show decLine (lp.flatten, []) = _
      rw [decLine_hard hl, unqL_pieces hv]
      simp
    · rw [decAll_cons hr, decLine_hard hl, unqL_pieces hv, if_neg hr]
      simp
  | @cons ps u p c h1 h2 ih =>
    intro lp v hv hl
    have hp := piece_pos h1
    by_cases hb : (lp.flatten.length : Int) + (p.length : Int) > (if ps = [] then w else w - 1)
    · rw [fillF_break hb]
      have hne : fillF w p ps ++ rest ≠ [] := by simp [fill_ne]
      rw [List.cons_append, decAll_cons hne, decLine_soft, unqL_pieces hv]
      have hl2 : LastOk ([p].flatten ++ ps.flatten) := by
        rw [List.flatten_cons] at hl
        simp only [List.flatten_cons, List.flatten_nil, List.append_nil]
        refine (lastOk_append (fun e => ?_)).mp hl
        rw [List.append_eq_nil_iff] at e
        rw [e.1] at hp
        simp at hp
      have := ih (lp := [p]) (v := [c]) (.cons h1 .nil) hl2
      simp only [List.flatten_cons, List.flatten_nil, List.append_nil] at this
      rw [this]
      simp
    · rw [fillF_go hb]
      have hl2 : LastOk ((lp ++ [p]).flatten ++ ps.flatten) := by
        simpa using hl
      have := ih (lp := lp ++ [p]) (v := v ++ [c]) (hv.append (.cons h1 .nil)) hl2
      simp only [List.flatten_append, List.flatten_cons, List.flatten_nil, List.append_nil] at this
      rw [this]
      simp
/-- the lines of quoted octets -/
noncomputable def qLines (ls : List (List UInt8)) (w : Int) : List (List UInt8) := ls.flatMap fun l => softLines (linePieces l) w
theorem soft_ne (l : List UInt8) (w : Int) : softLines (linePieces l) w ≠ [] := by
  rw [softLines_fill]
  exact fill_ne _ _ _
theorem qLines_cons (l : List UInt8) (r : List (List UInt8)) (w : Int) : qLines (l :: r) w = softLines (linePieces l) w ++ qLines r w := rfl
theorem qLines_ne {ls : List (List UInt8)} (h : ls ≠ []) (w : Int) : qLines ls w ≠ [] := by
  cases ls with
  | nil => exact absurd rfl h
  | cons l r =>
    rw [qLines_cons]
    simp [soft_ne]
theorem decAll_q (w : Int) : ∀ ls : List (List UInt8), ls ≠ [] → decAll (qLines ls w) = joinL [13, 10] ls
  | [], h => absurd rfl h
  | [l], _ => by
    have := decAll_fill (w := w) [] (linePieces_of l) (lp := []) (v := []) .nil (by simpa using linePieces_last l)
    rw [qLines_cons, softLines_fill]
    show decAll (fillF w [] (linePieces l) ++ []) = l
    rw [show ([] : List UInt8) = ([] : List (List UInt8)).flatten from rfl, this]
    simp [rest2]
  | l :: m :: r, _ => by
    have ih := decAll_q w (m :: r) (by simp)
    have := decAll_fill (w := w) (qLines (m :: r) w) (linePieces_of l) (lp := []) (v := []) .nil (by simpa using linePieces_last l)
    rw [qLines_cons, softLines_fill]
    show decAll (fillF w [] (linePieces l) ++ _) = l ++ [13, 10] ++ joinL [13, 10] (m :: r)
    rw [show ([] : List UInt8) = ([] : List (List UInt8)).flatten from rfl, this]
    unfold rest2
    rw [if_neg (qLines_ne (by simp) w), ih]
    simp
theorem q_all {R : UInt8 → Prop} (h61 : R 61) (h : ∀ d : UInt8, d ≠ 10 ∧ d ≠ 13 ∧ d.toNat < 128 → R d) (ls : List (List UInt8)) (w : Int) : ∀ l ∈ qLines ls w, ∀ d ∈ l, R d := by
  intro l hl
  unfold qLines at hl
  obtain ⟨y, _, hl⟩ := List.mem_flatMap.mp hl
  rw [softLines_fill] at hl
  exact fill_all h61 (List.forall_mem_nil _) (fun p hp d hd => h d ((linePieces_of y).free p hp d hd)) l hl
theorem q_width {w : Int} (hw : 4 ≤ w) (ls : List (List UInt8)) : ∀ l ∈ qLines ls w, (l.length : Int) ≤ w := by
  intro l hl
  unfold qLines at hl
  obtain ⟨y, _, hl⟩ := List.mem_flatMap.mp hl
  rw [softLines_fill] at hl
  exact fill_width hw (fun p hp => ((linePieces_of y).pos p hp).2) (by simp only [List.length_nil]; split <;> omega) l hl
theorem joinL_append (sep : List UInt8) : ∀ {a b : List (List UInt8)}, a ≠ [] → b ≠ [] → joinL sep (a ++ b) = joinL sep a ++ sep ++ joinL sep b
  | [], _, h, _ => absurd rfl h
  | [x], b, _, hb => by
    obtain ⟨y, r, rfl⟩ := List.exists_cons_of_ne_nil hb
    rfl
  | x :: y :: r, b, _, hb => by
    have ih := joinL_append sep (a := y :: r) (by simp) hb
    show x ++ sep ++ joinL sep ((y :: r) ++ b) = x ++ sep ++ joinL sep (y :: r) ++ sep ++ joinL sep b
    rw [ih]
    simp
theorem joinL_cons (sep x : List UInt8) {b : List (List UInt8)} (hb : b ≠ []) : joinL sep (x :: b) = x ++ sep ++ joinL sep b := joinL_append sep (a := [x]) (by simp) hb
theorem join_split : ∀ x : List UInt8, joinL [13, 10] (splitCR x) = x
  | [] => rfl
  | [c] => rfl
  | c :: d :: r => by
    unfold splitCR
    split
    · rename_i h
      have ih := join_split r
      rw [joinL_cons _ _ (splitCR_ne r), ih, h.1, h.2]
      rfl
    · have ih := join_split (d :: r)
      split
      · rename_i h t e
        rw [e] at ih
        cases t with
        | nil =>
          show c :: h = _
          rw [show h = d :: r from ih]
        | cons y t =>
          rw [joinL_cons _ _ (by simp)] at ih ⊢
          rw [← ih]
          rfl
      · rename_i e
        exact absurd e (splitCR_ne _)
theorem join_text (x : List UInt8) (b : Bool) : joinL [13, 10] (textLines x b) = x := by
  unfold textLines
  cases b with
  | true => exact join_split x
  | false => rfl
theorem text_ne (x : List UInt8) (b : Bool) : textLines x b ≠ [] := by
  unfold textLines
  cases b with
  | true => exact splitCR_ne x
  | false => simp
theorem splitCR_free : ∀ {l : List UInt8}, (∀ d ∈ l, d ≠ 13) → ∀ r, splitCR (l ++ [13, 10] ++ r) = l :: splitCR r
  | [], _, r => by
    show splitCR (13 :: 10 :: r) = _
    conv => lhs; unfold splitCR
    rw [if_pos ⟨rfl, rfl⟩]
  | c :: l, h, r => by
    have ih := splitCR_free (l := l) (fun d hd => h d (.tail _ hd)) r
    have hc := h c (.head _)
    obtain ⟨d, q, e⟩ : ∃ d q, l ++ [13, 10] ++ r = d :: q := by
      cases l with
      | nil => exact ⟨_, _, rfl⟩
      | cons a l => exact ⟨_, _, rfl⟩
    rw [List.cons_append, List.cons_append, e]
    rw [e] at ih
    conv => lhs; unfold splitCR
    rw [if_neg fun q => hc q.1, ih]
theorem splitCR_one : ∀ {l : List UInt8}, (∀ d ∈ l, d ≠ 13) → splitCR l = [l]
  | [], _ => rfl
  | [c], _ => rfl
  | c :: d :: r, h => by
    have ih := splitCR_one (l := d :: r) fun e he => h e (.tail _ he)
    conv => lhs; unfold splitCR
    rw [if_neg fun q => h c (.head _) q.1, ih]
theorem split_join : ∀ {ls : List (List UInt8)}, ls ≠ [] → (∀ l ∈ ls, ∀ d ∈ l, d ≠ 13) → splitCR (joinL [13, 10] ls) = ls
  | [], h, _ => absurd rfl h
  | [l], _, h => splitCR_one (h l (.head _))
  | l :: m :: r, _, h => by
    have ih := split_join (ls := m :: r) (by simp) fun q hq => h q (.tail _ hq)
    show splitCR (l ++ [13, 10] ++ joinL [13, 10] (m :: r)) = _
    rw [splitCR_free (h l (.head _)), ih]
theorem joinParts_append (a b : List (List UInt8)) : joinParts (a ++ b) = joinParts a ++ joinParts b := by
  unfold joinParts
  rw [List.flatMap_append]
theorem joinParts_fill {w : Int} : ∀ {ps : List (List UInt8)} {line : List UInt8}, (∀ p ∈ ps, 1 ≤ p.length) → LastOk (line ++ ps.flatten) → (joinParts (fillF w line ps)).flatten = joinL [13, 10] (fillF w line ps)
  | [], line, _, hl => by
    rw [List.flatten_nil, List.append_nil] at hl
    show (joinParts [line]).flatten = line
    unfold joinParts
    rw [List.flatMap_cons, if_neg (lastOk_soft hl)]
    simp
  | p :: r, line, h1, hl => by
    have hp := h1 p (.head _)
    have hr := fun q hq => h1 q (.tail p hq)
    by_cases hb : (line.length : Int) + (p.length : Int) > (if r = [] then w else w - 1)
    · rw [fillF_break hb]
      have hl2 : LastOk (p ++ r.flatten) := by
        rw [List.flatten_cons] at hl
        refine (lastOk_append (fun e => ?_)).mp hl
        rw [List.append_eq_nil_iff] at e
        rw [e.1] at hp
        simp at hp
      have ih := joinParts_fill (w := w) (line := p) hr hl2
      rw [joinL_cons _ _ (fill_ne _ _ _), ← ih]
      unfold joinParts
      rw [List.flatMap_cons, if_pos (part_last line 61)]
      simp
    · rw [fillF_go hb]
      exact joinParts_fill hr (by simpa using hl)
theorem joinParts_soft (l : List UInt8) (w : Int) : (joinParts (softLines (linePieces l) w)).flatten = joinL [13, 10] (softLines (linePieces l) w) := by
  rw [softLines_fill]
  exact joinParts_fill (fun p hp => ((linePieces_of l).pos p hp).1) (by simpa using linePieces_last l)
theorem enc_ne {ls : List (List UInt8)} (h : ls ≠ []) (w : Int) : encLines ls w ≠ [] := by
  cases ls with
  | nil => exact absurd rfl h
  | cons l r => simp [encLines]
theorem enc_cons (l : List UInt8) (r : List (List UInt8)) (w : Int) : encLines (l :: r) w = softLines (linePieces l) w ++ [[13, 10]] ++ encLines r w := rfl
theorem joinParts_crlf : joinParts [[13, 10]] = [[13, 10]] := by decide
theorem enc_join (w : Int) : ∀ {ls : List (List UInt8)}, ls ≠ [] → (joinParts (encLines ls w).dropLast).flatten = joinL [13, 10] (qLines ls w)
  | [], h => absurd rfl h
  | [l], _ => by
    rw [enc_cons, qLines_cons]
    show (joinParts (softLines (linePieces l) w ++ [[13, 10]] ++ []).dropLast).flatten = joinL [13, 10] (softLines (linePieces l) w ++ [])
    rw [List.append_nil, List.append_nil, List.dropLast_concat, joinParts_soft]
  | l :: m :: r, _ => by
    have ih := enc_join w (ls := m :: r) (by simp)
    rw [enc_cons, qLines_cons, List.dropLast_append_of_ne_nil (enc_ne (by simp) w), joinParts_append, joinParts_append, joinParts_crlf, List.flatten_append, List.flatten_append, ih, joinParts_soft,
      joinL_append _ (soft_ne l w) (qLines_ne (by simp) w)]
    rfl
theorem quotedEnc_join (x : List UInt8) (b : Bool) (w : Int) : quotedEnc x b w = joinL [13, 10] (qLines (textLines x b) w) := enc_join w (text_ne x b)
theorem dec_enc (x : List UInt8) (b : Bool) (w : Int) : quotedDec (quotedEnc x b w) = x := by
  rw [quotedEnc_join, dec_lines _ (qLines_ne (text_ne x b) w) (q_all (R := fun d => d ≠ 10) (by decide) (fun d h => h.1) _ _), decAll_q w _ (text_ne x b), join_text]
theorem split_enc (x : List UInt8) (b : Bool) (w : Int) : splitCR (quotedEnc x b w) = qLines (textLines x b) w := by
  rw [quotedEnc_join]
  exact split_join (qLines_ne (text_ne x b) w) (q_all (R := fun d => d ≠ 13) (by decide) (fun d h => h.2.1) _ _)
theorem enc_width {w : Int} (hw : 4 ≤ w) (x : List UInt8) (b : Bool) : ∀ l ∈ splitCR (quotedEnc x b w), (l.length : Int) ≤ w := by
  rw [split_enc]
  exact q_width hw _
/-- what the law lays itself -/
noncomputable def quotedLaw (x : List UInt8) (b : Bool) (w : Int) : List UInt8 := joinL [13, 10] ((textLines x b).map fun l => joinL [13, 10] (softLines (linePieces l) w))
theorem join_join (w : Int) : ∀ {ls : List (List UInt8)}, ls ≠ [] → joinL [13, 10] (ls.map fun l => joinL [13, 10] (softLines (linePieces l) w)) = joinL [13, 10] (qLines ls w)
  | [], h => absurd rfl h
  | [l], _ => by
    rw [qLines_cons]
    show _ = joinL [13, 10] (softLines (linePieces l) w ++ [])
    rw [List.append_nil]
    rfl
  | l :: m :: r, _ => by
    have ih := join_join w (ls := m :: r) (by simp)
    rw [qLines_cons, joinL_append _ (soft_ne l w) (qLines_ne (by simp) w), List.map_cons, joinL_cons _ _ (by simp), ih]
theorem law_enc (x : List UInt8) (b : Bool) (w : Int) : quotedLaw x b w = quotedEnc x b w := by
  rw [quotedEnc_join]
  exact join_join w (text_ne x b)
theorem joinL_all {R : UInt8 → Prop} {sep : List UInt8} (hs : ∀ d ∈ sep, R d) : ∀ {ls : List (List UInt8)}, (∀ l ∈ ls, ∀ d ∈ l, R d) → ∀ d ∈ joinL sep ls, R d
  | [], _ => List.forall_mem_nil _
  | [l], h => h l (.head _)
  | l :: m :: r, h => by
    have ih := joinL_all hs (ls := m :: r) fun q hq => h q (.tail _ hq)
    intro d hd
    rw [joinL_cons _ _ (by simp)] at hd
    rcases List.mem_append.mp hd with hd | hd
    · rcases List.mem_append.mp hd with hd | hd
      · exact h l (.head _) d hd
      · exact hs d hd
    · exact ih d hd
theorem law_ascii (x : List UInt8) (b : Bool) (w : Int) : ∀ d ∈ quotedLaw x b w, d.toNat < 128 := by
  rw [law_enc, quotedEnc_join]
  exact joinL_all (by decide) (q_all (R := fun d => d.toNat < 128) (by decide) (fun d h => h.2.2) _ _)
theorem joinL_len (sep : List UInt8) : ∀ ls : List (List UInt8), (joinL sep ls).length ≤ ls.flatten.length + ls.length * sep.length
  | [] => by simp [joinL]
  | [l] => by simp [joinL]
  | l :: m :: r => by
    have ih := joinL_len sep (m :: r)
    rw [joinL_cons _ _ (by simp)]
    simp only [List.flatten_cons, List.length_append, List.length_cons, Nat.add_mul] at ih ⊢
    omega
theorem softL_len (l : List UInt8) (w : Int) : (softLines (linePieces l) w).flatten.length ≤ 4 * l.length ∧ (softLines (linePieces l) w).length ≤ l.length + 1 := by
  have h1 := softLines_len (linePieces l) w
  have h2 := linePieces_len l
  omega
theorem line_len (l : List UInt8) (w : Int) : (joinL [13, 10] (softLines (linePieces l) w)).length ≤ 6 * l.length + 2 := by
  have h1 := joinL_len [13, 10] (softLines (linePieces l) w)
  have h2 := softL_len l w
  simp only [List.length_cons, List.length_nil] at h1
  omega
theorem lines_len (w : Int) : ∀ ls : List (List UInt8), (ls.map fun l => joinL [13, 10] (softLines (linePieces l) w)).flatten.length ≤ 6 * ls.flatten.length + 2 * ls.length
  | [] => by simp
  | l :: r => by
    have ih := lines_len w r
    have := line_len l w
    simp only [List.map_cons, List.flatten_cons, List.length_append, List.length_cons] at ih ⊢
    omega
theorem enc_len (x : List UInt8) (b : Bool) (w : Int) : (quotedEnc x b w).length ≤ 10 * x.length + 4 := by
  have h1 := textLines_len x b
  have h2 := lines_len w (textLines x b)
  have h3 := joinL_len [13, 10] ((textLines x b).map fun l => joinL [13, 10] (softLines (linePieces l) w))
  rw [← law_enc]
  unfold quotedLaw
  simp only [List.length_cons, List.length_nil, List.length_map] at h3
  omega
end
section
/- P4 -/
theorem rows_none_P4 : True := by
  k_with_none
  trivial
open Builtin
/-- the parts between = signs -/
noncomputable def splitEq : List UInt8 → List (List UInt8)
  | [] => [[]]
  | c :: r => if c = 61 then [] :: splitEq r else match splitEq r with
    | h :: t => (c :: h) :: t
    | [] => [[c]]
theorem splitEq_ne : ∀ x, splitEq x ≠ []
  | [] => by simp [splitEq]
  | c :: r => by
    unfold splitEq
    split
    · simp
    · split <;> simp
/-- octets cut at places, one octet left out at each -/
noncomputable def cuts1 (x : List UInt8) : Nat → List Nat → List (List UInt8)
  | k, [] => [x.drop k]
  | k, p :: r => (x.drop k).take (p - k) :: cuts1 x (p + 1) r
theorem between_cuts1 (x : List UInt8) (ps : List Nat) : (Bytes.between x.toArray 1 ps).map (·.toList) = cuts1 x 0 ps := by
  unfold Bytes.between
  have key : ∀ (ps : List Nat) (a : Array (Array UInt8)) (k : Nat),
      (let q := ps.foldl (fun (q : Array (Array UInt8) × Nat) p => (q.1.push (x.toArray.extract q.2 p), p + 1)) (a, k)
       (q.1.push (x.toArray.extract q.2 x.toArray.size)).toList.map (·.toList)) = a.toList.map (·.toList) ++ cuts1 x k ps := by
    intro ps
    induction ps with
    | nil =>
      intro a k
      simp only [List.foldl_nil, cuts1, Array.toList_push, List.map_append, List.map_cons, List.map_nil, List.extract_toArray, List.size_toArray, List.extract_eq_take_drop]
      rw [List.take_of_length_le (by simp)]
    | cons p r ih =>
      intro a k
      simp only [List.foldl_cons]
      rw [ih]
      simp only [cuts1, Array.toList_push, List.map_append, List.map_cons, List.map_nil, List.extract_toArray, List.extract_eq_take_drop, List.append_assoc, List.cons_append, List.nil_append]
  have := key ps #[] 0
  simpa using this
noncomputable def occ1 (x : List UInt8) (acc : List Nat × Nat) (i : Nat) : List Nat × Nat :=
  if i ≥ acc.2 && x.toArray.extract i (i + 1) == #[61] then (i :: acc.1, i + 1) else acc
theorem at_one (x : List UInt8) (i : Nat) : (x.toArray.extract i (i + 1) == #[61]) = decide (x[i]? = some 61) := by
  rw [List.extract_toArray, List.extract_eq_take_drop, show i + 1 - i = 1 by omega]
  have e : ((x.drop i).take 1).toArray = #[61] ↔ x[i]? = some 61 := by
    have h1 : x[i]? = (x.drop i)[0]? := by simp
    rw [h1]
    generalize x.drop i = y
    match y with
    | [] => simp
    | c :: r => simp
  by_cases h : x[i]? = some 61
  · rw [decide_eq_true h, e.mpr h]; rfl
  · rw [decide_eq_false h]
    have : ¬ ((x.drop i).take 1).toArray = #[61] := fun q => h (e.mp q)
    simpa using this
theorem occ1_run (x : List UInt8) : ∀ (j k : Nat) (acc : List Nat) (nx : Nat), k + j = x.length → nx ≤ k →
    ∃ ps, ((List.range' k j).foldl (occ1 x) (acc, nx)).1 = ps.reverse ++ acc ∧ cuts1 x k ps = splitEq (x.drop k) ∧ ps.length ≤ j ∧ ∀ p ∈ ps, k ≤ p := by
  intro j
  induction j with
  | zero =>
    intro k acc nx hj hnx
    refine ⟨[], by simp, ?_, Nat.le_refl _, by simp⟩
    have hl : x.drop k = [] := List.drop_eq_nil_of_le (by omega)
    unfold cuts1
    rw [hl]
    rfl
  | succ j ih =>
    intro k acc nx hj hnx
    have hlt : k < x.length := by omega
    have hd : x.drop k = x[k] :: x.drop (k + 1) := List.drop_eq_getElem_cons hlt
    have g1 : x[k]? = some x[k] := List.getElem?_eq_getElem hlt
    rw [List.range'_succ, List.foldl_cons]
    by_cases hc : x[k] = 61
    · have hs : occ1 x (acc, nx) k = (k :: acc, k + 1) := by
        unfold occ1
        rw [at_one, g1]
        simp [hnx, hc]
      rw [hs]
      obtain ⟨ps, e1, e2, e3, e4⟩ := ih (k + 1) (k :: acc) (k + 1) (by omega) (Nat.le_refl _)
      refine ⟨k :: ps, ?_, ?_, ?_, ?_⟩
      · rw [e1]; simp
      · have hcr : splitEq (x.drop k) = [] :: splitEq (x.drop (k + 1)) := by rw [hd, splitEq, if_pos hc]
        rw [hcr]
        unfold cuts1
        rw [e2]
        simp
      · simp; omega
      · intro p hp
        rcases List.mem_cons.mp hp with rfl | hp
        · exact Nat.le_refl _
        · have := e4 p hp; omega
    · have hs : occ1 x (acc, nx) k = (acc, nx) := by
        unfold occ1
        rw [at_one, g1]
        simp only [Option.some.injEq, hc, decide_false, Bool.and_false, Bool.false_eq_true, if_false]
      rw [hs]
      obtain ⟨ps, e1, e2, e3, e4⟩ := ih (k + 1) acc nx (by omega) (by omega)
      refine ⟨ps, e1, ?_, by omega, fun p hp => by have := e4 p hp; omega⟩
      have hcr : splitEq (x.drop k) = match splitEq (x.drop (k + 1)) with
          | h :: t => (x[k] :: h) :: t
          | [] => [[x[k]]] := by
        rw [hd]
        conv => lhs; unfold splitEq
        rw [if_neg hc]
      rw [hcr, ← e2]
      match ps, e4 with
      | [], _ => simp only [cuts1]; rw [hd]
      | p :: r, e4 =>
        have hp := e4 p (.head _)
        simp only [cuts1]
        rw [hd, show p - k = (p - (k + 1)) + 1 by omega, List.take_succ_cons]
theorem occ1_all (x : List UInt8) : Bytes.occurrences x.toArray #[61] 0 x.length = ((List.range' 0 x.length).foldl (occ1 x) ([], 0)).1.reverse := by
  unfold Bytes.occurrences
  have e : x.length + 1 - (0 + (#[61] : Array UInt8).size) = x.length := by simp
  rw [e]
  have e2 : (List.range x.length).map (· + 0) = List.range' 0 x.length := by
    rw [List.range_eq_range']; simp
  rw [e2]
  rfl
theorem cutAt_eq (x : List UInt8) : cutAt x [61] = splitEq x ∧ (Bytes.occurrences x.toArray #[61] 0 x.length).length ≤ x.length := by
  obtain ⟨ps, e1, e2, e3, _⟩ := occ1_run x x.length 0 [] 0 (by omega) (Nat.le_refl _)
  have eo : Bytes.occurrences x.toArray #[61] 0 x.length = ps := by rw [occ1_all, e1]; simp
  refine ⟨?_, by rw [eo]; omega⟩
  unfold cutAt
  show (Bytes.between x.toArray 1 (Bytes.occurrences x.toArray #[61] 0 x.length)).map (·.toList) = _
  rw [eo, between_cuts1, e2, List.drop_zero]
theorem splitEq_len : ∀ x, (splitEq x).length ≤ x.length + 1 ∧ (splitEq x).flatten.length ≤ x.length
  | [] => by simp [splitEq]
  | c :: r => by
    have := splitEq_len r
    unfold splitEq
    split
    · simp only [List.length_cons, List.flatten_cons, List.nil_append]; omega
    · split
      · rename_i h t e
        rw [e] at this
        simp only [List.length_cons, List.flatten_cons, List.length_append] at this ⊢; omega
      · simp
noncomputable abbrev figs : List UInt8 := [48, 49, 50, 51, 52, 53, 54, 55, 56, 57, 97, 98, 99, 100, 101, 102]
theorem figs_at (c : UInt8) : figs.contains (Bytes.toLower c) = decide (0 ≤ hexWorth (c.toNat : Int)) ∧ (0 ≤ hexWorth (c.toNat : Int) → figs.findIdx? (· == Bytes.toLower c) = some (hexWorth (c.toNat : Int)).toNat) :=
  byte_all (P := fun c => figs.contains (Bytes.toLower c) = decide (0 ≤ hexWorth (c.toNat : Int)) ∧ (0 ≤ hexWorth (c.toNat : Int) → figs.findIdx? (· == Bytes.toLower c) = some (hexWorth (c.toNat : Int)).toNat)) (by decide +kernel) c
/-- what the law makes of the part behind an = -/
noncomputable def partOut : List UInt8 → List UInt8
  | h :: l :: r => if 0 ≤ hexWorth (h.toNat : Int) ∧ 0 ≤ hexWorth (l.toNat : Int) then (16 * hexWorth (h.toNat : Int) + hexWorth (l.toNat : Int)).toNat.toUInt8 :: r else 61 :: h :: l :: r
  | x => 61 :: x
theorem partOut_cons (h l : UInt8) (r : List UInt8) : partOut (h :: l :: r) = if 0 ≤ hexWorth (h.toNat : Int) ∧ 0 ≤ hexWorth (l.toNat : Int) then (16 * hexWorth (h.toNat : Int) + hexWorth (l.toNat : Int)).toNat.toUInt8 :: r else 61 :: h :: l :: r := rfl
theorem partOut_len (x : List UInt8) : (partOut x).length ≤ x.length + 1 := by
  unfold partOut
  split
  · split <;> simp
  · simp
noncomputable def readParts (ps : List (List UInt8)) : List UInt8 := ps.headD [] ++ ps.tail.flatMap partOut
theorem readParts_cons (h : List UInt8) (t : List (List UInt8)) : readParts (h :: t) = h ++ t.flatMap partOut := rfl
theorem hex61 : ¬ 0 ≤ hexWorth ((61 : UInt8).toNat : Int) := by decide
theorem read_unq : ∀ (n : Nat) (x : List UInt8), x.length = n → readParts (splitEq x) = unqL x := by
  intro n
  induction n using Nat.strongRecOn with
  | _ n ih =>
    intro x hn
    match x, hn with
    | [], _ => rfl
    | c :: r, hn =>
      rw [List.length_cons] at hn
      have ihr := ih r.length (by omega) r rfl
      by_cases hc : c = 61
      · subst hc
        have e1 : splitEq (61 :: r) = [] :: splitEq r := by rw [splitEq, if_pos rfl]
        rw [e1, readParts_cons, List.nil_append]
        match r, hn, ihr with
        | [], _, _ => rfl
        | [d], _, ihr =>
          by_cases hd : d = 61
          · subst hd; rfl
          · have e2 : splitEq [d] = [[d]] := by simp [splitEq, hd]
            rw [e2]
            rfl
        | a :: b :: q, hn, ihr =>
          simp only [List.length_cons] at hn
          by_cases hab : 0 ≤ hexWorth (a.toNat : Int) ∧ 0 ≤ hexWorth (b.toNat : Int)
          · have ha : a ≠ 61 := fun e => hex61 (e ▸ hab.1)
            have hb : b ≠ 61 := fun e => hex61 (e ▸ hab.2)
            obtain ⟨h, t, e⟩ := List.exists_cons_of_ne_nil (splitEq_ne q)
            have e2 : splitEq (b :: q) = (b :: h) :: t := by rw [splitEq, if_neg hb, e]
            have e3 : splitEq (a :: b :: q) = (a :: b :: h) :: t := by rw [splitEq, if_neg ha, e2]
            have ihq := ih q.length (by omega) q rfl
            rw [e, readParts_cons] at ihq
            rw [e3, List.flatMap_cons]
            conv => rhs; unfold unqL
            rw [if_pos ⟨rfl, hab⟩, ← ihq]
            rw [partOut_cons, if_pos hab]
            rfl
          · obtain ⟨h, t, e⟩ := List.exists_cons_of_ne_nil (splitEq_ne (a :: b :: q))
            have hh : partOut h = 61 :: h := by
              match h, e with
              | [], _ => rfl
              | [d], _ => rfl
              | d :: g :: z, e =>
                have ha : a ≠ 61 := by
                  rintro rfl
                  rw [splitEq, if_pos rfl] at e
                  exact absurd (List.cons.inj e).1 (by simp)
                obtain ⟨h2, t2, e2⟩ := List.exists_cons_of_ne_nil (splitEq_ne (b :: q))
                rw [splitEq, if_neg ha, e2] at e
                have e3 := (List.cons.inj e).1
                have e4 := (List.cons.inj e3).1
                have e5 := (List.cons.inj e3).2
                have hb : b ≠ 61 := by
                  rintro rfl
                  rw [splitEq, if_pos rfl] at e2
                  rw [← (List.cons.inj e2).1] at e5
                  simp at e5
                obtain ⟨h3, t3, e6⟩ := List.exists_cons_of_ne_nil (splitEq_ne q)
                rw [splitEq, if_neg hb, e6] at e2
                have e7 := (List.cons.inj e2).1
                rw [← e7] at e5
                have e8 := (List.cons.inj e5).1
                subst e4; subst e8
                rw [partOut_cons, if_neg hab]
            rw [e, readParts_cons] at ihr
            rw [e, List.flatMap_cons, hh]
            conv => rhs; unfold unqL
            rw [if_neg fun z => hab z.2, ← ihr]
            rfl
      · obtain ⟨h, t, e⟩ := List.exists_cons_of_ne_nil (splitEq_ne r)
        have e1 : splitEq (c :: r) = (c :: h) :: t := by rw [splitEq, if_neg hc, e]
        rw [e, readParts_cons] at ihr
        rw [e1, readParts_cons, unqL_plain hc, ← ihr]
        rfl
theorem read_parts (x : List UInt8) : readParts (splitEq x) = unquoted x := by rw [read_unq _ x rfl, unquoted_eq]
theorem flat_out (ps : List (List UInt8)) : (ps.flatMap partOut).length ≤ ps.flatten.length + ps.length := by
  induction ps with
  | nil => simp
  | cons p r ih =>
    have := partOut_len p
    simp only [List.flatMap_cons, List.flatten_cons, List.length_append, List.length_cons]; omega
theorem rstripped_snoc (p : UInt8 → Bool) (y : List UInt8) (d : UInt8) : rstripped p (y ++ [d]) = if p d = true then rstripped p y else y ++ [d] := by
  unfold rstripped
  rw [List.reverse_append, List.reverse_singleton, List.singleton_append]
  split
  · rename_i h
    rw [List.dropWhile_cons_of_pos h]
  · rename_i h
    rw [List.dropWhile_cons_of_neg h]
    simp
end
section
/- R13 -/
theorem rows_none_R13 : True := by
  k_with_none
  trivial
open Builtin
theorem gives_contains {x : List UInt8} {t u : Tok} {k : Int} (h0 : 0 ≤ k) (h1 : k < 256) :
    Gives («bytes.__contains__» ⟨[.bytes x.toArray t, .int k u], []⟩) (.val (.bool (x.contains k.toNat.toUInt8))) := by
  refine .of_wp fun M A E s Q h => ?_
  show wpAny _ _ (Bytes.containsIn "bytes.__contains__" (.bytes x.toArray t) (.int k u) >>= fun b => ret (.bool b)) _ _ s
  unfold Bytes.containsIn
  refine wpAny_bind (wpAny_bind ?_)
  refine wpAny_of_eq (a := .ok k) rfl ?_
  have e : (decide (k < 0) || decide (k ≥ 256)) = false := by simp; omega
  simp only [KBy.buffer_eq, pure_bind, e, Bool.false_eq_true, if_false]
  refine wpAny_pure (wpAny_pure ⟨_, rfl, ?_⟩)
  replace h : Q (.bool (x.contains k.toNat.toUInt8)) s := h
  simpa using h
section
variable {prog : Program} {w : World} {A : Around} {E : Value → Shared → Prop} {s : Shared}
theorem in_b {x : List UInt8} {t u : Tok} {k : Int} {Q : Value → Shared → Prop} (h0 : 0 ≤ k) (h1 : k < 256) (h : Q (.bool (x.contains k.toNat.toUInt8)) s) :
    wpAny (model prog w) A (compareOp .In (.int k u) (.bytes x.toArray t)) Q E s :=
  in_gives (typeIs_bytes _ _ _) FB.slot_bytes_contains FB.entry_bytes_contains (FB.args_bytes_contains_2 _ _) (gives_contains h0 h1) h
theorem eqBool_b {x y : List UInt8} {t u : Tok} {Q : Bool → Shared → Prop} (h : Q (x == y) s) : wpAny (model prog w) A (eqBool (.bytes x.toArray t) (.bytes y.toArray u)) Q E s := by
  unfold eqBool
  show wpAny _ _ (if (Value.bytes x.toArray t == Value.bytes y.toArray u) = true then _ else _) Q E s
  by_cases hab : (Value.bytes x.toArray t == Value.bytes y.toArray u) = true
  · rw [if_pos hab]
    have e : x = y := by
      have := eq_of_beq hab
      injection this with e
      simpa using e
    subst e
    exact wpAny_bind (wpAny_rule (wpAny_pure (by simpa using h)))
  · rw [if_neg hab]
    exact wpAny_bind (PySem.W.eq_bytes (wpAny_truthy_bool (by simpa using h)))
theorem tuple_contains_bs {t : Addr} {items : Array Value} {ys : List (List UInt8)} {x : List UInt8} {u : Tok} {P : PySem.Fin → Shared → Prop} (ht : IsTup s.heap t items) (hi : BsAre items.toList ys)
    (h : P (.done (.ret (.bool (ys.any (· == x))))) s) : wpAny (model prog w) A (Builtin.«tuple.__contains__» ⟨[.ref t, .bytes x.toArray u], []⟩) P E s := by
  show wpAny _ _ (Builtin.Tuple.tupleItemsOf (.ref t) >>= _) _ _ s
  refine wpAny_bind (tupleItemsOf_ ht ?_)
  refine wpAny_bind (forIn_array_ _ (fun rest b s' => b.1 = none ∧ s' = s ∧ ∃ ms, BsAre rest ms ∧ P (.done (.ret (.bool (ms.any (· == x))))) s) _ ?_ ?_ items _ ⟨rfl, rfl, ys, hi, h⟩)
  · rintro y rest b s' ⟨hb, rfl, ms, hm, hP⟩
    cases hm with
    | cons n tk hm' =>
      refine wpAny_bind (eqBool_b ?_)
      rw [List.any_cons] at hP
      cases hnx : (n == x) with
      | true =>
        rw [hnx] at hP
        exact wpAny_bind (wpAny_pure (wpAny_pure (wpAny_pure (by simpa using hP))))
      | false =>
        rw [hnx] at hP
        exact wpAny_pure ⟨rfl, rfl, _, hm', by simpa using hP⟩
  · rintro ⟨b1, b2⟩ s' ⟨hb, rfl, ms, hm, hP⟩
    cases hm
    simp only at hb
    subst hb
    exact wpAny_pure (by simpa using hP)
theorem contains_tuple_bs {t : Addr} {items : Array Value} {ys : List (List UInt8)} {x : List UInt8} {u : Tok} {Q : Bool → Shared → Prop} (ht : IsTup s.heap t items) (hi : BsAre items.toList ys)
    (h : Q (ys.any (· == x)) s) : wpAny (model prog w) A (contains (.ref t) (.bytes x.toArray u)) Q E s := by
  unfold contains
  refine wpAny_holding ?_
  refine wpAny_bind (wpAny_specialOf ht.typeIs slot_tuple_contains.lookup ?_)
  rw [if_neg (by decide)]
  exact wpAny_bind (wpAny_callSpecialUnlessNone?_slot (name := Str.ofString "__contains__") ht.typeIs slot_tuple_contains
    (wpAny_call_entry slot_tuple_contains ht.typeIs entry_tuple_contains (tuple_contains_bs ht hi ⟨_, rfl, wpAny_truthy_bool h⟩) (args_tuple_contains _ _)))
theorem in_tup {t : Addr} {items : List Value} {ys : List (List UInt8)} {x : List UInt8} {u : Tok} {Q : Value → Shared → Prop} (ht : IsTup s.heap t items.toArray) (hi : BsAre items ys)
    (h : Q (.bool (ys.any (· == x))) s) : wpAny (model prog w) A (compareOp .In (.bytes x.toArray u) (.ref t)) Q E s := by
  show wpAny _ _ (do return .bool (← contains (.ref t) (.bytes x.toArray u))) Q E s
  exact wpAny_bind (contains_tuple_bs ht (by simpa using hi) (wpAny_pure h))
end
section
variable {prog : Program} {w : World} {A : Around} {E : Value → Shared → Prop} {s : Shared} {x : List UInt8} {t u : Tok} {Q : Value → Shared → Prop}
theorem find_of_contains {x : List UInt8} {c : UInt8} (h : x.contains c = true) : ∃ i, x.findIdx? (· == c) = some i := by
  cases hf : x.findIdx? (· == c) with
  | some i => exact ⟨i, rfl⟩
  | none =>
    rw [List.findIdx?_eq_none_iff] at hf
    have := hf c (by simpa using h)
    simp at this
theorem call_indexC {k : Int} (h0 : 0 ≤ k) (h1 : k < 256) (hc : x.contains k.toNat.toUInt8 = true) (h : ∀ i t' k', x.findIdx? (· == k.toNat.toUInt8) = some i → Q (.int ((i : Nat) : Int) t') { s with toks := k' }) :
    wpAny (model prog w) A (call (.builtin "bytes.index") [.bytes x.toArray t, .int k u]) Q E s := by
  obtain ⟨i, hi⟩ := find_of_contains hc
  exact call_index h0 h1 hi fun t' k' => h i t' k' hi
end
theorem call_split_eq {prog : Program} {w : World} {A : Around} {E : Value → Shared → Prop} {s : Shared} {Q : Value → Shared → Prop} {x : List UInt8} {t u : Tok} {h₀ : Heap} {L : Addr} {m : Str → Option Value} {news : List (Addr × Obj)} (F : Fr h₀ L s.heap m) (N : News h₀ L s.heap news) (hx : x.length ≤ 16777215)
    (h : ∀ D vs h' k', BsAre vs (splitEq x) → Fr h₀ L h' m → News h₀ L h' ((D, listOf vs.toArray 0) :: news) → (∀ p ∈ news, p.1 < D) → Q (.ref D) { s with heap := h', toks := k' }) :
    wpAny (model prog w) A (call (.builtin "bytes.split") [.bytes x.toArray t, .bytes #[61] u]) Q E s := by
  obtain ⟨e1, e2⟩ := cutAt_eq x
  have e3 := splitEq_len x
  refine call_split (y := [61]) F N (by simp) ?_ ?_ ?_ ?_
  · intro p hp
    rw [e1] at hp
    have := mem_flat_le hp
    omega
  · rw [e1]; omega
  · have := e2; omega
  · rw [e1]; exact h
/-- a turn's end of a loop that changes no list -/
noncomputable def L0Post {τ : Type} (h₀ : Heap) (L : Addr) (tl : List (Addr × Obj)) (ps : τ → List (Str × Value)) (x : Str) (stored : List Str) (m₀ : Str → Option Value) (P : τ → Prop) (Q : Flow → Shared → Prop) (s₁ : Shared) (f : Flow) (s₂ : Shared) : Prop :=
  match f with
  | .ret v => Q (.ret v) s₂
  | .brk => Q .next s₂
  | _ => ∃ (c : τ) (h' : Heap) (tk : Nat) (m' : Str → Option Value), s₂ = { s₁ with heap := h', toks := tk } ∧ Fr h₀ L h' m' ∧ News h₀ L h' tl ∧
      (∀ p ∈ ps c, m' p.1 = some p.2) ∧ (∀ z, z ≠ x → (∀ p ∈ ps c, z ≠ p.1) → stored.contains z = false → m' z = m₀ z) ∧ P c
theorem l0_done {τ : Type} {x : Str} {h₀ : Heap} {L : Addr} {tl : List (Addr × Obj)} {ps : τ → List (Str × Value)} {stored : List Str} {m₀ m' : Str → Option Value} {P : τ → Prop} {Q : Flow → Shared → Prop} {s₁ : Shared} {h' : Heap} {tk : Nat} (c : τ)
    (F : Fr h₀ L h' m') (N : News h₀ L h' tl) (hk : ∀ p ∈ ps c, m' p.1 = some p.2) (hr : ∀ z, z ≠ x → (∀ p ∈ ps c, z ≠ p.1) → stored.contains z = false → m' z = m₀ z) (hp : P c) :
    L0Post h₀ L tl ps x stored m₀ P Q s₁ .next { s₁ with heap := h', toks := tk } := ⟨c, h', tk, m', rfl, F, N, hk, hr, hp⟩
section
variable {prog : Program} {w : World} {A : Around} {E : Value → Shared → Prop} {s : Shared} {env : Env} {h₀ : Heap} {x : Str} {body : List Stmt} {Q : Flow → Shared → Prop}
/-- a loop over a list that the ledger holds, no list changed -/
theorem lp_list0 {τ : Type} {l : Addr} {news : List (Addr × Obj)} {ws : List Value} {m₀ : Str → Option Value}
    (N : News h₀ env.locals s.heap news) (ps : τ → List (Str × Value)) (stored : List Str) (P : Nat → τ → Prop)
    (hh : A.handled = none) (hl : s.heap.IsList l ws.toArray) (hlL : l ≠ env.locals)
    (F : Fr h₀ env.locals s.heap m₀) (hs : ∃ c₀ : τ, (∀ p ∈ ps c₀, m₀ p.1 = some p.2) ∧ P 0 c₀)
    (turn : ∀ (i : Nat) (c : τ) v (u : Str → Option Value) h tk tl, ws[i]? = some v → (∀ p ∈ news, p ∈ tl) → P i c →
      Fr h₀ env.locals h (fun y => if y = x then some v else kstB (fun z => if stored.contains z then u z else m₀ z) (ps c) y) → News h₀ env.locals h tl →
      wpAny (model prog w) A (execs body env) (L0Post h₀ env.locals tl ps x stored m₀ (P (i + 1)) Q { s with heap := h, toks := tk }) E { s with heap := h, toks := tk })
    (done : ∀ (c : τ) (u : Str → Option Value) h tk, P ws.length c → Fr h₀ env.locals h (fun y => if y = x then u y else kstB (fun z => if stored.contains z then u z else m₀ z) (ps c) y) → News h₀ env.locals h news → Q .next { s with heap := h, toks := tk }) :
    wpAny (model prog w) A (pyIter (.ref l)) (fun it s₂ => LoopAtV prog w A h₀ env x body Q E it s₂) E s := by
  have lts : ∀ p ∈ news, p.1 < s.heap.objs.size := fun p hp => Heap.lt_size (N p hp).1
  obtain ⟨ol, hol, _⟩ := id hl
  have hne : l ≠ s.heap.objs.size := Nat.ne_of_lt (Heap.lt_size hol)
  refine wpAny_pyIter_list hl ?_
  have W := Walks.list (prog := prog) (w := w) hh s.heap.objs.size l hne ws.toArray
  rw [List.size_toArray] at W
  obtain ⟨c₀, hk, hp⟩ := hs
  let J : Nat → (Str → Option Value) → List (Addr × Obj) → Prop := fun i m nx => ∃ c, nx = news ∧ (∀ p ∈ ps c, m p.1 = some p.2) ∧ (∀ z, z ≠ x → (∀ p ∈ ps c, z ≠ p.1) → stored.contains z = false → m z = m₀ z) ∧ P i c
  refine ⟨s.heap.objs.size, _, _, ws.length, _, _, m₀, news, J, rfl, W, ?_, ?_, ?_, ⟨⟨_, Heap.get?_push_size _ rfl, rfl, rfl⟩, hl.at fun o e => Heap.get?_push_of_some _ e⟩, F.push _, (fun p hp => ⟨Heap.get?_push_of_some _ (N p hp).1, (N p hp).2⟩), ⟨c₀, rfl, hk, fun _ _ _ _ => rfl, hp⟩, ?_, ?_⟩
  · intro hm
    rcases List.mem_cons.mp hm with e | hm
    · exact absurd F.ns.lt (e ▸ Nat.lt_irrefl _)
    · exact hlL (List.mem_singleton.mp hm).symm
  · intro b hb
    rw [List.mem_singleton.mp hb]
    exact next_is_new F
  · intro p hp hI
    exact absurd (lts p hp) ((List.mem_singleton.mp hI) ▸ Nat.lt_irrefl _)
  · rintro i v m₁ news₁ s₁ own ⟨hh', tk', rfl⟩ hin hPv ⟨c, rfl, h1, h2, hp'⟩ hoff hown _ _ _ F₁ N₁
    refine wpAny_mono (turn i c v m₁ hh' tk' (own ++ news₁) (by simpa using hPv) (fun p hp => List.mem_append_right _ hp) hp' (kst_fr h1 h2 F₁) N₁) (fun f s₂ q => ?_) fun _ _ e => e
    have fin : (∃ (c : τ) (h' : Heap) (tk : Nat) (m' : Str → Option Value), s₂ = { s with heap := h', toks := tk } ∧ Fr h₀ env.locals h' m' ∧ News h₀ env.locals h' (own ++ news₁) ∧
      (∀ p ∈ ps c, m' p.1 = some p.2) ∧ (∀ z, z ≠ x → (∀ p ∈ ps c, z ≠ p.1) → stored.contains z = false → m' z = m₀ z) ∧ P (i + 1) c) → LoopStepU h₀ env.locals [s.heap.objs.size] own (J (i + 1)) { s with heap := hh', toks := tk' } .next s₂ := by
      rintro ⟨c', h', tk, m', rfl, F', N', hk', hr', hP'⟩
      exact ⟨rfl, h', tk, m', news₁, rfl, F', N', fun p hp hI => absurd (lts p hp) ((List.mem_singleton.mp hI) ▸ Nat.lt_irrefl _), c', rfl, hk', hr', hP'⟩
    cases f with
    | ret v => exact .ret q
    | brk => exact .brk q
    | next => exact .next (fin q)
    | cont => exact .cont (fin q)
  · rintro h' tk m' news' F' N' _ ⟨c, rfl, h1, h2, hp'⟩
    exact done c m' h' tk hp' (kst_frOut h1 h2 F') N'
end
end
section
/- D6 -/
open Builtin
theorem filledD6 : hd.heap_1 = hd.heap_1 ∧ PySem.Challenge.rw_no0355_01 = PySem.Challenge.rw_no0355_01 := by
  k_fill
  exact ⟨rfl, rfl⟩
theorem lt_cons {D A : Addr} {o : Obj} {news : List (Addr × Obj)} (q : A < D ∧ AllLt D news) : ∀ p ∈ (A, o) :: news, p.1 < D := fun p hp => by
  rcases List.mem_cons.mp hp with rfl | hp
  · exact q.1
  · exact allLt q.2 p hp
theorem pieces_alike : ∀ x, ∀ p ∈ lawPieces x, 1 ≤ p.length ∧ p.length ≤ 3 := fun x => by
  rw [lawPieces_line]
  exact (linePieces_of x).pos
section
variable {s : Shared}
theorem method_e {M : Model} {A : Around} {E : Value → Shared → Prop} {pl : Sem Bool} {x : Str} {t : Tok} {Q : Value × List Value → Shared → Prop}
    (h : Q (.builtin "str.encode", [.str x t]) s) : wpAny M A (getMethod (.str x t) "encode" pl) Q E s :=
  getMethod_builtin (typeIs_str _ _ _) F.plainAttrs_str F.slot_str_encode F.type_str_encode (fun _ e => nomatch e) h
end
theorem rows_16 : True := by
  k_with_none
  k_with "my getMethod bytes" => (k_here; first | refine method_b slot_bytes_find type_bytes_find ?_ | refine method_b slot_bytes_index type_bytes_index ?_ | refine method_b slot_bytes_lower type_bytes_lower ?_ | refine method_b slot_bytes_rstrip type_bytes_rstrip ?_ | refine method_b slot_bytes_split type_bytes_split ?_ | refine method_b slot_bytes_join type_bytes_join ?_)
  k_with "my call builtin:bytes.find" => (k_here; first | refine call_find3 ?_ | refine call_find2 ?_; intro _ _)
  k_with "my call builtin:bytes.lower" => (k_here; refine call_lower (Side.out ?_) ?_; rotate_left; intro _ _)
  k_with "my call builtin:bytes.rstrip" => (k_here; refine call_rstrip (Side.out ?_) ?_; rotate_left; intro _ _)
  k_with "my binaryOp Add bytes bytes" => (k_here; refine add_b (Side.out ?_) ?_; rotate_left; intro _ _)
  k_with "my subscriptTail" => (k_here; (with_reducible show wpAny _ _ (subscriptTail _ _ (Value.bytes (List.toArray _) _) (Value.int _ _)) _ _ _); (refine item_b (Side.out ?_) (Side.out ?_) (Side.out ?_) ?_; rotate_left; rotate_left; rotate_left; intro _ _))
  k_with "my subscriptTail" => (k_here; (with_reducible show wpAny _ _ (subscriptTail _ (Expr.Slice _ _ none _) (Value.bytes (List.toArray _) _) (Value.ref _)) _ _ _); (with_reducible rename Fr _ _ _ _ => F'); (with_reducible rename News _ _ _ _ => N'); (refine slice_b (s := ⟨_, _, _, _, _⟩) F' N' (by constructor) (by constructor) (Side.out ?_) ?_; rotate_left; intro _ _ _ _ _))
  k_with "my call builtin:len" => (k_here; (with_reducible show wpAny _ _ (call (Value.builtin "len") [Value.bytes (List.toArray _) _]) _ _ _); (refine len_b (Side.out ?_) ?_; rotate_left; intro _ _))
  k_with "my binaryOp FloorDiv int int" => (k_here; refine fdiv_i (by first | decide | omega) (by exact PyProof.noPylong_small (by omega)) ?_; intro _ _)
  k_with "my binaryOp Mod int int" => (k_here; refine fmod_i (by first | decide | omega) ?_; intro _ _)
  k_with "my call type:bytes" => (k_here; (with_reducible show wpAny _ _ (call (Value.type _) [Value.ref _]) _ _ _); k_dflt (refine' bytes_d (by k_asm) (by k_asm) ?q526i (Side.out ?_) (Side.out ?_) ?q526h ?_; (case q526i => first | l_ints | assumption); (case q526h => with_unfolding_all rfl)); rotate_left; rotate_left; intro _ _ _ _ _; (try k_sweep))
  k_with "my dropN" => first | k_asm | (refine' cb_drop ?q527cbN ?q527cbS; (case q527cbN => assumption); (case q527cbS => kcj_all))
  k_with "my sides" => (all_goals try (show Side _; unfold Side; first | assumption | omega | (simp only [List.length_cons, List.length_nil]; omega) | (simp only [List.length_append, List.length_map, List.length_cons, List.length_nil]; omega) | decide))
  k_with "my cx" => exact ⟨by k_asm, by k_asm, by k_asm, by k_asm, by k_asm, by first | exact rfl | assumption⟩
  k_with "my exec For Name Call cons nil" => (k_here; refine Stop.mk ?_)
  k_with "my exec For Name Name cons nil" => (k_here; refine Stop.mk ?_)
  k_with "my pyIter ref" => ((with_reducible show wpAny _ _ (pyIter (Value.ref _)) (fun it s₂ => LoopAtV _ _ _ _ _ _ _ _ _ it s₂) _ _); refine Stop.mk ?_)
  k_with "my InvPostN" => (dsimp only [InvPostN])
  k_with "my InvEndN" => (refine Stop.mk ?_)
  k_with "my call builtin:list.append" => (k_here; (with_reducible show wpAny _ _ (call (Value.builtin _) [Value.ref _, _]) _ _ _); k_dflt (refine' append_h (by k_asm) (by k_asm) (Side.out ?_) (Side.out ?_) ?_); rotate_left; rotate_left; intro _ _ _ _; (try k_sweep))
  k_with "my frameSame" => (intro _ h1 h2 h3; (try simp only [List.forall_mem_cons, List.not_mem_nil, false_implies, implies_true, and_true, ne_eq] at h2); (try simp only [List.contains_cons, List.contains_nil, Bool.or_false, Bool.or_eq_false_iff, beq_eq_false_iff_ne, ne_eq] at h3); first | (simp [kstB, h1, h2, h3]; done) | (simp [kstB, h1, h3]; done) | (simp [kstB, h1, h2]; done) | (simp [kstB, h1]; done))
  k_with "my memNil" => exact (fun _ h => nomatch h)
  k_with "my memL" => first | assumption | exact List.Mem.head _ | (refine List.Mem.tail _ ?_; walk_at "memL") | (refine List.mem_append.mpr (.inr ?_); walk_at "memL") | (refine List.mem_append.mpr (.inl ?_); walk_at "memL")
  k_with "my isL" => exact newsList (by k_asm) (by walk_at "memL")
  k_with "my call builtin:len" => (k_here; (with_reducible show wpAny _ _ (call (Value.builtin "len") [Value.ref _]) _ _ _); (refine len_l (by walk_at "isL") (Side.out ?_) ?_; rotate_left; intro _ _))
  k_with "my subscriptTail" => (k_here; (with_reducible show wpAny _ _ (subscriptTail _ _ (Value.ref _) (Value.int _ _)) _ _ _); (refine item_l (by walk_at "isL") (by assumption) (Side.out ?_) (Side.out ?_) (Side.out ?_) ?_; rotate_left; rotate_left; rotate_left; intro _))
  k_with "my subscriptTail" => (k_here; (with_reducible show wpAny _ _ (subscriptTail _ (Expr.Slice _ _ none _) (Value.ref _) (Value.ref _)) _ _ _); (with_reducible rename Fr _ _ _ _ => F'); (with_reducible rename News _ _ _ _ => N'); (refine slice_l (s := ⟨_, _, _, _, _⟩) F' N' (newsList N' (by walk_at "memL")) (by constructor) (by constructor) (Side.out ?_) ?_; rotate_left; intro _ _ F' N' _))
  k_with "my binaryOp Add ref ref" => (k_here; (refine add_l (by k_asm) (by k_asm) (by walk_at "isL") (by walk_at "isL") (Side.out ?_) ?_; rotate_left; intro _ _ _ _ _))
  k_with "my call builtin:list.extend" => (k_here; k_dflt (refine' extend_h (by k_asm) (by k_asm) (Side.out ?_) (Side.out ?_) (Side.out ?_) ?_); rotate_left; rotate_left; rotate_left; intro _ _ _ _; (try k_sweep))
  k_with "my call builtin:list.extend" => (k_here; k_dflt (refine' extend_3 (by k_asm) (by k_asm) (Side.out ?_) ?q545k3 (Side.out ?_) ?_; (case q545k3 => rename ∀ p : Addr × Obj, p ∈ _ → p.1 < _ => lS; exact fun e => absurd (lS _ (List.Mem.tail _ (List.Mem.head _))) (by rw [e]; exact Nat.lt_irrefl _))); rotate_left; rotate_left; intro _ _ _ _; (try k_sweep))
  k_with "my subscriptTail Name Slice ref ref" => (k_here; (with_reducible rename Fr _ _ _ _ => F'); (with_reducible rename News _ _ _ _ => N'); (refine slice_l (s := ⟨_, _, _, _, _⟩) F' N' (newsList N' (by walk_at "memL")) (by constructor) (by constructor) (Side.out ?_) ?_; rotate_left; intro _ _ F' N' _))
  k_with "my call ref" => (k_here; k_dflt (refine' use_soft_lines (by walk_at "cx") (by ktr_room) (by ktr_units) ?q547km (by assumption) (Side.out ?_) (Side.out ?_) ?_; (case q547km => walk_at "memL")); rotate_left; rotate_left; intro _ _ _ _ _ _ _ _ _)
  k_with "my call builtin:bytes.split" => (k_here; k_dflt (refine' call_split_CR (by k_asm) (by k_asm) (Side.out ?_) ?_); rotate_left; intro _ _ _ _ _ _ _ _)
  k_with "my call builtin:bytes.join" => (k_here; k_dflt (refine' call_join ?q549kl (by assumption) (Side.out ?_) ?_; (case q549kl => walk_at "isL")); rotate_left; intro _ _)
  k_with "my exec For Tuple Call cons nil" => (k_here; refine Stop.mk ?_)
  k_with "my exec For Tuple Call" => (k_here; refine Stop.mk ?_)
  k_with "my call type:enumerate" => (k_here; refine Stop.mk ?_)
  k_with "my ascLit" => first | exact asc_eq | exact asc_empty | exact asc_crlf | exact rfl
  k_with "my binaryOp Add str str" => (k_here; refine add_t (by walk_at "ascLit") (by walk_at "ascLit") (Side.out ?_) ?_; rotate_left; intro _ _)
  k_with "my call builtin:chr" => (k_here; refine chr_t ?_; intro _ _)
  k_with "my subscriptTail" => (k_here; (with_reducible show wpAny _ _ (subscriptTail _ _ (Value.str (Str.ofString _) _) (Value.int _ _)) _ _ _); (refine item_hex (by omega) (by omega) ?_; intro _ _))
  k_with "my fromD" => first | exact FromD.head | (apply FromD.tail; walk_at "fromD")
  k_with "my call builtin:list.append" => (k_here; (with_reducible show wpAny _ _ (call (Value.builtin _) [Value.ref _, Value.str _ _]) _ _ _); k_dflt (refine' append_f (by k_asm) (by k_asm) ?q558k3 (Side.out ?_) (Side.out ?_) ?_; (case q558k3 => walk_at "fromD")); rotate_left; rotate_left; intro _ _ _ _)
  k_with "my CompSrcT" => (k_here; refine Stop.mk ?_)
  k_with "my QuietEnd" => (refine Stop.mk ?_)
  k_with "my call builtin:len" => (k_here; (with_reducible show wpAny _ _ (call (Value.builtin "len") [Value.str (asc _) _]) _ _ _); (refine len_t (Side.out ?_) ?_; rotate_left; intro _ _))
  k_with "my call type:list" => (k_here; (with_reducible show wpAny _ _ (call (Value.type _) [Value.ref _]) _ _ _); k_dflt (refine' copy_l (by k_asm) (by k_asm) ?q562k3 (Side.out ?_) ?_; (case q562k3 => walk_at "memL")); rotate_left; intro _ _ _ _ _ l1; (try k_lt l1))
  k_with "my call builtin:sum" => (k_here; (with_reducible show wpAny _ _ (call (Value.builtin "sum") [Value.ref _]) _ _ _); k_dflt (refine' PyProof.Rows.LSm.sum_ints (by k_asm) (by k_asm) ?q563k0 ?q563k3 (by assumption) ?_; (case q563k0 => with_unfolding_all rfl); (case q563k3 => exact newsList (by k_asm) (by walk_at "memL"))); intro _ _ _ _ _)
  k_with "my call builtin:str.join" => (k_here; (with_reducible show wpAny _ _ (call (Value.builtin "str.join") [Value.str _ _, Value.ref _]) _ _ _); k_dflt (refine' join_t ?q564kl ?q564ki ?q564kx ?q564kd (Side.out ?_) ?_; (case q564kl => exact newsList (by k_asm) (by walk_at "memL")); (case q564ki => first | assumption | exact strsAre_part (by assumption)); (case q564kx => walk_at "ascLit"); (case q564kd => decide)); rotate_left; intro _ _)
  k_with "my call ref" => (k_here; k_dflt (refine' use_law_pieces (by walk_at "cx") (by ktr_room) (by ktr_units) (Side.out ?_) ?_); rotate_left; intro _ _ _ _ _ _ _ _ _)
  k_with "my call ref" => (k_here; k_dflt (refine' use_filled (by walk_at "cx") (by ktr_room) (by ktr_units) ?q566km (by assumption) (Side.out ?_) (by assumption) (by assumption) (Side.out ?_) ?_; (case q566km => walk_at "memL")); rotate_left; rotate_left; intro _ _ _ _ _ _ _ _ _ _ _)
  k_with "my exec For Name IfExp cons nil" => (k_here; refine Stop.mk ?_)
  k_with "my exec For Name IfExp" => (k_here; refine Stop.mk ?_)
  k_with "my getMethod str" => (k_here; refine method_e ?_)
  k_with "my call builtin:str.encode" => (k_here; refine call_encode (by walk_at "ascLit") (Side.out ?_) (Side.out ?_) ?_; rotate_left; rotate_left; intro _ _)
  trivial
section
variable {w : World} {mean : ExcName → Option Value} {mg mb : Str → Option Value} {dp un : Nat} {gd : Option (List Code)} {cn : Str} {cs : Scope} {a : Addr} {ccd : Value} {cl : List (Str × Addr)} {outer : List Env} {A₀ : Around} {base h₀ : Heap} {L : Addr} {m : Str → Option Value} {news : List (Addr × Obj)} {s : Shared} {Q E : Value → Shared → Prop}
theorem use_law_quoted (C : Cx w mean mg mb A₀ base outer h₀ L s.heap m news cs) (hd : dp + 2 < recursionLimit) (hu : un + 16 < cLine) {x : List UInt8} {b : Bool} {wd : Nat} {t u : Tok} (hx : x.length ≤ 100000) (hw4 : 4 ≤ wd) (hw : wd ≤ 1000)
    (hret : ∀ (t' : Tok) h' tk', Fr h₀ L h' m → News h₀ L h' news → Q (.bytes (quotedLaw x b wd).toArray t') { s with heap := h', toks := tk' }) :
    wpAny (model PySem.Challenge.rw_no0355_01.row.toRowW.prog w) (ktrTop dp un gd cn cs L a ccd cl outer) (call (.ref 170) [.bytes x.toArray t, .bool b, .int (wd : Int) u]) Q E s := by
  obtain ⟨B, F, X, N, T, hk⟩ := C
  have htl := textLines_len x b
  refine wpAny_call ?_
  k_dflt cell_enter
  rename Fr _ _ _ _ => F1
  replace F1 : Fr _ _ _ (fun y => List.lookup y [(Str.ofString "width", Value.int wd u), (Str.ofString "is_text", Value.bool b), (Str.ofString "octets", Value.bytes x.toArray t)]) := F1
  k_steps
  walk_at "sides"
  unfold Stop
  refine For_invVF (by k_asm) rfl rfl ?_
  rename ∀ p ∈ news, p.1 < _ => lN
  cases b
  all_goals
    k_steps
    walk_at "sides"
    unfold Stop
  · have hBs : BsAre [.bytes x.toArray t] (textLines x false) := .one _ _
    have hpl := hBs.length
    rename News _ _ _ _ => NN
    rename _ ∧ AllLt _ _ => q
    have lD := lt_cons (o := W.listOf #[] 0) q
    refine lp_list1 (newsSwap NN) (fun _ : Unit => []) [] (fun i vs _ => StrsAre vs ((((textLines x false).take i).map fun l => joinL [13, 10] (softLines (linePieces l) wd)).map asc)) rfl (newsList NN (.head _)) (NN _ (.head _)).2.1 (Nat.ne_of_gt (lD _ (.head _))) ?_ (by k_asm) ⟨(), ?_, ?_⟩ ?_ ?_
    · intro p hp
      rcases List.mem_cons.mp hp with rfl | hp
      · exact Nat.ne_of_gt (lD _ (.head _))
      · exact Nat.ne_of_lt (lN p hp)
    · walk_at "memNil"
    · exact .nil
    · rintro i vs k _ v u hh tk tl hv htl hrt hP F1 N1
      clear NN
      obtain ⟨y, ty, rfl, hy⟩ := hBs.at i v hv
      have hyl := mem_flat_le (List.mem_of_getElem? hy)
      have hlen := hP.length
      rw [List.length_map, List.length_map, List.length_take] at hlen
      have h3 := pieces_alike y
      have hpl3 : (lawPieces y).length = y.length := by simp [lawPieces]
      have hsl := softL_len y wd
      have hll := line_len y wd
      refine wp_hide ?_
      intro QH hQH
      k_steps
      all_goals try (rename LawFill _ _ _ => hLf; have e := lawFill_soft hw4 hLf h3; rw [lawPieces_line] at e; subst e)
      walk_at "sides"
      refine hQH _ _ ?_
      refine lp_done () (by k_asm) (by k_asm) (by walk_at "memNil") (by walk_at "frameSame") ?_
      rw [take_snoc hy, List.map_append, List.map_append]
      exact hP.append' (.cons _ _ .nil)
    · rintro vs k _ u hh tk hP F1 N1
      rw [hpl, List.take_length] at hP
      have hlen := hP.length
      rw [List.length_map, List.length_map] at hlen
      have hel := lines_len wd (textLines x false)
      have hjl := joinL_len [13, 10] ((textLines x false).map fun l => joinL [13, 10] (softLines (linePieces l) wd))
      rw [List.length_map] at hjl
      simp only [List.length_cons, List.length_nil] at hjl
      have hasc := law_ascii x false wd
      k_steps
      walk_at "sides"
      all_goals first
        | exact hret _ _ _ (by k_asm) (by walk_at "dropN")
        | (unfold Side; rw [List.length_map]; omega)
  · rename BsAre _ _ => hBs
    replace hBs : BsAre _ (textLines x true) := hBs
    have hpl := hBs.length
    rename News _ _ _ _ => NN
    rename ∀ p : Addr × Obj, p ∈ _ :: news → p.1 < _ => lD
    refine lp_list1 (newsSwap NN) (fun _ : Unit => []) [] (fun i vs _ => StrsAre vs ((((textLines x true).take i).map fun l => joinL [13, 10] (softLines (linePieces l) wd)).map asc)) rfl (newsList NN (.head _)) (NN _ (.head _)).2.1 (Nat.ne_of_gt (lD _ (.head _))) ?_ (by k_asm) ⟨(), ?_, ?_⟩ ?_ ?_
    · intro p hp
      rcases List.mem_cons.mp hp with rfl | hp
      · exact Nat.ne_of_gt (lD _ (.head _))
      · exact Nat.ne_of_lt (lN p hp)
    · walk_at "memNil"
    · exact .nil
    · rintro i vs k _ v u hh tk tl hv htl hrt hP F1 N1
      clear NN
      obtain ⟨y, ty, rfl, hy⟩ := hBs.at i v hv
      have hyl := mem_flat_le (List.mem_of_getElem? hy)
      have hlen := hP.length
      rw [List.length_map, List.length_map, List.length_take] at hlen
      have h3 := pieces_alike y
      have hpl3 : (lawPieces y).length = y.length := by simp [lawPieces]
      have hsl := softL_len y wd
      have hll := line_len y wd
      refine wp_hide ?_
      intro QH hQH
      k_steps
      all_goals try (rename LawFill _ _ _ => hLf; have e := lawFill_soft hw4 hLf h3; rw [lawPieces_line] at e; subst e)
      walk_at "sides"
      refine hQH _ _ ?_
      refine lp_done () (by k_asm) (by k_asm) (by walk_at "memNil") (by walk_at "frameSame") ?_
      rw [take_snoc hy, List.map_append, List.map_append]
      exact hP.append' (.cons _ _ .nil)
    · rintro vs k _ u hh tk hP F1 N1
      rw [hpl, List.take_length] at hP
      have hlen := hP.length
      rw [List.length_map, List.length_map] at hlen
      have hel := lines_len wd (textLines x true)
      have hjl := joinL_len [13, 10] ((textLines x true).map fun l => joinL [13, 10] (softLines (linePieces l) wd))
      rw [List.length_map] at hjl
      simp only [List.length_cons, List.length_nil] at hjl
      have hasc := law_ascii x true wd
      k_steps
      walk_at "sides"
      all_goals first
        | exact hret _ _ _ (by k_asm) (by walk_at "dropN")
        | (unfold Side; rw [List.length_map]; omega)
end
end
section
/- D7 -/
open Builtin
theorem filledD7 : hd.heap_1 = hd.heap_1 ∧ PySem.Challenge.rw_no0355_01 = PySem.Challenge.rw_no0355_01 := by
  k_fill
  exact ⟨rfl, rfl⟩
theorem part_but1 {α : Type} (vs : List α) : part vs none (some (-1)) = vs.dropLast := by
  unfold part
  have e : clipAt vs.length (-1) = vs.length - 1 := by
    cases hv : vs.length with
    | zero => decide
    | succ n =>
      have := clipAt_neg (n + 1) 1 (by omega)
      rw [show (-((1 : Nat) : Int)) = -1 from rfl] at this
      exact this
  simp only [Option.elim, e, List.drop_zero, Nat.sub_zero]
  rw [List.dropLast_eq_take]
theorem part_tail {α : Type} (vs : List α) : part vs (some 1) none = vs.tail := by
  have := part_from vs 1
  rw [show (((1 : Nat) : Int)) = 1 from rfl] at this
  rw [this, List.drop_one]
section
variable {M : Model} {A : Around} {E : Value → Shared → Prop} {Q : Flow → Shared → Prop} {s : Shared} {env : Env}
theorem execs_app (a b : List Stmt) : execs (a ++ b) env = (do match ← execs a env with | .next => execs b env | f => pure f) := by
  induction a with
  | nil => simp [execs]
  | cons st r ih =>
    rw [List.cons_append, execs_cons, execs_cons, ih, bind_assoc]
    congr 1
    funext f
    cases f <;> simp
/-- where a part of a body ends -/
noncomputable def MidEnd (Mid : Shared → Prop) (f : Flow) (s : Shared) : Prop := f = .next ∧ Mid s
theorem execs_mid (n : Nat) (Mid : Shared → Prop) {l : List Stmt} (h : ∀ QH : Flow → Shared → Prop, (∀ f s', MidEnd Mid f s' → QH f s') → wpAny M A (execs (l.take n) env) QH E s) (h2 : ∀ s', Mid s' → wpAny M A (execs (l.drop n) env) Q E s') : wpAny M A (execs l env) Q E s := by
  rw [← List.take_append_drop n l, execs_app]
  refine wpAny_bind (wpAny_mono (h _ fun _ _ q => q) (fun f s' q => ?_) fun _ _ e => e)
  obtain ⟨rfl, q⟩ := q
  exact h2 s' q
end
section
variable {M : Model} {A : Around} {E : Value → Shared → Prop} {Q : Flow → Shared → Prop} {s : Shared} {env : Env} {g hh h' : Heap} {L' : Addr} {stored : List Str} {u rm m' : Str → Option Value} {ps₀ ps : List (Str × Value)} {nw : List (Addr × Obj)} {P : List (Str × Value) → List (Addr × Obj) → Prop} {tk : Nat}
noncomputable def MidS (g : Heap) (L' : Addr) (stored : List Str) (rm : Str → Option Value) (P : List (Str × Value) → List (Addr × Obj) → Prop) (s s' : Shared) : Prop :=
  ∃ (ps : List (Str × Value)) (nw : List (Addr × Obj)) (u : Str → Option Value) (h' : Heap) (tk' : Nat), s' = { s with heap := h', toks := tk' } ∧ P ps nw ∧ Fr g L' h' (kstB (fun z => if stored.contains z then u z else rm z) ps) ∧ News g L' h' nw
theorem execs_midF (n : Nat) {l : List Stmt} (_F : Fr g L' s.heap (kstB (fun z => if stored.contains z then u z else rm z) ps₀)) (P : List (Str × Value) → List (Addr × Obj) → Prop)
    (h : ∀ QH : Flow → Shared → Prop, (∀ f s', MidEnd (MidS g L' stored rm P s) f s' → QH f s') → wpAny M A (execs (l.take n) env) QH E s)
    (h2 : ∀ (ps : List (Str × Value)) (nw : List (Addr × Obj)) (u : Str → Option Value) (h' : Heap) (tk' : Nat), P ps nw → Fr g L' h' (kstB (fun z => if stored.contains z then u z else rm z) ps) → News g L' h' nw → wpAny M A (execs (l.drop n) env) Q E { s with heap := h', toks := tk' }) : wpAny M A (execs l env) Q E s :=
  execs_mid n _ h fun _ ⟨ps, nw, u, h', tk', e, hP, F, N⟩ => e ▸ h2 ps nw u h' tk' hP F N
theorem mid_done (F : Fr g L' h' m') (N : News g L' h' nw) (hk : ∀ p ∈ ps, m' p.1 = some p.2) (hr : ∀ z, (∀ p ∈ ps, z ≠ p.1) → stored.contains z = false → m' z = rm z) (hP : P ps nw) :
    MidEnd (MidS g L' stored rm P s) .next { s with heap := h', toks := tk } :=
  ⟨rfl, ps, nw, m', h', tk, rfl, hP, ksw_fr hk hr F, N⟩
end
noncomputable abbrev wht : UInt8 → Bool := [32, 9].contains
noncomputable abbrev low2 (p : List UInt8) : List UInt8 := List.map Bytes.toLower (part p none (some 2))
noncomputable abbrev lowAt (p : List UInt8) (k : Int) : UInt8 := (((low2 p).getD (Int.toNat k) 0).toNat : Int).toNat.toUInt8
theorem low2_eq (p : List UInt8) : low2 p = (p.take 2).map Bytes.toLower := by
  have := part_to p 2
  rw [show (((2 : Nat) : Int)) = 2 from rfl] at this
  unfold low2
  rw [this]
theorem low_0 (d e : UInt8) (r : List UInt8) : lowAt (d :: e :: r) 0 = Bytes.toLower d := by
  unfold lowAt
  rw [low2_eq, byte_int]
  rfl
theorem low_1 (d e : UInt8) (r : List UInt8) : lowAt (d :: e :: r) 1 = Bytes.toLower e := by
  unfold lowAt
  rw [low2_eq, byte_int]
  rfl
theorem part_2 (p : List UInt8) : part p (some 2) none = p.drop 2 := part_from p 2
theorem two_cases {p : List UInt8} (hl : ((low2 p).length : Int) = 2) : ∃ d e r, p = d :: e :: r := by
  rw [low2_eq, List.length_map, List.length_take] at hl
  match p, hl with
  | [], hl => simp at hl
  | [d], hl => simp at hl
  | d :: e :: r, _ => exact ⟨d, e, r, rfl⟩
theorem out_facts {p : List UInt8} {i j : Nat} (hl : ((low2 p).length : Int) = 2) (h0 : figs.contains (lowAt p 0) = true) (h1 : figs.contains (lowAt p 1) = true)
    (hi : figs.findIdx? (fun x => x == lowAt p 0) = some i) (hj : figs.findIdx? (fun x => x == lowAt p 1) = some j) :
    (i < 16 ∧ j < 16) ∧ [16 * (i : Int) + (j : Int)].map (fun n => n.toNat.toUInt8) ++ part p (some 2) none = partOut p := by
  have li : i < 16 := (List.findIdx?_eq_some_iff_findIdx_eq.mp hi).1
  have lj : j < 16 := (List.findIdx?_eq_some_iff_findIdx_eq.mp hj).1
  refine ⟨⟨li, lj⟩, ?_⟩
  obtain ⟨d, e, r, rfl⟩ := two_cases hl
  rw [low_0] at h0 hi
  rw [low_1] at h1 hj
  have f1 := figs_at d
  have f2 := figs_at e
  rw [f1.1, decide_eq_true_eq] at h0
  rw [f2.1, decide_eq_true_eq] at h1
  have g1 := f1.2 h0
  have g2 := f2.2 h1
  rw [hi] at g1
  rw [hj] at g2
  have g1 := Option.some.inj g1
  have g2 := Option.some.inj g2
  rw [partOut_cons, if_pos ⟨h0, h1⟩, part_2, g1, g2, Int.toNat_of_nonneg h0, Int.toNat_of_nonneg h1]
  rfl
theorem out_side {p : List UInt8} {i j : Nat} (hl : ((low2 p).length : Int) = 2) (h0 : figs.contains (lowAt p 0) = true) (h1 : figs.contains (lowAt p 1) = true)
    (hi : figs.findIdx? (fun x => x == lowAt p 0) = some i) (hj : figs.findIdx? (fun x => x == lowAt p 1) = some j) : ∀ n ∈ [16 * (i : Int) + (j : Int)], 0 ≤ n ∧ n < 256 := by
  have := (out_facts hl h0 h1 hi hj).1
  refine List.forall_mem_singleton.mpr ?_
  omega
theorem out_hex {pl p : List UInt8} {i j : Nat} (hl : ((low2 p).length : Int) = 2) (h0 : figs.contains (lowAt p 0) = true) (h1 : figs.contains (lowAt p 1) = true)
    (hi : figs.findIdx? (fun x => x == lowAt p 0) = some i) (hj : figs.findIdx? (fun x => x == lowAt p 1) = some j) :
    pl ++ [16 * (i : Int) + (j : Int)].map (fun n => n.toNat.toUInt8) ++ part p (some 2) none = pl ++ partOut p := by
  rw [List.append_assoc, (out_facts hl h0 h1 hi hj).2]
theorem out_no {pl p : List UInt8} (h : partOut p = 61 :: p) : pl ++ [61] ++ p = pl ++ partOut p := by
  rw [h]
  simp
theorem out_len {p : List UInt8} (hl : ((low2 p).length : Int) ≠ 2) : partOut p = 61 :: p := by
  match p, hl with
  | [], _ => rfl
  | [d], _ => rfl
  | d :: e :: r, hl =>
    refine absurd ?_ hl
    rw [low2_eq, List.length_map, List.length_take]
    simp
theorem out_0 {p : List UInt8} (hl : ((low2 p).length : Int) = 2) (h0 : figs.contains (lowAt p 0) = false) : partOut p = 61 :: p := by
  obtain ⟨d, e, r, rfl⟩ := two_cases hl
  rw [low_0, (figs_at d).1, decide_eq_false_iff_not] at h0
  rw [partOut_cons, if_neg fun q => h0 q.1]
theorem out_1 {p : List UInt8} (hl : ((low2 p).length : Int) = 2) (h0 : figs.contains (lowAt p 1) = false) : partOut p = 61 :: p := by
  obtain ⟨d, e, r, rfl⟩ := two_cases hl
  rw [low_1, (figs_at e).1, decide_eq_false_iff_not] at h0
  rw [partOut_cons, if_neg fun q => h0 q.2]
/-- what the line's end tells of the rest -/
noncomputable def CutSpec (re Y e fd R : List UInt8) : Prop := (fd = [] ∧ e = [] ∧ Y = re ∧ findFrom re 10 0 < 0) ∨ (fd = [10] ∧ lineCut re = (Y, e) :: lineCut R ∧ R.length < re.length ∧ Y.length ≤ re.length ∧ e.length ≤ 2)
theorem CutSpec.len {re Y e fd R : List UInt8} (h : CutSpec re Y e fd R) : Y.length ≤ re.length ∧ e.length ≤ 2 := by
  rcases h with ⟨_, rfl, rfl, _⟩ | ⟨_, _, _, h1, h2⟩
  · simp
  · exact ⟨h1, h2⟩
theorem read_next {fo re rest x Y e : List UInt8} (hI : fo ++ quotedDec re = quotedDec x) (hcut : lineCut re = (Y, e) :: lineCut rest) : (fo ++ decLine (Y, e)) ++ quotedDec rest = quotedDec x := by
  rw [← hI]
  unfold quotedDec
  rw [hcut]
  simp
theorem read_last {fo re x : List UInt8} (hI : fo ++ quotedDec re = quotedDec x) (h : findFrom re 10 0 < 0) : fo ++ decLine (re, []) = quotedDec x := by
  rw [← hI]
  unfold quotedDec
  have := findFrom_none h
  rw [List.drop_zero] at this
  rw [lineCut_none this]
  simp
theorem fin_T {fo Y e z : List UInt8} {b : Bool} (hdec : decLine (Y, e) = unquoted z ++ (if b = true then [] else e)) (hb : b = true) : fo ++ unquoted z ++ [] = fo ++ decLine (Y, e) := by
  rw [hdec, if_pos hb, List.append_assoc]
theorem fin_F {fo Y e z : List UInt8} {b : Bool} (hdec : decLine (Y, e) = unquoted z ++ (if b = true then [] else e)) (hb : b = false) : fo ++ unquoted z ++ e = fo ++ decLine (Y, e) := by
  rw [hdec, if_neg (by rw [hb]; decide), List.append_assoc]
theorem CutSpec.last {re Y e fd R fo x : List UInt8} (h : CutSpec re Y e fd R) (hf : (fd == []) = true) (hI : fo ++ quotedDec re = quotedDec x) : fo ++ decLine (Y, e) = quotedDec x := by
  rcases h with ⟨_, rfl, rfl, h⟩ | ⟨rfl, _⟩
  · exact read_last hI h
  · exact absurd hf (by decide)
theorem CutSpec.more {re Y e fd R : List UInt8} (h : CutSpec re Y e fd R) (hf : (fd == []) = false) : lineCut re = (Y, e) :: lineCut R ∧ R.length < re.length := by
  rcases h with ⟨rfl, _⟩ | ⟨_, h1, h2, _⟩
  · exact absurd hf (by decide)
  · exact ⟨h1, h2⟩
theorem cut_facts {re : List UInt8} (h : ¬ findFrom re 10 0 < 0) : ∃ j, re.findIdx? (· == 10) = some j ∧ part re none (some (findFrom re 10 0)) = re.take j ∧ part re (some (findFrom re 10 0 + 1)) none = re.drop (j + 1) ∧ j < re.length := by
  obtain ⟨j, hj, he, hlt⟩ := findFrom_some h
  rw [List.drop_zero] at hj
  rw [Nat.zero_add] at he hlt
  refine ⟨j, hj, ?_, ?_, hlt⟩
  · rw [he, part_to]
  · rw [he, show ((j : Int) + 1) = ((j + 1 : Nat) : Int) from rfl, part_from]
theorem rest_lt {re : List UInt8} (h : ¬ findFrom re 10 0 < 0) : (part re (some (findFrom re 10 0 + 1)) none).length < re.length := by
  obtain ⟨j, _, _, e, hlt⟩ := cut_facts h
  rw [e, List.length_drop]
  omega
theorem take_snoc_d {re : List UInt8} {j : Nat} (h0 : 0 < j) (hlt : j < re.length) : re.take j = re.take (j - 1) ++ [re.getD (j - 1) 0] := by
  have := take_snoc (xs := re) (i := j - 1) (y := re.getD (j - 1) 0) (by rw [List.getD_eq_getElem?_getD, List.getElem?_eq_getElem (by omega)]; rfl)
  rwa [show j - 1 + 1 = j by omega] at this
theorem cut_lf {re : List UInt8} (h : ¬ findFrom re 10 0 < 0) (h13 : (part (part re none (some (findFrom re 10 0))) (some (-1)) none == [13]) = false) :
    lineCut re = (part re none (some (findFrom re 10 0)), [10]) :: lineCut (part re (some (findFrom re 10 0 + 1)) none) := by
  obtain ⟨j, hj, e1, e2, hlt⟩ := cut_facts h
  rw [e1] at h13
  rw [e1, e2, lineCut_some hj, if_neg]
  rintro ⟨h0, h2⟩
  rw [take_snoc_d h0 hlt, part_last, h2] at h13
  exact absurd h13 (by decide)
theorem cut_cr {re : List UInt8} (h : ¬ findFrom re 10 0 < 0) (h13 : (part (part re none (some (findFrom re 10 0))) (some (-1)) none == [13]) = true) :
    lineCut re = (part (part re none (some (findFrom re 10 0))) none (some (((part re none (some (findFrom re 10 0))).length : Int) - 1)), [13, 10]) :: lineCut (part re (some (findFrom re 10 0 + 1)) none) := by
  obtain ⟨j, hj, e1, e2, hlt⟩ := cut_facts h
  rw [e1] at h13 ⊢
  have h0 : 0 < j := by
    refine Nat.pos_of_ne_zero fun q => ?_
    subst q
    rw [List.take_zero, part_last_nil] at h13
    exact absurd h13 (by decide)
  have e3 := take_snoc_d h0 hlt
  rw [e3, part_last] at h13
  have h2 : re.getD (j - 1) 0 = 13 := by simpa using h13
  rw [e2, part_butlast, lineCut_some hj, if_pos ⟨h0, h2⟩, e3, List.dropLast_concat]
theorem white_any {y : List UInt8} (h : [[32], [9]].any (· == part y (some (-1)) none) = true) : ∃ z d, y = z ++ [d] ∧ wht d = true := by
  rcases last_cases y with rfl | ⟨z, d, rfl⟩
  · rw [part_last_nil] at h; exact absurd h (by decide)
  · rw [part_last] at h
    refine ⟨z, d, rfl, ?_⟩
    simp only [List.any_cons, List.any_nil, Bool.or_false, Bool.or_eq_true, beq_iff_eq, List.cons.injEq, and_true] at h
    rcases h with h | h <;> subst h <;> rfl
theorem strip_more {Y y : List UInt8} (hs : rstripped wht y = rstripped wht Y) (h : [[32], [9]].any (· == part y (some (-1)) none) = true) : rstripped wht (part y none (some (-1))) = rstripped wht Y ∧ (part y none (some (-1))).length < y.length := by
  obtain ⟨z, d, rfl, hd⟩ := white_any h
  rw [part_but1, List.dropLast_concat]
  rw [rstripped_snoc, if_pos hd] at hs
  exact ⟨hs, by simp⟩
theorem strip_end {Y y : List UInt8} (hs : rstripped wht y = rstripped wht Y) (h : [[32], [9]].any (· == part y (some (-1)) none) = false) : rstripped wht Y = y := by
  rw [← hs]
  rcases last_cases y with rfl | ⟨z, d, rfl⟩
  · rfl
  · rw [part_last] at h
    rw [rstripped_snoc, if_neg]
    intro hd
    revert h
    simp only [wht, List.contains_cons, List.contains_nil, Bool.or_false, Bool.or_eq_true, beq_iff_eq] at hd
    rcases hd with hd | hd <;> subst hd <;> decide
theorem read_soft {Y y e : List UInt8} (hy : rstripped wht Y = y) (h61 : (part y (some (-1)) none == [61]) = true) : decLine (Y, e) = unquoted (part y none (some (-1))) := by
  have e1 : rstripped [32, 9].contains Y = y := hy
  unfold decLine
  dsimp only
  rw [e1, if_pos (beq_iff_eq.mp h61), part_butlast, part_but1]
theorem read_hard {Y y e : List UInt8} (hy : rstripped wht Y = y) (h61 : (part y (some (-1)) none == [61]) = false) : decLine (Y, e) = unquoted y ++ e := by
  have e1 : rstripped [32, 9].contains Y = y := hy
  unfold decLine
  dsimp only
  rw [e1, if_neg (beq_eq_false_iff_ne.mp h61)]
theorem read_soft1 {Y y e : List UInt8} (hy : rstripped wht Y = y) (h61 : (part y (some (-1)) none == [61]) = true) : decLine (Y, e) = unquoted (part y none (some (-1))) ++ (if (part y (some (-1)) none == [61]) = true then [] else e) := by
  rw [read_soft hy h61, if_pos h61, List.append_nil]
theorem read_soft2 {Y y e : List UInt8} (hy : rstripped wht Y = y) (h61 : (part y (some (-1)) none == [61]) = true) : decLine (Y, e) = unquoted (part y none (some (-1))) ++ (if true = true then [] else e) := by
  rw [read_soft hy h61, if_pos rfl, List.append_nil]
theorem read_hard1 {Y y e : List UInt8} (hy : rstripped wht Y = y) (h61 : (part y (some (-1)) none == [61]) = false) : decLine (Y, e) = unquoted y ++ (if (part y (some (-1)) none == [61]) = true then [] else e) := by
  rw [read_hard hy h61, if_neg (by rw [h61]; decide)]
theorem read_hard2 {Y y e : List UInt8} (hy : rstripped wht Y = y) (h61 : (part y (some (-1)) none == [61]) = false) : decLine (Y, e) = unquoted y ++ (if false = true then [] else e) := by
  rw [read_hard hy h61, if_neg (by decide)]
section
variable {prog : Program} {w : World} {A : Around} {E : Value → Shared → Prop} {Q : Flow → Shared → Prop} {s : Shared} {env : Env} {h₀ : Heap} {L : Addr} {body : List Stmt}
theorem strip_loop {test : Expr} {pos : Pos} {m₀ : Str → Option Value} {news : List (Addr × Obj)} {Y : List UInt8} {ty : Tok} (F : Fr h₀ L s.heap m₀) (hY : m₀ (Str.ofString "line") = some (.bytes Y.toArray ty)) (N : News h₀ L s.heap news)
    (turn : ∀ (c : List UInt8 × Tok) (u : Str → Option Value) h tk, (rstripped wht c.1 = rstripped wht Y ∧ c.1.length ≤ Y.length) → Fr h₀ L h (kstB (fun z => if ([] : List Str).contains z then u z else m₀ z) [(Str.ofString "line", Value.bytes c.1.toArray c.2)]) → News h₀ L h news →
      wpAny (model prog w) A (isTrue test env (eval test env)) (fun b s₂ =>
        if b = true then wpAny (model prog w) A (execs body env) (WhPost h₀ L s (fun _ => news) (fun c : List UInt8 × Tok => [(Str.ofString "line", Value.bytes c.1.toArray c.2)]) [] m₀ (fun c => rstripped wht c.1 = rstripped wht Y ∧ c.1.length ≤ Y.length) (fun c => c.1.length) Q c.1.length) E s₂ else Q .next s₂) E { s with heap := h, toks := tk })
    (hE : PassesOwn (model prog w) A env E := by passes_own) :
    wpAny (model prog w) A (exec (.While test body [] pos) env) Q E s :=
  wh_loop (fun _ => news) (fun c : List UInt8 × Tok => [(Str.ofString "line", Value.bytes c.1.toArray c.2)]) [] (fun c => rstripped wht c.1 = rstripped wht Y ∧ c.1.length ≤ Y.length) (fun c => c.1.length) F
    ⟨(Y, ty), N, fun p hp => by rw [List.mem_singleton.mp hp]; exact hY, rfl, Nat.le_refl _⟩ turn hE
theorem plain_len (z : List UInt8) (i : Nat) : ((splitEq z).headD [] ++ ((splitEq z).tail.take i).flatMap partOut).length ≤ 2 * z.length + 1 := by
  obtain ⟨h, t, e⟩ := List.exists_cons_of_ne_nil (splitEq_ne z)
  have h1 := splitEq_len z
  have h2 := flat_out (t.take i)
  have h3 := take_flat_le t i
  rw [List.length_take] at h2
  rw [e] at h1 ⊢
  simp only [List.flatten_cons, List.length_append, List.length_cons, List.headD_cons, List.tail_cons] at h1 ⊢
  omega
noncomputable abbrev plainAt : List UInt8 × Tok → List (Str × Value) := fun c => [(Str.ofString "plain", Value.bytes c.1.toArray c.2)]
theorem read_loop {D2 : Addr} {k2 : Nat} {vs : List Value} {z : List UInt8} {rest news : List (Addr × Obj)} {m₀ : Str → Option Value} {tp : Tok}
    (hBs : BsAre vs (splitEq z)) (N : News h₀ env.locals s.heap ((D2, listOf (part vs (some 1) none).toArray k2) :: rest)) (hsub : ∀ p ∈ news, p ∈ rest) (hh : A.handled = none)
    (F : Fr h₀ env.locals s.heap m₀) (hp : m₀ (Str.ofString "plain") = some (.bytes ((splitEq z).getD 0 []).toArray tp))
    (turn : ∀ (p : List UInt8) (c : List UInt8 × Tok) tv (u : Str → Option Value) h tk tl, p.length ≤ z.length → c.1.length ≤ 2 * z.length + 1 → (∀ q ∈ news, q ∈ tl) →
      Fr h₀ env.locals h (fun y => if y = Str.ofString "part" then some (.bytes p.toArray tv) else kstB (fun z => if [Str.ofString "small", Str.ofString "figures"].contains z then u z else m₀ z) (plainAt c) y) → News h₀ env.locals h tl →
      wpAny (model prog w) A (execs body env) (L0Post h₀ env.locals tl plainAt (Str.ofString "part") [Str.ofString "small", Str.ofString "figures"] m₀ (fun c' => c'.1 = c.1 ++ partOut p) Q { s with heap := h, toks := tk }) E { s with heap := h, toks := tk })
    (done : ∀ (tc : Tok) (u : Str → Option Value) h tk, Fr h₀ env.locals h (fun y => if y = Str.ofString "part" then u y else kstB (fun z => if [Str.ofString "small", Str.ofString "figures"].contains z then u z else m₀ z) (plainAt (unquoted z, tc)) y) → News h₀ env.locals h news → Q .next { s with heap := h, toks := tk }) :
    wpAny (model prog w) A (pyIter (.ref D2)) (fun it s₂ => LoopAtV prog w A h₀ env (Str.ofString "part") body Q E it s₂) E s := by
  have hB1 : BsAre (part vs (some 1) none) (splitEq z).tail := by
    have := hBs.drop 1
    rw [List.drop_one, List.drop_one] at this
    rw [part_tail]
    exact this
  have hl := hB1.length
  obtain ⟨hd, tl₀, e⟩ := List.exists_cons_of_ne_nil (splitEq_ne z)
  refine lp_list0 (news := news) (fun p hp => N p (.tail _ (hsub p hp))) plainAt [Str.ofString "small", Str.ofString "figures"] (fun i c => c.1 = (splitEq z).headD [] ++ ((splitEq z).tail.take i).flatMap partOut) hh (newsList N (.head _)) (N _ (.head _)).2.1 F
    ⟨(_, _), fun p hp' => by rw [List.mem_singleton.mp hp']; exact hp, by rw [e]; simp⟩ ?_ ?_
  · rintro i c v u h tk tl hv htl hP F1 N1
    obtain ⟨p, tv, rfl, hpi⟩ := hB1.at i v hv
    have hm : p ∈ splitEq z := List.mem_of_mem_tail (List.mem_of_getElem? hpi)
    have hpz := mem_flat_le hm
    have hsz := splitEq_len z
    refine wpAny_mono (turn p c tv u h tk tl (by omega) (by rw [hP]; exact plain_len z i) htl F1 N1) (fun f s₂ q => ?_) fun _ _ e => e
    have fin : (∃ (c' : List UInt8 × Tok) (h' : Heap) (tk' : Nat) (m' : Str → Option Value), s₂ = { s with heap := h', toks := tk' } ∧ Fr h₀ env.locals h' m' ∧ News h₀ env.locals h' tl ∧
        (∀ p ∈ plainAt c', m' p.1 = some p.2) ∧ (∀ z, z ≠ Str.ofString "part" → (∀ p ∈ plainAt c', z ≠ p.1) → [Str.ofString "small", Str.ofString "figures"].contains z = false → m' z = m₀ z) ∧ c'.1 = c.1 ++ partOut p) →
        ∃ (c' : List UInt8 × Tok) (h' : Heap) (tk' : Nat) (m' : Str → Option Value), s₂ = { s with heap := h', toks := tk' } ∧ Fr h₀ env.locals h' m' ∧ News h₀ env.locals h' tl ∧
        (∀ p ∈ plainAt c', m' p.1 = some p.2) ∧ (∀ z, z ≠ Str.ofString "part" → (∀ p ∈ plainAt c', z ≠ p.1) → [Str.ofString "small", Str.ofString "figures"].contains z = false → m' z = m₀ z) ∧ c'.1 = (splitEq z).headD [] ++ ((splitEq z).tail.take (i + 1)).flatMap partOut := by
      rintro ⟨c', h', tk', m', e1, e2, e3, e4, e5, e6⟩
      refine ⟨c', h', tk', m', e1, e2, e3, e4, e5, ?_⟩
      rw [e6, hP, take_snoc hpi, List.flatMap_append, List.append_assoc]
      simp
    cases f with
    | ret v => exact q
    | brk => exact q
    | next => exact fin q
    | cont => exact fin q
  · rintro ⟨c, tc⟩ u h tk hP F1 N1
    rw [hl, List.take_length] at hP
    have e2 : c = unquoted z := by
      rw [← read_parts, e, readParts_cons]
      rw [e] at hP
      exact hP
    subst e2
    exact done tc u h tk F1 N1
end
theorem rows_17 : True := by
  k_with_none
  k_with "my getMethod bytes" => (k_here; first | refine method_b slot_bytes_find type_bytes_find ?_ | refine method_b slot_bytes_index type_bytes_index ?_ | refine method_b slot_bytes_lower type_bytes_lower ?_ | refine method_b slot_bytes_rstrip type_bytes_rstrip ?_ | refine method_b slot_bytes_split type_bytes_split ?_ | refine method_b slot_bytes_join type_bytes_join ?_)
  k_with "my call builtin:bytes.find" => (k_here; first | refine call_find3 ?_ | refine call_find2 ?_; intro _ _)
  k_with "my call builtin:bytes.lower" => (k_here; refine call_lower (Side.out ?_) ?_; rotate_left; intro _ _)
  k_with "my call builtin:bytes.rstrip" => (k_here; refine call_rstrip (Side.out ?_) ?_; rotate_left; intro _ _)
  k_with "my binaryOp Add bytes bytes" => (k_here; refine add_b (Side.out ?_) ?_; rotate_left; intro _ _)
  k_with "my subscriptTail" => (k_here; (with_reducible show wpAny _ _ (subscriptTail _ _ (Value.bytes (List.toArray _) _) (Value.int _ _)) _ _ _); (refine item_b (Side.out ?_) (Side.out ?_) (Side.out ?_) ?_; rotate_left; rotate_left; rotate_left; intro _ _))
  k_with "my subscriptTail" => (k_here; (with_reducible show wpAny _ _ (subscriptTail _ (Expr.Slice _ _ none _) (Value.bytes (List.toArray _) _) (Value.ref _)) _ _ _); (with_reducible rename Fr _ _ _ _ => F'); (with_reducible rename News _ _ _ _ => N'); (refine slice_b (s := ⟨_, _, _, _, _⟩) F' N' (by constructor) (by constructor) (Side.out ?_) ?_; rotate_left; intro _ _ _ _ _))
  k_with "my call builtin:len" => (k_here; (with_reducible show wpAny _ _ (call (Value.builtin "len") [Value.bytes (List.toArray _) _]) _ _ _); (refine len_b (Side.out ?_) ?_; rotate_left; intro _ _))
  k_with "my binaryOp FloorDiv int int" => (k_here; refine fdiv_i (by first | decide | omega) (by exact PyProof.noPylong_small (by omega)) ?_; intro _ _)
  k_with "my binaryOp Mod int int" => (k_here; refine fmod_i (by first | decide | omega) ?_; intro _ _)
  k_with "my call type:bytes" => (k_here; (with_reducible show wpAny _ _ (call (Value.type _) [Value.ref _]) _ _ _); k_dflt (refine' bytes_d (by k_asm) (by k_asm) ?q581i (Side.out ?_) (Side.out ?_) ?q581h ?_; (case q581i => first | l_ints | assumption); (case q581h => with_unfolding_all rfl)); rotate_left; rotate_left; intro _ _ _ _ _; (try k_sweep))
  k_with "my dropN" => first | k_asm | (refine' cb_drop ?q582cbN ?q582cbS; (case q582cbN => assumption); (case q582cbS => kcj_all))
  k_with "my sides" => (all_goals try (show Side _; unfold Side; first | assumption | omega | (simp only [List.length_cons, List.length_nil]; omega) | (simp only [List.length_append, List.length_map, List.length_cons, List.length_nil]; omega) | decide))
  k_with "my cx" => exact ⟨by k_asm, by k_asm, by k_asm, by k_asm, by k_asm, by first | exact rfl | assumption⟩
  k_with "my exec For Name Call cons nil" => (k_here; refine Stop.mk ?_)
  k_with "my exec For Name Name cons nil" => (k_here; refine Stop.mk ?_)
  k_with "my pyIter ref" => ((with_reducible show wpAny _ _ (pyIter (Value.ref _)) (fun it s₂ => LoopAtV _ _ _ _ _ _ _ _ _ it s₂) _ _); refine Stop.mk ?_)
  k_with "my InvPostN" => (dsimp only [InvPostN])
  k_with "my InvEndN" => (refine Stop.mk ?_)
  k_with "my call builtin:list.append" => (k_here; (with_reducible show wpAny _ _ (call (Value.builtin _) [Value.ref _, _]) _ _ _); k_dflt (refine' append_h (by k_asm) (by k_asm) (Side.out ?_) (Side.out ?_) ?_); rotate_left; rotate_left; intro _ _ _ _; (try k_sweep))
  k_with "my frameSame" => (intro _ h1 h2 h3; (try simp only [List.forall_mem_cons, List.not_mem_nil, false_implies, implies_true, and_true, ne_eq] at h2); (try simp only [List.contains_cons, List.contains_nil, Bool.or_false, Bool.or_eq_false_iff, beq_eq_false_iff_ne, ne_eq] at h3); first | (simp [kstB, h1, h2, h3]; done) | (simp [kstB, h1, h3]; done) | (simp [kstB, h1, h2]; done) | (simp [kstB, h1]; done))
  k_with "my memNil" => exact (fun _ h => nomatch h)
  k_with "my memL" => first | assumption | exact List.Mem.head _ | (refine List.Mem.tail _ ?_; walk_at "memL") | (refine List.mem_append.mpr (.inr ?_); walk_at "memL") | (refine List.mem_append.mpr (.inl ?_); walk_at "memL")
  k_with "my isL" => exact newsList (by k_asm) (by walk_at "memL")
  k_with "my call builtin:len" => (k_here; (with_reducible show wpAny _ _ (call (Value.builtin "len") [Value.ref _]) _ _ _); (refine len_l (by walk_at "isL") (Side.out ?_) ?_; rotate_left; intro _ _))
  k_with "my subscriptTail" => (k_here; (with_reducible show wpAny _ _ (subscriptTail _ _ (Value.ref _) (Value.int _ _)) _ _ _); (refine item_l (by walk_at "isL") (by assumption) (Side.out ?_) (Side.out ?_) (Side.out ?_) ?_; rotate_left; rotate_left; rotate_left; intro _))
  k_with "my subscriptTail" => (k_here; (with_reducible show wpAny _ _ (subscriptTail _ (Expr.Slice _ _ none _) (Value.ref _) (Value.ref _)) _ _ _); (with_reducible rename Fr _ _ _ _ => F'); (with_reducible rename News _ _ _ _ => N'); (refine slice_l (s := ⟨_, _, _, _, _⟩) F' N' (newsList N' (by walk_at "memL")) (by constructor) (by constructor) (Side.out ?_) ?_; rotate_left; intro _ _ F' N' _))
  k_with "my binaryOp Add ref ref" => (k_here; (refine add_l (by k_asm) (by k_asm) (by walk_at "isL") (by walk_at "isL") (Side.out ?_) ?_; rotate_left; intro _ _ _ _ _))
  k_with "my call builtin:list.extend" => (k_here; k_dflt (refine' extend_h (by k_asm) (by k_asm) (Side.out ?_) (Side.out ?_) (Side.out ?_) ?_); rotate_left; rotate_left; rotate_left; intro _ _ _ _; (try k_sweep))
  k_with "my call builtin:list.extend" => (k_here; k_dflt (refine' extend_3 (by k_asm) (by k_asm) (Side.out ?_) ?q600k3 (Side.out ?_) ?_; (case q600k3 => rename ∀ p : Addr × Obj, p ∈ _ → p.1 < _ => lS; exact fun e => absurd (lS _ (List.Mem.tail _ (List.Mem.head _))) (by rw [e]; exact Nat.lt_irrefl _))); rotate_left; rotate_left; intro _ _ _ _; (try k_sweep))
  k_with "my subscriptTail Name Slice ref ref" => (k_here; (with_reducible rename Fr _ _ _ _ => F'); (with_reducible rename News _ _ _ _ => N'); (refine slice_l (s := ⟨_, _, _, _, _⟩) F' N' (newsList N' (by walk_at "memL")) (by constructor) (by constructor) (Side.out ?_) ?_; rotate_left; intro _ _ F' N' _))
  k_with "my exec While Compare" => (k_here; refine Stop.mk ?_)
  k_with "my exec While Constant" => (k_here; refine Stop.mk ?_)
  k_with "my exec While Compare cons nil" => (k_here; refine Stop.mk ?_)
  k_with "my exec While" => (k_here; refine Stop.mk ?_)
  k_with "my whSame" => (intro _ h2 h3; (try simp only [List.forall_mem_cons, List.not_mem_nil, false_implies, implies_true, and_true, ne_eq] at h2); (try simp only [List.contains_cons, List.contains_nil, Bool.or_false, Bool.or_eq_false_iff, beq_eq_false_iff_ne, ne_eq] at h3); first | (simp [kstB, h2, h3]; done) | (simp [kstB, h3]; done) | (simp [kstB, h2]; done) | (simp [kstB]; done))
  k_with "my call builtin:list.append" => (k_here; (with_reducible show wpAny _ _ (call (Value.builtin _) [Value.ref _, Value.ref _]) _ _ _); k_dflt (refine' append_2 (by k_asm) (by k_asm) (Side.out ?_) ?q607k3 (Side.out ?_) ?_; (case q607k3 => rename _ < _ ∧ AllLt _ _ => q; exact q.1)); rotate_left; rotate_left; intro _ _ _ _; (try k_sweep))
  k_with "my compareOp In bytes ref" => (k_here; k_dflt (refine' in_tup ?q608k1 ?q608k2 ?_; (case q608k1 => exact News.isTup (by k_asm) (by k_mem)); (case q608k2 => walk_at "bsLit")))
  k_with "my bsLit" => first | assumption | exact BsAre.nil | (apply BsAre.cons; walk_at "bsLit")
  k_with "my compareOp In int bytes" => (k_here; (refine in_b (Side.out ?_) (Side.out ?_) ?_; rotate_left; rotate_left))
  k_with "my call builtin:bytes.split" => (k_here; k_dflt (refine' call_split_eq (by k_asm) (by k_asm) (Side.out ?_) ?_); rotate_left; intro _ _ _ _ _ _ _ _)
  k_with "my call builtin:bytes.index" => (k_here; (refine call_indexC (Side.out ?_) (Side.out ?_) (Side.out ?_) ?_; rotate_left; rotate_left; rotate_left; intro _ _ _ _))
  k_with "my binaryOp Mult int int" => (k_here; refine mul_int ?_ (mulOk_small (by omega) (by omega)))
  k_with "my exec For Name Subscript cons nil" => (k_here; refine Stop.mk ?_)
  k_with "my exec For Name Subscript" => (k_here; refine Stop.mk ?_)
  k_with "my subscriptTail" => (k_here; (with_reducible show wpAny _ _ (subscriptTail _ _ (Value.ref _) (Value.int _ _)) _ _ _); (refine item_l (by walk_at "isL") (by assumption) (Side.out ?_) (Side.out ?_) (Side.out ?_) ?_; rotate_left; rotate_left; rotate_left; intro _))
  k_with "my psAre" => first | exact List.forall_mem_nil _ | (refine' List.forall_mem_cons.mpr ⟨?q617psA, ?q617psB⟩; (case q617psA => exact rfl); (case q617psB => walk_at "psAre"))
  trivial
section
variable {w : World} {mean : ExcName → Option Value} {mg mb : Str → Option Value} {dp un : Nat} {gd : Option (List Code)} {cn : Str} {cs : Scope} {a : Addr} {ccd : Value} {cl : List (Str × Addr)} {outer : List Env} {A₀ : Around} {base h₀ : Heap} {L : Addr} {m : Str → Option Value} {news : List (Addr × Obj)} {s : Shared} {Q E : Value → Shared → Prop}
theorem use_law_read (C : Cx w mean mg mb A₀ base outer h₀ L s.heap m news cs) (hd : dp + 1 < recursionLimit) (hu : un + 8 < cLine) {x : List UInt8} {t : Tok} (hx : x.length ≤ 100000)
    (hret : ∀ (t' : Tok) h' tk', Fr h₀ L h' m → News h₀ L h' news → Q (.bytes (quotedDec x).toArray t') { s with heap := h', toks := tk' }) :
    wpAny (model PySem.Challenge.rw_no0355_01.row.toRowW.prog w) (ktrTop dp un gd cn cs L a ccd cl outer) (call (.ref 177) [.bytes x.toArray t]) Q E s := by
  obtain ⟨B, F, X, N, T, hk⟩ := C
  refine wpAny_call ?_
  k_dflt cell_enter
  rename Fr _ _ _ _ => F1
  replace F1 : Fr _ _ _ (fun y => List.lookup y [(Str.ofString "data", Value.bytes x.toArray t)]) := F1
  k_steps
  walk_at "sides"
  unfold Stop
  rename News _ _ _ _ => NN
  refine wh_loop (fun _ => news) (fun c : List UInt8 × Tok × List UInt8 × Tok => [(Str.ofString "found", Value.bytes c.1.toArray c.2.1), (Str.ofString "rest", Value.bytes c.2.2.1.toArray c.2.2.2)]) ["at", "line", "feed", "end", "is_soft", "parts", "plain", "part", "small", "figures"]
    (fun c => c.1 ++ quotedDec c.2.2.1 = quotedDec x ∧ c.2.2.1.length ≤ x.length) (fun c => c.2.2.1.length) (by k_asm) ?_ ?_
  · refine' ⟨([], _, x, _), fun p hp => NN p (.tail _ hp), _, rfl, Nat.le_refl _⟩
    rotate_left
    rotate_left
    · intro p hp
      rcases List.mem_cons.mp hp with rfl | hp
      · exact rfl
      · rw [List.mem_singleton.mp hp]
        exact rfl
  · rintro ⟨fo, tf, re, tr⟩ u hh tk ⟨hI, hre⟩ F1 N1
    clear NN
    dsimp only at hI hre F1 N1 ⊢
    have hfo : fo.length ≤ x.length := by
      have h1 := congrArg List.length hI
      have h2 := flat_dec_len (lineCut x)
      have h3 := (lineCut_len _ x rfl).1
      unfold quotedDec at h1
      rw [List.length_append] at h1
      omega
    have hp1 := part_le re none (some (findFrom re 10 0))
    repeat ((fail_if_success (with_reducible show wpAny _ _ (execs _ _) _ _ _)); walk1)
    refine wp_hide ?_
    intro QW hQW
    refine execs_midF 4 F1 (fun ps nw => ∃ Y ty e te fd tfd R tR, ps = [(Str.ofString "found", Value.bytes fo.toArray tf), (Str.ofString "rest", Value.bytes (List.toArray R) tR), (Str.ofString "line", Value.bytes (List.toArray Y) ty), (Str.ofString "end", Value.bytes (List.toArray e) te), (Str.ofString "feed", Value.bytes (List.toArray fd) tfd)] ∧ nw = news ∧ CutSpec re Y e fd R) ?_ ?_
    · simp only [List.take_succ_cons, List.take_zero]
      intro QH hQH
      k_steps
      walk_at "sides"
      all_goals
        refine hQH _ _ ?_
        rename Fr _ _ _ _ => F9
        refine' mid_done F9 ?N ?hk ?hr ⟨_, _, _, _, _, _, _, _, rfl, rfl, ?spec⟩
        case hk => walk_at "psAre"
        case N => walk_at "dropN"
        case hr => walk_at "whSame"
        case spec => first
          | exact .inl ⟨rfl, rfl, rfl, by assumption⟩
          | exact .inr ⟨rfl, cut_lf (by assumption) (by assumption), rest_lt (by assumption), hp1, by simp⟩
          | exact .inr ⟨rfl, cut_cr (by assumption) (by assumption), rest_lt (by assumption), Nat.le_trans (part_le _ _ _) hp1, by simp⟩
    simp only [List.drop_succ_cons, List.drop_zero]
    rintro ps nw u₁ h₁ tk₁ ⟨Y, ty, e, te, fd, tfd, R, tR, rfl, rfl, hC⟩ F2 N2
    have hYl := hC.len
    refine execs_midF 1 F2 (fun ps nw' => ∃ y ty, ps = [(Str.ofString "found", Value.bytes fo.toArray tf), (Str.ofString "rest", Value.bytes R.toArray tR), (Str.ofString "line", Value.bytes (List.toArray y) ty), (Str.ofString "end", Value.bytes e.toArray te), (Str.ofString "feed", Value.bytes fd.toArray tfd)] ∧ nw' = nw ∧ rstripped wht Y = y ∧ y.length ≤ Y.length) ?_ ?_
    · simp only [List.take_succ_cons, List.take_zero]
      intro QH hQH
      k_steps
      unfold Stop
      refine strip_loop (news := nw) (by k_asm) rfl (by k_asm) ?_
      rintro ⟨y, ty⟩ u₂ h₂ tk₂ ⟨hy, hyl⟩ F3 N3
      dsimp only at hy hyl F3 ⊢
      have hyb := part_le y none (some (-1))
      refine wp_hideT ?_
      intro QT QF hQT hQF
      k_steps
      walk_at "sides"
      · have hsm := strip_more hy (by assumption)
        exact hQT _ _ <| wh_done (_, _) (by k_asm) (by walk_at "dropN") (fun p hp => by rw [List.mem_singleton.mp hp]; exact rfl) (by walk_at "whSame") ⟨hsm.1, Nat.le_of_lt (Nat.lt_of_lt_of_le hsm.2 hyl)⟩ hsm.2
      · refine hQF _ ?_
        k_steps
        refine hQH _ _ ?_
        rename Fr _ _ _ _ => F9
        refine' mid_done F9 ?N ?hk ?hr ⟨_, _, rfl, rfl, strip_end hy (by assumption), hyl⟩
        case hk => walk_at "psAre"
        case N => walk_at "dropN"
        case hr => walk_at "whSame"
    simp only [List.drop_succ_cons, List.drop_zero]
    clear F2 N2
    rintro ps nw' u₂ h₂ tk₂ ⟨y, ty, rfl, rfl, hy, hyl⟩ F3 N3
    have hyb := part_le y none (some (-1))
    have hs1 := splitEq_len y
    have hs2 := splitEq_len (part y none (some (-1)))
    have hs3 := List.length_pos_iff.mpr (splitEq_ne y)
    have hs4 := List.length_pos_iff.mpr (splitEq_ne (part y none (some (-1))))
    refine execs_midF 4 F3 (fun ps nw => ∃ (b : Bool), ∃ z vs D k tp, ps = [(Str.ofString "found", Value.bytes fo.toArray tf), (Str.ofString "rest", Value.bytes R.toArray tR), (Str.ofString "end", Value.bytes e.toArray te), (Str.ofString "feed", Value.bytes fd.toArray tfd), (Str.ofString "is_soft", Value.bool b), (Str.ofString "parts", Value.ref D), (Str.ofString "plain", Value.bytes (List.toArray ((splitEq z).getD 0 [])) tp)] ∧ nw = (D, listOf (List.toArray vs) k) :: nw' ∧ BsAre vs (splitEq z) ∧ z.length ≤ y.length ∧ decLine (Y, e) = unquoted z ++ (if b then [] else e)) ?_ ?_
    · simp only [List.take_succ_cons, List.take_zero]
      intro QH hQH
      k_steps
      walk_at "sides"
      all_goals
        refine hQH _ _ ?_
        rename Fr _ _ _ _ => F9
        rename BsAre _ (splitEq _) => hBs
        refine' mid_done F9 ?N ?hk ?hr ⟨_, _, _, _, _, _, rfl, rfl, hBs, ?len, ?spec⟩
        case hk => walk_at "psAre"
        case N => walk_at "dropN"
        case hr => walk_at "whSame"
        case len => first | exact Nat.le_refl _ | exact hyb
        case spec => first | exact read_soft1 hy (by assumption) | exact read_soft2 hy (by assumption) | exact read_hard1 hy (by assumption) | exact read_hard2 hy (by assumption)
    simp only [List.drop_succ_cons, List.drop_zero]
    clear F3 N3
    rintro ps nw₂ u₃ h₃ tk₃ ⟨b, z, vs, D, k, tp, rfl, rfl, hBs, hz, hdec⟩ F4 N4
    have hpl := hBs.length
    have hs5 := splitEq_len z
    k_steps
    unfold Stop
    refine For_invVF (by k_asm) rfl rfl ?_
    k_steps
    walk_at "sides"
    unfold Stop
    rename News _ _ _ _ => NN
    refine read_loop (news := nw') hBs NN (fun p hp => .tail _ hp) rfl (by k_asm) rfl ?_ ?_
    · rintro p ⟨pl, tpl⟩ tv u₄ h₄ tk₄ tl hpz hcl htl F5 N5
      clear NN
      dsimp only at hcl F5 ⊢
      have hpp1 := part_le p none (some 2)
      have hpp2 := part_le p (some 2) none
      refine wp_hide ?_
      intro QH hQH
      k_steps
      walk_at "sides"
      all_goals first
        | (show Side (_ < 256); exact (byte_lt _).2)
        | (show Side (∀ n ∈ [_], _); exact out_side (by assumption) (by assumption) (by assumption) (by assumption) (by assumption))
        | (refine hQH _ _ ?_
           refine' l0_done (_, _) (by k_asm) (by walk_at "dropN") (fun p hp => by rw [List.mem_singleton.mp hp]; exact rfl) (by walk_at "frameSame") _
           first
             | exact out_hex (by assumption) (by assumption) (by assumption) (by assumption) (by assumption)
             | exact out_no (out_len (by assumption))
             | exact out_no (out_0 (by assumption) (by assumption))
             | exact out_no (out_1 (by assumption) (by assumption)))
    · intro tc u₅ h₅ tk₅ F6 N6
      clear NN
      have hun := unquoted_len z
      k_steps
      walk_at "sides"
      all_goals first
        | (refine hQW _ _ ?_
           refine' wh_done (_, _, _, _) (by k_asm) (by walk_at "dropN") ?hps (by walk_at "whSame") ⟨?heq, ?hle⟩ ?hmu
           case hps => walk_at "psAre"
           case hle => exact Nat.le_trans (Nat.le_of_lt (hC.more (by assumption)).2) hre
           case hmu => exact (hC.more (by assumption)).2
           case heq => first
             | exact (congrArg (· ++ quotedDec R) (fin_T hdec (by assumption))).trans (read_next hI (hC.more (by assumption)).1)
             | exact (congrArg (· ++ quotedDec R) (fin_F hdec (by assumption))).trans (read_next hI (hC.more (by assumption)).1))
        | (refine hQW _ _ ?_
           dsimp only [WhPost]
           k_steps
           refine ret_b (Q := Q) hret ?_ (by k_asm) (by walk_at "dropN")
           first
             | exact (fin_T hdec (by assumption)).trans (hC.last (by assumption) hI)
             | exact (fin_F hdec (by assumption)).trans (hC.last (by assumption) hI))
end
end
section
/- D8 -/
open Builtin
theorem filledD8 : hd.heap_1 = hd.heap_1 ∧ PySem.Challenge.rw_no0355_01 = PySem.Challenge.rw_no0355_01 := by
  k_fill
  exact ⟨rfl, rfl⟩
theorem rows_18 : True := by
  k_with_none
  k_with "my getMethod bytes" => (k_here; first | refine method_b slot_bytes_find type_bytes_find ?_ | refine method_b slot_bytes_index type_bytes_index ?_ | refine method_b slot_bytes_lower type_bytes_lower ?_ | refine method_b slot_bytes_rstrip type_bytes_rstrip ?_ | refine method_b slot_bytes_split type_bytes_split ?_ | refine method_b slot_bytes_join type_bytes_join ?_)
  k_with "my call builtin:bytes.find" => (k_here; first | refine call_find3 ?_ | refine call_find2 ?_; intro _ _)
  k_with "my call builtin:bytes.lower" => (k_here; refine call_lower (Side.out ?_) ?_; rotate_left; intro _ _)
  k_with "my call builtin:bytes.rstrip" => (k_here; refine call_rstrip (Side.out ?_) ?_; rotate_left; intro _ _)
  k_with "my binaryOp Add bytes bytes" => (k_here; refine add_b (Side.out ?_) ?_; rotate_left; intro _ _)
  k_with "my subscriptTail" => (k_here; (with_reducible show wpAny _ _ (subscriptTail _ _ (Value.bytes (List.toArray _) _) (Value.int _ _)) _ _ _); (refine item_b (Side.out ?_) (Side.out ?_) (Side.out ?_) ?_; rotate_left; rotate_left; rotate_left; intro _ _))
  k_with "my subscriptTail" => (k_here; (with_reducible show wpAny _ _ (subscriptTail _ (Expr.Slice _ _ none _) (Value.bytes (List.toArray _) _) (Value.ref _)) _ _ _); (with_reducible rename Fr _ _ _ _ => F'); (with_reducible rename News _ _ _ _ => N'); (refine slice_b (s := ⟨_, _, _, _, _⟩) F' N' (by constructor) (by constructor) (Side.out ?_) ?_; rotate_left; intro _ _ _ _ _))
  k_with "my call builtin:len" => (k_here; (with_reducible show wpAny _ _ (call (Value.builtin "len") [Value.bytes (List.toArray _) _]) _ _ _); (refine len_b (Side.out ?_) ?_; rotate_left; intro _ _))
  k_with "my binaryOp FloorDiv int int" => (k_here; refine fdiv_i (by first | decide | omega) (by exact PyProof.noPylong_small (by omega)) ?_; intro _ _)
  k_with "my binaryOp Mod int int" => (k_here; refine fmod_i (by first | decide | omega) ?_; intro _ _)
  k_with "my call type:bytes" => (k_here; (with_reducible show wpAny _ _ (call (Value.type _) [Value.ref _]) _ _ _); k_dflt (refine' bytes_d (by k_asm) (by k_asm) ?q628i (Side.out ?_) (Side.out ?_) ?q628h ?_; (case q628i => first | l_ints | assumption); (case q628h => with_unfolding_all rfl)); rotate_left; rotate_left; intro _ _ _ _ _; (try k_sweep))
  k_with "my dropN" => first | k_asm | (refine' cb_drop ?q629cbN ?q629cbS; (case q629cbN => assumption); (case q629cbS => kcj_all))
  k_with "my sides" => (all_goals try (show Side _; unfold Side; first | assumption | omega | (simp only [List.length_cons, List.length_nil]; omega) | (simp only [List.length_append, List.length_map, List.length_cons, List.length_nil]; omega) | decide))
  k_with "my cx" => exact ⟨by k_asm, by k_asm, by k_asm, by k_asm, by k_asm, by first | exact rfl | assumption⟩
  k_with "my enterD2" => (refine' code_def (by k_asm) (by k_asm) (by k_asm) (by k_asm) (by k_asm) (by exact rfl) (by exact rfl) ?q632kK (by k_is) (by k_is) (by ktr_room) ?q632k9 ?q632kB ?_ (by exact rfl) (by exact rfl) (by exact rfl) ?q632c5; (case q632kK => first | exact rfl | assumption); (case q632k9 => exact binds_K (by k_in) rfl (by k_is) rfl rfl rfl); (case q632c5 => decide); (case q632kB => exact locs rfl); k_whole; intro _ _ _ _ _ _ B' _ _; (try dsimp only); (try k_lift B'); (try k_fold))
  trivial
section
variable {w : World} {A : Around} {h : Heap} {g : Array GenState} {d : Drawn} {t : Nat} {os : OsState} {R : Result → Shared → Prop} {P : Params}
noncomputable abbrev mimeTail : List Value := [.ref 39, .type "Exception", .type "BaseException", .type "object"]
theorem mime_obj (X : (hd.heap_1 P).In h) : ∃ nm q bs sn sub ab col dd k0 k1 k2 k3 k5, h.get? 52 = some (excClassObj nm q 52 51 bs mimeTail true sn sub ab col dd k0 k1 k2 k3 k5 "Exception.__new__") :=
  ⟨_, _, _, _, _, _, _, _, _, _, _, _, _, X _ _ (by k_is)⟩
theorem mime_init (X : (hd.heap_1 P).In h) : Looks (model prg w) h (typeLookup (.ref 52) "__init__") (some (.ref 29)) := looks_findIn X (by k_is)
theorem mime_bind (X : (hd.heap_1 P).In h) (self : Value) : Looks (model prg w) h (bindSpecial (.ref 29) self) (.ref 29, [self]) := bind_fn X self (by k_is)
theorem mime_call (X : (hd.heap_1 P).In h) : Looks (model prg w) h (specialOf (.ref 52) "__call__") (some (.builtin "type.__call__")) := looks_specialIn X (by k_is)
theorem mime_typ (X : (hd.heap_1 P).In h) : Looks (model prg w) h (isInstance (.ref 52) (.type "type")) true := looks_instIn X (by k_is)
noncomputable abbrev FE := PySem.F.excBase_Exception
noncomputable abbrev excObj (t : Addr) (d : Option Addr) : Obj := { cls := .ref 52, dict := d, data := .fields #[.ref t, .none, .none, .none, .bool false, .none] }
theorem mime_check_new (X : (hd.heap_1 P).In h) {M : Model} {E : Value → Shared → Prop} {rest : List Value} {Q : Unit → Shared → Prop} (hq : Q () ⟨h, g, d, t, os⟩) : wpAny M A (checkBuiltinCall "Exception.__new__" ⟨.ref 52 :: rest, []⟩) Q E ⟨h, g, d, t, os⟩ := by
  obtain ⟨nm, q, bs, sn, sub, ab, col, dd, k0, k1, k2, k3, k5, hC⟩ := mime_obj X
  have hcont : (Value.ref 52 :: mimeTail).contains (.type "Exception") = true := by decide
  have hstar := FE.noStar
  simp only [checkBuiltinCall, FE.newKind, FE.newSplit, FE.newRow]
  repeat (first | refine wpAny_loadPart_at hC ?_ | (refine wpAny_isSubtype_exc hC ?_; rw [hcont]) | refine wpAny_staticBase_exc hC ?_ | refine wpAny_madeBy_exc hC ?_ | simp only [bne_self_eq_false, Bool.false_eq_true, if_false] | wp_step)
  exact hq
theorem mime_new (X : (hd.heap_1 P).In h) {rest : List Value} (hrest : rest.length ≤ sizeLine)
    (hq : R (.ok (.ret (.ref (h.objs.size + 1)))) ⟨(h.push { cls := .type "tuple", data := .seq rest.toArray }).push (excObj h.objs.size none), g, d, t, os⟩) :
    codeAny (model prg w) A (.builtin "Exception.__new__" ⟨.ref 52 :: rest, []⟩) R ⟨h, g, d, t, os⟩ := by
  obtain ⟨nm, q, bs, sn, sub, ab, col, dd, k0, k1, k2, k3, k5, hC⟩ := mime_obj X
  have hcB : (Value.ref 52 :: mimeTail).contains (.type "Exception") = true := by decide
  have hcA : (Value.ref 52 :: mimeTail).contains (.type "AttributeError") = false := by decide
  have hcN : (Value.ref 52 :: mimeTail).contains (.type "NameError") = false := by decide
  have hends := FE.ends
  refine codeAny_builtinAt FE.entry ?_
  unfold Builtin.«BaseException.__new__»
  refine PySem.wpAt_bind ?_
  show PySem.wpAt _ _ _ (stack >>= _) _ _ _
  refine PySem.wpAt_bind (PySem.wpAt_stack fun p below => PySem.wpAt_of_wpAny ?_)
  wp_walk
  refine PySem.wpAt_of_wpAny ?_
  rw [FE.owner]
  repeat (first | with_reducible refine wpAny_madeHere_exc FE.canon hC ?_ | with_reducible refine wpAny_loadPart_at hC ?_ | (with_reducible refine wpAny_isSubtype_exc hC ?_; first | rw [hcB] | rw [hcA] | rw [hcN]) | wp_step)
  show R _ _
  rw [Heap.size_push]
  exact hq
theorem mime_core (X : (hd.heap_1 P).In h) {rest : List Value} (hrest : rest.length ≤ sizeLine)
    (hq : codeAny (model prg w) (A.under (.builtin "type.__call__" ⟨.ref 52 :: rest, []⟩)) (.call (.ref 29) ⟨.ref (h.objs.size + 1) :: rest, []⟩) (InitBack (h.objs.size + 1) R) ⟨(h.push { cls := .type "tuple", data := .seq rest.toArray }).push (excObj h.objs.size none), g, d, t, os⟩) :
    codeAny (model prg w) A (.call (.ref 52) ⟨rest, []⟩) R ⟨h, g, d, t, os⟩ := by
  obtain ⟨nm, q, bs, sn, sub, ab, col, dd, k0, k1, k2, k3, k5, hC⟩ := mime_obj X
  refine codeAny_of_tree ?_
  show wpAny _ _ (callAny (.ref 52) _) _ _ _
  refine nd_load hC ?_
  show wpAny _ _ (callAny.viaDunder (.ref 52) _) _ _ _
  unfold callAny.viaDunder
  refine wpAny_bind ((mime_call X).at ?_)
  dsimp only
  rw [tc_bind]
  refine wpAny_bind (wpAny_pure (wpAny_bind (wpAny_pure ?_)))
  refine wpAny_pure (a := Fin.again (.call (.builtin "type.__call__") ⟨.ref 52 :: rest, []⟩)) (And.intro rfl ?_)
  refine codeAny_call_builtin_at (Code.quiet_builtin _ (by decide +kernel)) entry_typeCall (check_slot tc_kind tc_split (mime_typ X) (tc_args _ _ _) ?_)
  unfold Builtin.«type.__call__»
  repeat (first | with_reducible refine wpAny_loadPart_at hC ?_ | with_reducible refine wpAny_madeBy_exc hC ?_ | wp_step)
  refine codeAny_call_builtin_code (Code.quiet_builtin _ FE.quiet) (mime_check_new X ?_)
  refine mime_new X hrest ?_
  show wpAny _ _ _ _ _ _
  have k : ∀ b o, h.get? b = some o → ((h.push { cls := .type "tuple", data := .seq rest.toArray }).push (excObj h.objs.size none)).get? b = some o := fun b o e => Heap.get?_push_of_some _ (Heap.get?_push_of_some _ e)
  have hC₁ := k _ _ hC
  have hget : ((h.push { cls := .type "tuple", data := .seq rest.toArray }).push (excObj h.objs.size none)).get? (h.objs.size + 1) = some (excObj h.objs.size none) := by heap_get
  have hcC : (Value.ref 52 :: mimeTail).contains (.ref 52) = true := by decide
  unfold isInstance
  repeat (first | with_reducible refine wpAny_loadPart_at hget ?_ | (with_reducible refine wpAny_isSubtype_exc hC₁ ?_; rw [hcC]) | wp_step)
  show wpAny _ _ (typeLookup (.ref 52) _) _ _ _
  refine ((mime_init X).keeps k).here ?_
  refine wpAny_holding (wpAny_bind (((mime_bind X _).keeps k).here ?_))
  refine wpAny_bind (wpAny_call (codeAny_mono hq fun r s' z => ?_))
  rcases r with e | (v | _ | _ | _) <;> first | exact z | exact z.elim | skip
  obtain ⟨rfl, z⟩ := z
  exact wpAny_pure (wpAny_pure z)
noncomputable abbrev SE := PySem.F.store_Exception
open Builtin.ObjectAttr in
theorem mime_store (X : (hd.heap_1 P).In h) {E : Value → Shared → Prop} {x : Addr} {o : Obj} {name : Str} {v : Value} {mA : Str → Option Value} {ns : List Str} {Q : Unit → Shared → Prop} (hx : h.get? x = some o) (hc : o.cls = .ref 52) (hnc : ∀ c, o.data ≠ .cls c)
    (hd' : (o.dict = none ∧ ∀ n, mA n = none) ∨ ∃ dx, o.dict = some dx ∧ dx ≠ x ∧ h.Ns1 dx mA) (hn : findIn (hd.heap_1 P) (.ref 52) name = some none) (hs : findIn (hd.heap_1 P) (.ref 52) "__setattr__" = some (some (.builtin "object.__setattr__")))
    (hq : ∀ h' tk' dx, h'.get? x = some { o with dict := some dx } → dx ≠ x → h'.Ns1 dx (fun y => if y = name then some v else mA y) → (∀ b ob, b ≠ x → (o.dict = some dx → b ≠ dx) → h.get? b = some ob → h'.get? b = some ob) → (o.dict = none → h.get? dx = none) → (∀ d', o.dict = some d' → d' = dx) → Q () ⟨h', g, d, tk', os⟩)
    (hw : Within mA ns) (hsz : ns.length ≤ 100) :
    wpAny (model prg w) A (setAttr (.ref x) name v) Q E ⟨h, g, d, t, os⟩ := by
  obtain ⟨nm, q, bs, sn, sub, ab, col, dd, k0, k1, k2, k3, k5, hC⟩ := mime_obj X
  have T : Looks (model prg w) h (typeOf (.ref x)) (.ref 52) := hc ▸ ((Looks.ld hx).andThen .now)
  refine wpAny_bind (wpAny_mkText (wpAny_bind (wpAny_bind (wpAny_bind (T _ _ _ _ (fun _ _ e => e) (looks_findIn X hs _ _ _ _ (fun _ _ e => e) (wpAny_holding ?_)))))))
  rw [SE.slot.bind]
  refine wpAny_bind (wpAny_pure (wpAny_bind (wpAny_call (codeAny_mono (R := fun r s' => r = .ok (.ret .none) ∧ Q () s') ?_ fun r s' z => ?_))))
  rotate_left
  · obtain ⟨rfl, z⟩ := z
    exact wpAny_pure (wpAny_pure z)
  have sub' : Looks (model prg w) h (isInstance (.ref x) (.type "object")) true := T.andThen (looks_mroIn X (by k_is))
  refine codeAny_call_builtin SE.slot.plain SE.entry (@check_slot (model prg w) _ _ _ "object.__setattr__" "object" "__setattr__" (.ref x) [.str name t, v] [] _ SE.kind SE.split sub' (SE.args (.ref x) (.str name t) v) ?_)
  show wpAny _ _ (Builtin.«object.__setattr__» ⟨[.ref x, .str name t, v], []⟩) _ _ ⟨h, g, d, t + 1, os⟩
  rw [osa_eq, refuse_eq]
  have hm : Looks (model prg w) h (mroOf (.ref 52)) (.ref 52 :: mimeTail) := fun _ _ _ _ k q => wpAny_mroOf_exc (k _ _ hC) q
  refine wpAny_bind (wpAny_bind (T.at (wpAny_bind (hm.at ?_))))
  rw [refuseLoop_ref, refuseLoop_ref, SE.passes]
  refine wpAny_pure (wpAny_bind (T.at (wpAny_bind ((looks_findIn X hn).at (wpAny_bind (wpAny_pure ?_))))))
  show wpAny _ _ (storeInOwnDict (.ref x) (.ref 52) (.str name t) name v false) _ _ _
  unfold storeInOwnDict
  repeat (first | (with_reducible refine wpAny_loadPart_at hx ?_; rw [hc]) | with_reducible refine wpAny_loadPart_at hC ?_ | wp_step)
  rcases hd' with ⟨hdn, hmA⟩ | ⟨dx, hdx, hne, hns⟩
  · rw [hdn, if_neg (by simp [typeHasDict])]
    split
    · rename_i hcd
      cases hcd
    split
    · rename_i c hcd
      exact absurd hcd (hnc c)
    · have hx₁ : (h.push { cls := .type "dict", data := .dict #[] }).get? x = some o := Heap.get?_push_of_some _ hx
      have hxs : x ≠ h.objs.size := Nat.ne_of_lt (Heap.lt_size hx)
      refine wpAny_bind (wpAny_alloc' ?_)
      refine wpAny_bind (wpAny_update' hx₁ ?_)
      refine wpAny_pure ?_
      have hgd : ((h.push { cls := .type "dict", data := .dict #[] }).update x fun o => { cls := o.cls, dict := some h.objs.size, data := o.data, slots := o.slots }).get? h.objs.size
          = some { cls := .type "dict", data := .dict #[] } :=
        (Heap.get?_update_ne _ _ _ _ hxs.symm).trans (Heap.get?_push_at rfl rfl)
      have hnd : ((h.push { cls := .type "dict", data := .dict #[] }).update x fun o => { cls := o.cls, dict := some h.objs.size, data := o.data, slots := o.slots }).Ns h.objs.size (fun _ => none) :=
        ⟨_, #[], _, hgd, rfl, fun e he => absurd he (by simp), fun _ => rfl⟩
      show wpAny _ _ (storeInDict h.objs.size (.str name t) name v) _ _ _
      unfold storeInDict newKeyGuard
      refine wpAny_bind (wpAny_pure (wpAny_bind (wpAny_nsSet1 (Heap.Ns1.of_empty hnd) fun h' hn' hs => ?_)))
      obtain ⟨oD, esD, epD, hoD, hdD, hcD⟩ := hn'.count (Within.cons name v Within.nil)
      refine wpAny_bind (wpAny_lookBehind hoD (by rw [hdD]; exact pastItsLine_dict (Nat.le_trans hcD (by rw [List.length_cons, List.length_nil, sizeLine_eq]; omega))) ?_)
      wp_walk
      have hx' : h'.get? x = some { cls := o.cls, dict := some h.objs.size, data := o.data, slots := o.slots } := by
        refine (hs.2 x hxs).trans (Heap.get?_update_self _ hx₁ ?_)
        have hfr := (Heap.get?_some_iff.mp hx).2
        obtain ⟨oc, od, odt, osl⟩ := o
        cases odt <;> first | rfl | exact hfr
      refine ⟨rfl, hq h' _ h.objs.size hx' hxs.symm ?_ (fun b ob hbx _ hb => ?_) (fun _ => Heap.get?_none_of_le (Nat.le_refl _)) (fun d' e => by rw [hdn] at e; cases e)⟩
      · obtain ⟨o', es, ep, e1, e2, e3, eu, e4⟩ := hn'
        exact ⟨o', es, ep, e1, e2, e3, eu, fun y => by rw [e4 y]; by_cases hy : y = name <;> simp [hy, hmA]⟩
      · exact (hs.2 b (Nat.ne_of_lt (Heap.lt_size hb))).trans ((Heap.get?_update_ne _ _ _ _ hbx).trans (Heap.get?_push_of_some _ hb))
  · rw [hdx]
    refine wpAny_pure ?_
    show wpAny _ _ (storeInDict dx (.str name t) name v) _ _ _
    unfold storeInDict newKeyGuard
    refine wpAny_bind (wpAny_pure (wpAny_bind (wpAny_nsSet1 hns fun h' hn' hs => ?_)))
    obtain ⟨oD, esD, epD, hoD, hdD, hcD⟩ := hn'.count (Within.cons name v hw)
    refine wpAny_bind (wpAny_lookBehind hoD (by rw [hdD]; exact pastItsLine_dict (Nat.le_trans hcD (by rw [List.length_cons, sizeLine_eq]; omega))) ?_)
    wp_walk
    refine ⟨rfl, hq h' _ dx ?_ hne hn' (fun b ob _ hbd hb => (hs.2 b (hbd hdx)).trans hb) (fun e => by rw [hdx] at e; cases e) (fun d' e => Option.some.inj (e.symm.trans hdx))⟩
    rw [(hs.2 x hne.symm).trans hx]
    obtain ⟨oc, od, odt, osl⟩ := o
    dsimp only at hdx
    subst hdx
    rfl
theorem mime_check_init (X : (hd.heap_1 P).In h) {M : Model} {E : Value → Shared → Prop} {e : Addr} {oe : Obj} {rest : List Value} {Q : Unit → Shared → Prop} (he : h.get? e = some oe) (hcls : oe.cls = .ref 52) (hq : Q () ⟨h, g, d, t, os⟩) :
    wpAny M A (checkBuiltinCall "Exception.__init__" ⟨.ref e :: rest, []⟩) Q E ⟨h, g, d, t, os⟩ := by
  obtain ⟨nm, q, bs, sn, sub, ab, col, dd, k0, k1, k2, k3, k5, hC⟩ := mime_obj X
  have hcB : (Value.ref 52 :: mimeTail).contains (.type "Exception") = true := by decide
  have hshort := FE.noStar
  simp only [checkBuiltinCall, FE.initKind, FE.initSplit, FE.initRow]
  repeat (first | (with_reducible refine wpAny_loadPart_at he ?_; rw [hcls]) | with_reducible refine wpAny_loadPart_at hC ?_ | (with_reducible refine wpAny_isSubtype_exc hC ?_; rw [hcB]) | wp_step)
  refine wpAny_onRaise ?_
  rw [show ∀ (a b : String) (n : Nat), Bind.check ⟨.positional, "*", "Exception", .self, [⟨"args", .varPos, false⟩]⟩ a b n (List.map (fun x => x.fst) ({ pos := Value.ref e :: rest } : Args).kw) = pure () from
    fun a b n => check_star_args _ _ _ _ _ _]
  exact wpAny_pure hq
theorem mime_init_call (X : (hd.heap_1 P).In h) {E : Value → Shared → Prop} {e tp : Addr} {dx : Option Addr} {v : Value} {Q : Value → Shared → Prop} (he : h.get? e = some (excObj tp dx))
    (hq : ∀ h' t', h.get? t' = none → (∀ b o, b ≠ e → h.get? b = some o → h'.get? b = some o) → h'.get? e = some (excObj t' dx) → h'.get? t' = some { cls := .type "tuple", data := .seq #[v] } → Q .none ⟨h', g, d, t, os⟩) :
    wpAny (model prg w) A (call (.builtin "Exception.__init__") [.ref e, v]) Q E ⟨h, g, d, t, os⟩ := by
  refine wpAny_call (codeAny_call_builtin FE.init.plain FE.initEntry (mime_check_init X he rfl ?_))
  wp_walk
  refine hq _ h.objs.size (Heap.get?_none_of_le (Nat.le_refl _)) (fun b o hbe hb => ?_) ?_ ?_
  · rw [Heap.get?_update_other _ _ (Ne.symm hbe)]
    exact Heap.get?_push_of_some _ hb
  · rw [Heap.get?_update_self _ (Heap.get?_push_of_some _ he) rfl]
    rfl
  · rw [Heap.get?_update_other _ _ (Nat.ne_of_lt (Heap.lt_size he))]
    exact Heap.get?_push_at rfl rfl
end
section
variable {w : World} {A : Around} {s : Shared} {h₀ : Heap} {L : Addr} {m : Str → Option Value} {news : List (Addr × Obj)} {E : Value → Shared → Prop}
noncomputable abbrev tupOne (v : Value) : Obj := { cls := .type "tuple", data := .seq #[v] }
theorem fr_move {h h' : Heap} (F : Fr h₀ L h m) (k : ∀ b o, (b = L ∨ ∃ o', h₀.get? b = some o') → h.get? b = some o → h'.get? b = some o) : Fr h₀ L h' m :=
  ⟨F.ns.at' fun o e => k _ o (.inl rfl) e, fun b o e => k b o (.inr ⟨o, e⟩) (F.keep b o e), F.above⟩
theorem exc_init_K {e tp : Addr} {ot : Obj} {v : Value} {Q : Value → Shared → Prop} (F : Fr h₀ L s.heap m) (X₀ : (hd.heap_1 w.params).In h₀) (N : News h₀ L s.heap ((e, excObj tp none) :: (tp, ot) :: news)) (hne : ∀ p ∈ news, p.1 ≠ e)
    (h : ∀ t' h', Fr h₀ L h' m → News h₀ L h' ((e, excObj t' none) :: (t', tupOne v) :: news) → (∀ p ∈ (t', tupOne v) :: news, p.1 ≠ e) → (∀ p ∈ news, p.1 ≠ t') → Q .none { s with heap := h' }) :
    wpAny (model prg w) A (call (.builtin "Exception.__init__") [.ref e, v]) Q E s := by
  obtain ⟨hh, g, d, tk, os⟩ := s
  have Ne := N _ (.head _)
  refine mime_init_call (X₀.keeps F.keep) Ne.1 fun h' t' hn k he ht => ?_
  have hL : t' ≠ L := fun q => by
    obtain ⟨oL, _, _, hL, _⟩ := F.ns
    rw [q, hL] at hn; cases hn
  have h0 : h₀.get? t' = none := by
    cases hq : h₀.get? t' with
    | none => rfl
    | some o => have := F.keep _ _ hq; rw [hn] at this; cases this
  refine h t' h' (fr_move F fun b o hb e1 => k b o ?_ e1) (fun p hp => ?_) (fun p hp => ?_) (fun p hp q => ?_)
  · rintro rfl
    rcases hb with hb | ⟨o', hb⟩
    · exact Ne.2.1 hb
    · rw [Ne.2.2] at hb; cases hb
  · rcases List.mem_cons.mp hp with rfl | hp
    · exact ⟨he, Ne.2⟩
    · rcases List.mem_cons.mp hp with rfl | hp
      · exact ⟨ht, hL, h0⟩
      · have Np := N _ (.tail _ (.tail _ hp))
        exact ⟨k _ _ (hne p hp) Np.1, Np.2⟩
  · rcases List.mem_cons.mp hp with rfl | hp
    · intro q
      dsimp only at q
      rw [q, Ne.1] at hn; cases hn
    · exact hne p hp
  · have := (N _ (.tail _ (.tail _ hp))).1
    rw [q, hn] at this; cases this
/-- the dict of the fault, made by the first store -/
structure DxOk (h₀ : Heap) (L : Addr) (h : Heap) (e dx : Addr) (n : Str) (v : Value) (news : List (Addr × Obj)) : Prop where
  ns : h.Ns1 dx (fun y => if y = n then some v else none)
  off : ∀ p ∈ news, p.1 ≠ dx
  ne : dx ≠ e
  nL : dx ≠ L
  new : h₀.get? dx = none
theorem exc_set_1 {e tp : Addr} {name : Str} {v : Value} {Q : Unit → Shared → Prop} (F : Fr h₀ L s.heap m) (X₀ : (hd.heap_1 w.params).In h₀) (N : News h₀ L s.heap ((e, excObj tp none) :: news)) (hne : ∀ p ∈ news, p.1 ≠ e)
    (hn : findIn (hd.heap_1 w.params) (.ref 52) name = some none) (hs : findIn (hd.heap_1 w.params) (.ref 52) "__setattr__" = some (some (.builtin "object.__setattr__")))
    (h : ∀ dx h' tk', Fr h₀ L h' m → News h₀ L h' ((e, excObj tp (some dx)) :: news) → DxOk h₀ L h' e dx name v news → Q () { s with heap := h', toks := tk' }) :
    wpAny (model prg w) A (setAttr (.ref e) name v) Q E s := by
  obtain ⟨hh, g, d, tk, os⟩ := s
  have Ne := N _ (.head _)
  refine mime_store (X₀.keeps F.keep) (mA := fun _ => none) (ns := []) Ne.1 rfl (fun c q => by cases q) (.inl ⟨rfl, fun _ => rfl⟩) hn hs (fun h' tk' dx hx hdx hns k hdn _ => ?_) Within.nil (by simp)
  have hnone := hdn rfl
  have hL : dx ≠ L := fun q => by
    obtain ⟨oL, _, _, hL, _⟩ := F.ns
    rw [q, hL] at hnone; cases hnone
  have h0 : h₀.get? dx = none := by
    cases hq : h₀.get? dx with
    | none => rfl
    | some o => have := F.keep _ _ hq; rw [hnone] at this; cases this
  refine h dx h' tk' (fr_move F fun b o hb e1 => k b o ?_ (fun q => by cases q) e1) (fun p hp => ?_) ⟨hns, fun p hp q => ?_, hdx, hL, h0⟩
  · rintro rfl
    rcases hb with hb | ⟨o', hb⟩
    · exact Ne.2.1 hb
    · rw [Ne.2.2] at hb; cases hb
  · rcases List.mem_cons.mp hp with rfl | hp
    · exact ⟨hx, Ne.2⟩
    · have Np := N _ (.tail _ hp)
      exact ⟨k _ _ (hne p hp) (fun q => by cases q) Np.1, Np.2⟩
  · have := (N _ (.tail _ hp)).1
    rw [q, hnone] at this; cases this
theorem exc_set_2 {e tp dx : Addr} {n name : Str} {v u : Value} {Q : Unit → Shared → Prop} (F : Fr h₀ L s.heap m) (X₀ : (hd.heap_1 w.params).In h₀) (N : News h₀ L s.heap ((e, excObj tp (some dx)) :: news)) (hne : ∀ p ∈ news, p.1 ≠ e) (D : DxOk h₀ L s.heap e dx n u news)
    (hn : findIn (hd.heap_1 w.params) (.ref 52) name = some none) (hs : findIn (hd.heap_1 w.params) (.ref 52) "__setattr__" = some (some (.builtin "object.__setattr__")))
    (h : ∀ h' tk', Fr h₀ L h' m → News h₀ L h' ((e, excObj tp (some dx)) :: news) → Q () { s with heap := h', toks := tk' }) :
    wpAny (model prg w) A (setAttr (.ref e) name v) Q E s := by
  obtain ⟨hh, g, d, tk, os⟩ := s
  have Ne := N _ (.head _)
  refine mime_store (X₀.keeps F.keep) (ns := [n]) Ne.1 rfl (fun c q => by cases q) (.inr ⟨dx, rfl, D.ne, D.ns⟩) hn hs (fun h' tk' dx' hx hdx hns k _ hd' => ?_) (Within.cons n u Within.nil) (by simp)
  obtain rfl := hd' dx rfl
  refine h h' tk' (fr_move F fun b o hb e1 => k b o ?_ (fun _ => ?_) e1) (fun p hp => ?_)
  · rintro rfl
    rcases hb with hb | ⟨o', hb⟩
    · exact Ne.2.1 hb
    · rw [Ne.2.2] at hb; cases hb
  · rintro rfl
    rcases hb with hb | ⟨o', hb⟩
    · exact D.nL hb
    · rw [D.new] at hb; cases hb
  · rcases List.mem_cons.mp hp with rfl | hp
    · exact ⟨hx, Ne.2⟩
    · have Np := N _ (.tail _ hp)
      exact ⟨k _ _ (hne p hp) (fun _ => D.off p hp) Np.1, Np.2⟩
end
theorem rows_19 : True := by
  k_with "my getMethod type:Exception" => (k_here; refine' method_type ?q633F ?q633X ?q633m (by decide +kernel) ?q633e ?q633h ?_; (case q633F => k_asm); (case q633X => k_asm); (case q633m => first | rfl | kernel_rfl); (case q633e => k_dflt k_is); (case q633h => k_handed))
  k_with "my call builtin:Exception.__init__" => (k_here; refine' exc_init_K ?q634F ?q634X ?q634N ?q634ne ?_; (case q634F => k_asm); (case q634X => k_asm); (case q634N => k_asm); (case q634ne => assumption); intro _ _ _ _ _ _)
  k_with "my setAttr ref" => (k_here; first | (refine' exc_set_1 ?q635F ?q635X ?q635N ?q635ne ?q635hn ?q635hs ?_; (case q635F => k_asm); (case q635X => k_asm); (case q635N => k_asm); (case q635ne => assumption); (case q635hn => k_is); (case q635hs => k_is); intro _ h' tk' F' N' _) | (refine' exc_set_2 ?q635F ?q635X ?q635N ?q635ne ?q635D ?q635hn ?q635hs ?_; (case q635F => k_asm); (case q635X => k_asm); (case q635N => k_asm); (case q635ne => assumption); (case q635D => assumption); (case q635hn => k_is); (case q635hs => k_is); intro h' tk' F' N'))
  trivial
section
variable {w : World} {mean : ExcName → Option Value} {mg mb : Str → Option Value} {dp un : Nat} {gd : Option (List Code)} {cn : Str} {cs : Scope} {a : Addr} {ccd : Value} {cl : List (Str × Addr)} {outer : List Env} {A₀ : Around} {base h₀ : Heap} {L : Addr} {m : Str → Option Value} {news : List (Addr × Obj)} {s : Shared} {Q E : Value → Shared → Prop}
theorem use_mime (C : Cx w mean mg mb A₀ base outer h₀ L s.heap m news cs) (hd : dp + 1 < recursionLimit) (hu : un + 16 < cLine) {x : Str} {u : Tok}
    (hret : ∀ e tp d h' tk' v, Fr h₀ L h' m → News h₀ L h' ((e, excObj tp d) :: (tp, tupOne v) :: news) → (∀ p ∈ news, p.1 ≠ e) → (∀ p ∈ news, p.1 ≠ tp) → Q (.ref e) { s with heap := h', toks := tk' }) :
    wpAny (model PySem.Challenge.rw_no0355_01.row.toRowW.prog w) (ktrTop dp un gd cn cs L a ccd cl outer) (call (.ref 52) [.str x u]) Q E s := by
  obtain ⟨B, F, X, N, T, hk⟩ := C
  obtain ⟨hh, g, d, tk, os⟩ := s
  have F₁ := (F.push { cls := .type "tuple", data := .seq #[.str x u] }).push (excObj hh.objs.size none)
  have N₁ := (N.push F { cls := .type "tuple", data := .seq #[.str x u] }).push (F.push _) (excObj hh.objs.size none)
  rw [Heap.size_push] at N₁
  refine wpAny_call (mime_core (X.keeps F.keep) (by rw [sizeLine_eq]; simp) ?_)
  have hne : ∀ p ∈ news, p.1 ≠ hh.objs.size + 1 := fun p hp => Nat.ne_of_lt (Nat.lt_succ_of_lt (Heap.lt_size (N p hp).1))
  dsimp only at F N hret
  clear F N
  k_dflt (walk_at "enterD2")
  k_steps
  exact hret _ _ _ _ _ _ (by k_asm) (by k_asm) hne (by assumption)
end
section
variable {M : Model} {A : Around} {E : Value → Shared → Prop} {s' : Shared} {base g : Heap} {outer : List Env} {L a e tp : Addr} {dx : Option Addr} {v : Value} {m : Str → Option Value} {name : Str} {scope : Scope} {cd : Value} {Q : Unit → Shared → Prop} {news : List (Addr × Obj)}
theorem leave_mime (K : Below A base outer g) (F : Fr g L s'.heap m) (N : News g L s'.heap ((e, excObj tp dx) :: (tp, tupOne v) :: news)) (he : ∀ q ∈ news, q.1 ≠ e) (ht : ∀ q ∈ news, q.1 ≠ tp)
    (hQ : ∀ h', RaisedS base g outer e (.ref 52) tp [v] news h' → RaisedK base outer e (.ref 52) tp [v] news h' → g.UpToSlots h' → Q () { s' with heap := h' }) (hk : scope.kind = .function := by rfl) :
    wpAny M (A.deeper (envOf name scope L a cd)) (leaving (envOf name scope L a cd) (.ref e)) Q E s' := by
  have K' := K.push (name := name) (a := a) (cd := cd) F hk
  have Ne := N _ (.head _)
  have Nt := N _ (.tail _ (.head _))
  have e0 : base.get? e = none := fresh_of_stays K.stays Ne.2.2
  have t0 : base.get? tp = none := fresh_of_stays K.stays Nt.2.2
  have hin : ∀ env ∈ (envOf name scope L a cd :: outer), ∀ b, env.frame = some b → b ∈ (envOf name scope L a cd :: outer).filterMap (·.frame) ++ [e, tp] := fun env he b hb => List.mem_append_left _ (List.mem_filterMap.mpr ⟨env, he, hb⟩)
  have st : base.StaysIn (hideAll s'.heap ((envOf name scope L a cd :: outer).filterMap (·.frame) ++ [e, tp])) := fun b o q => hideAll_get _ (K'.stays b o q) fun hm => by
    rcases List.mem_append.mp hm with hm | hm
    · rw [(K'.frames.mem hm).1] at q; cases q
    · rcases List.mem_cons.mp hm with rfl | hm
      · rw [e0] at q; cases q
      · rw [List.mem_singleton.mp hm, t0] at q; cases q
  have sg : ∀ b o, g.get? b = some o → b ∉ outer.filterMap (·.frame) → (hideAll s'.heap ((envOf name scope L a cd :: outer).filterMap (·.frame) ++ [e, tp])).get? b = some o := fun b o q nm => hideAll_get _ (F.keep b o q) fun hm => by
    rcases List.mem_append.mp hm with hm | hm
    · rcases kts_mem hm with z | z
      · rw [z, kts_self F] at q; cases q
      · exact nm z
    · rcases List.mem_cons.mp hm with rfl | hm
      · rw [Ne.2.2] at q; cases q
      · rw [List.mem_singleton.mp hm, Nt.2.2] at q; cases q
  have hl : ∀ q ∈ news, (hideAll s'.heap ((envOf name scope L a cd :: outer).filterMap (·.frame) ++ [e, tp])).get? q.1 = some q.2 ∧ g.get? q.1 = none ∧ base.get? q.1 = none := fun q hq => by
    have Nq := N _ (.tail _ (.tail _ hq))
    refine ⟨hideAll_get _ Nq.1 fun hm => ?_, Nq.2.2, fresh_of_stays K.stays Nq.2.2⟩
    rcases List.mem_append.mp hm with hm | hm
    · obtain ⟨env, he, hf⟩ := List.mem_filterMap.mp hm
      rcases List.mem_cons.mp he with rfl | he
      · exact Nq.2.1 (Option.some.inj hf).symm
      · obtain ⟨o, ho, _⟩ := (K.frames.mem (List.mem_filterMap.mpr ⟨env, he, hf⟩)).2
        rw [Nq.2.2] at ho; cases ho
    · rcases List.mem_cons.mp hm with hm | hm
      · exact he q hq hm
      · exact ht q hq (List.mem_singleton.mp hm)
  have ne : (hideAll s'.heap ((envOf name scope L a cd :: outer).filterMap (·.frame) ++ [e, tp])).get? e = none := hideAll_none _ (List.mem_append_right _ (.head _))
  have nt : (hideAll s'.heap ((envOf name scope L a cd :: outer).filterMap (·.frame) ++ [e, tp])).get? tp = none := hideAll_none _ (List.mem_append_right _ (.tail _ (.head _)))
  refine wpAny_leaving_firstW (a0 := .ref tp) K'.stack (funFrames_hide K'.frames hin) rfl Ne.1 (fun b o q => of_hideAll _ q) ne rfl rfl rfl fun h' hL => ?_
  obtain ⟨k1, ⟨_, _, k2⟩, k3, k4⟩ := hL
  have htup : s'.heap.TupAt tp [v] := ⟨_, _, Nt.1, rfl, rfl⟩
  have R : RaisedS base g outer e (.ref 52) tp [v] news h' := ⟨⟨_, st, sg, hl, ⟨k1, ne, k2, k3⟩, nt⟩, htup.of_slots k4⟩
  exact hQ h' R R.toK ((Heap.UpToSlots.of_keeps F.keep).trans k4)
end
section
variable {w : World} {A : Around} {E : Value → Shared → Prop} {s : Shared} {env : Env}
noncomputable def RaiseOk (w : World) (E : Value → Shared → Prop) (v : Value) (s₁ : Shared) : Prop := ∃ e tp d, v = .ref e ∧ (hd.heap_1 w.params).In s₁.heap ∧ s₁.heap.get? e = some (excObj tp d) ∧ E (.ref e) s₁
theorem raise_mime {e : Expr} {pos : Pos} {Q : Flow → Shared → Prop} (hh : A.handled = none) (h : wpAny (model prg w) A (eval e env) (RaiseOk w E) E s) : wpAny (model prg w) A (exec (.Raise (some e) none pos) env) Q E s := by
  show wpAny (model prg w) A (do standAt pos; raiseStmt env (some (do let v ← eval e env; standAt pos; pure v)) none) Q E s
  refine wpAny_bind (wpAny_standAt ?_)
  unfold raiseStmt
  dsimp only
  refine wpAny_bind (wpAny_bind (wpAny_mono h (fun v s₁ h₁ => wpAny_bind (wpAny_standAt (wpAny_pure ?_))) fun _ _ x => x))
  obtain ⟨a, tp, d, rfl, X, he, hE⟩ := h₁
  obtain ⟨hp, g, dr, tk, os⟩ := s₁
  obtain ⟨nm, q, bs, sn, sub, ab, col, dd, k0, k1, k2, k3, k5, hC⟩ := mime_obj X
  have hcB : (Value.ref 52 :: mimeTail).contains (.type "BaseException") = true := by decide
  dsimp only at he
  repeat (first | with_reducible refine wpAny_loadPart_at he ?_ | with_reducible refine wpAny_loadPart_at hC ?_ | (with_reducible refine wpAny_isSubtype_exc hC ?_; rw [hcB]) | wp_step)
  exact wpAny_raiseNew_none hh hE
end
end
section
/- D9 -/
open Builtin
theorem filledD9 : hd.heap_1 = hd.heap_1 ∧ PySem.Challenge.rw_no0355_01 = PySem.Challenge.rw_no0355_01 := by
  k_fill
  exact ⟨rfl, rfl⟩
theorem rows_20 : True := by
  k_with_none
  k_with "my getMethod bytes" => (k_here; first | refine method_b slot_bytes_find type_bytes_find ?_ | refine method_b slot_bytes_index type_bytes_index ?_ | refine method_b slot_bytes_lower type_bytes_lower ?_ | refine method_b slot_bytes_rstrip type_bytes_rstrip ?_ | refine method_b slot_bytes_split type_bytes_split ?_ | refine method_b slot_bytes_join type_bytes_join ?_)
  k_with "my call builtin:bytes.find" => (k_here; first | refine call_find3 ?_ | refine call_find2 ?_; intro _ _)
  k_with "my call builtin:bytes.lower" => (k_here; refine call_lower (Side.out ?_) ?_; rotate_left; intro _ _)
  k_with "my call builtin:bytes.rstrip" => (k_here; refine call_rstrip (Side.out ?_) ?_; rotate_left; intro _ _)
  k_with "my binaryOp Add bytes bytes" => (k_here; refine add_b (Side.out ?_) ?_; rotate_left; intro _ _)
  k_with "my subscriptTail" => (k_here; (with_reducible show wpAny _ _ (subscriptTail _ _ (Value.bytes (List.toArray _) _) (Value.int _ _)) _ _ _); (refine item_b (Side.out ?_) (Side.out ?_) (Side.out ?_) ?_; rotate_left; rotate_left; rotate_left; intro _ _))
  k_with "my subscriptTail" => (k_here; (with_reducible show wpAny _ _ (subscriptTail _ (Expr.Slice _ _ none _) (Value.bytes (List.toArray _) _) (Value.ref _)) _ _ _); (with_reducible rename Fr _ _ _ _ => F'); (with_reducible rename News _ _ _ _ => N'); (refine slice_b (s := ⟨_, _, _, _, _⟩) F' N' (by constructor) (by constructor) (Side.out ?_) ?_; rotate_left; intro _ _ _ _ _))
  k_with "my call builtin:len" => (k_here; (with_reducible show wpAny _ _ (call (Value.builtin "len") [Value.bytes (List.toArray _) _]) _ _ _); (refine len_b (Side.out ?_) ?_; rotate_left; intro _ _))
  k_with "my binaryOp FloorDiv int int" => (k_here; refine fdiv_i (by first | decide | omega) (by exact PyProof.noPylong_small (by omega)) ?_; intro _ _)
  k_with "my binaryOp Mod int int" => (k_here; refine fmod_i (by first | decide | omega) ?_; intro _ _)
  k_with "my call type:bytes" => (k_here; (with_reducible show wpAny _ _ (call (Value.type _) [Value.ref _]) _ _ _); k_dflt (refine' bytes_d (by k_asm) (by k_asm) ?q646i (Side.out ?_) (Side.out ?_) ?q646h ?_; (case q646i => first | l_ints | assumption); (case q646h => with_unfolding_all rfl)); rotate_left; rotate_left; intro _ _ _ _ _; (try k_sweep))
  k_with "my dropN" => first | k_asm | (refine' cb_drop ?q647cbN ?q647cbS; (case q647cbN => assumption); (case q647cbS => kcj_all))
  k_with "my sides" => (all_goals try (show Side _; unfold Side; first | assumption | omega | (simp only [List.length_cons, List.length_nil]; omega) | (simp only [List.length_append, List.length_map, List.length_cons, List.length_nil]; omega) | decide))
  k_with "my cx" => exact ⟨by k_asm, by k_asm, by k_asm, by k_asm, by k_asm, by first | exact rfl | assumption⟩
  k_with "my enterD2" => (refine' code_def (by k_asm) (by k_asm) (by k_asm) (by k_asm) (by k_asm) (by exact rfl) (by exact rfl) ?q650kK (by k_is) (by k_is) (by ktr_room) ?q650k9 ?q650kB ?_ (by exact rfl) (by exact rfl) (by exact rfl) ?q650c5; (case q650kK => first | exact rfl | assumption); (case q650k9 => exact binds_K (by k_in) rfl (by k_is) rfl rfl rfl); (case q650c5 => decide); (case q650kB => exact locs rfl); k_whole; intro _ _ _ _ _ _ B' _ _; (try dsimp only); (try k_lift B'); (try k_fold))
  k_with "my exec Raise some none" => (k_here; refine raise_mime rfl ?_)
  k_with "my call ref" => (k_here; (with_reducible show wpAny _ _ (call (Value.ref 52) [Value.str _ _]) _ _ _); k_dflt (refine' use_mime (dp := _) (by walk_at "cx") (by ktr_room) (by ktr_units) ?_); intro _ _ _ _ _ _ _ _ _ _)
  k_with "my RaiseOk" => ((with_reducible rename Fr _ _ _ _ => F9); (with_reducible rename News _ _ _ _ => N9); refine ⟨_, _, _, rfl, (by k_asm : Frag.In _ _).keeps F9.keep, (N9 _ (.head _)).1, ?_⟩)
  k_with "my leaving ref" => (k_here; refine' leave_mime ?q654K ?q654F (by k_asm) ?q654he ?q654ht ?_; (case q654F => assumption); (case q654K => assumption); (case q654he => assumption); (case q654ht => assumption); k_whole; intro _ S' R' U'; (try dsimp only at S' R' U' ⊢))
  k_with "my enterS0" => (refine' code_defS0 (by k_asm) (by k_asm) (by k_asm) (by k_asm) (by k_asm) (by exact rfl) (by k_is) (by k_is) (by ktr_room) ?q655k9 ?q655kB ?_ ?q655cK (by exact rfl) (by exact rfl) (by exact rfl) ?q655c5; (case q655k9 => exact BindsTo.of_eq rfl); (case q655kB => exact locs rfl); (case q655cK => assumption); (case q655c5 => decide); k_whole; intro _ _ _ _ _ _ B' _ _ _; (try dsimp only); (try k_lift B'); (try k_fold))
  trivial
section
variable {w : World} {mean : ExcName → Option Value} {mg mb : Str → Option Value} {dp un : Nat} {gd : Option (List Code)} {cn : Str} {cs : Scope} {a : Addr} {ccd : Value} {cl : List (Str × Addr)} {outer : List Env} {A₀ : Around} {base h₀ : Heap} {L : Addr} {m : Str → Option Value} {news : List (Addr × Obj)} {s : Shared} {Q E : Value → Shared → Prop}
theorem use_refused3 (C : Cx w mean mg mb A₀ h₀ [] h₀ L s.heap m news cs) (hd : dp + 4 < recursionLimit) (hu : un + 32 < cLine) {u : Tok}
    (hret : ∀ h' tk', Fr h₀ L h' m → News h₀ L h' news → Q (.bool true) { s with heap := h', toks := tk' }) :
    wpAny (model PySem.Challenge.rw_no0355_01.row.toRowW.prog w) (ktrTop dp un gd cn cs L a ccd [] []) (call (.ref 189) [.int 3 u]) Q E s := by
  obtain ⟨B, F, X, N, T, hk⟩ := C
  refine wpAny_call ?_
  k_dflt (walk_at "enterS0")
  k_steps
  refine wpAny_call ?_
  k_dflt (walk_at "enterD2")
  k_steps
  exact hret _ _ (by k_asm) (by first | k_asm | walk_at "dropN")
end
theorem rows_21 : True := by
  k_with "my call ref" => (k_here; k_dflt (refine' use_enc3 (by walk_at "cx") (by ktr_room) (by ktr_units) (Side.out ?_) ?q656kw ?_; (case q656kw => first | decide | omega)); rotate_left; intro _ _ _ _ _)
  trivial
section
variable {w : World} {mean : ExcName → Option Value} {mg mb : Str → Option Value} {dp un : Nat} {gd : Option (List Code)} {cn : Str} {cs : Scope} {a : Addr} {ccd : Value} {cl : List (Str × Addr)} {outer : List Env} {A₀ : Around} {base h₀ : Heap} {L : Addr} {m : Str → Option Value} {news : List (Addr × Obj)} {s : Shared} {Q E : Value → Shared → Prop}
theorem use_refused4 (C : Cx w mean mg mb A₀ base outer h₀ L s.heap m news cs) (hd : dp + 4 < recursionLimit) (hu : un + 32 < cLine) {u : Tok}
    (hret : ∀ h' tk', Fr h₀ L h' m → News h₀ L h' news → Q (.bool false) { s with heap := h', toks := tk' }) :
    wpAny (model PySem.Challenge.rw_no0355_01.row.toRowW.prog w) (ktrTop dp un gd cn cs L a ccd cl outer) (call (.ref 189) [.int 4 u]) Q E s := by
  obtain ⟨B, F, X, N, T, hk⟩ := C
  refine wpAny_call ?_
  k_dflt cell_enter
  k_steps
  walk_at "sides"
  exact hret _ _ (by k_asm) (by k_asm)
end
end
section
/- Z0 -/
theorem rows_none_Z0 : True := by
  k_with_none
  trivial
open Builtin
section
variable {M : Model} {A : Around} {E : Value → Shared → Prop} {Q : Flow → Shared → Prop} {s : Shared} {env : Env} {g : Heap} {L' : Addr} {m₀ : Str → Option Value}
theorem execs_midG (n : Nat) (stored : List Str) {l : List Stmt} (_F : Fr g L' s.heap m₀) (P : List (Str × Value) → List (Addr × Obj) → Prop)
    (h : ∀ QH : Flow → Shared → Prop, (∀ f s', MidEnd (MidS g L' stored m₀ P s) f s' → QH f s') → wpAny M A (execs (l.take n) env) QH E s)
    (h2 : ∀ (ps : List (Str × Value)) (nw : List (Addr × Obj)) (u : Str → Option Value) (h' : Heap) (tk' : Nat), P ps nw → Fr g L' h' (kstB (fun z => if stored.contains z then u z else m₀ z) ps) → News g L' h' nw → wpAny M A (execs (l.drop n) env) Q E { s with heap := h', toks := tk' }) : wpAny M A (execs l env) Q E s :=
  execs_mid n _ h fun _ ⟨ps, nw, u, h', tk', e, hP, F, N⟩ => e ▸ h2 ps nw u h' tk' hP F N
theorem news_two {g h : Heap} {L : Addr} {a b : Addr × Obj} {rest : List (Addr × Obj)} (N : News g L h (a :: b :: rest)) : News g L h [a, b] := fun p hp => by
  rcases List.mem_cons.mp hp with rfl | hp
  · exact N _ (.head _)
  · rw [List.mem_singleton.mp hp]
    exact N _ (.tail _ (.head _))
theorem news_pen {g h : Heap} {L : Addr} {P c : Addr} {spot seed : Int} {t u : Tok} {k : Nat} {ys : List Value} {rest : List (Addr × Obj)} (N : News g L h ((P, listOf #[.ref c, .int spot t, .int seed u] k) :: (c, LCg.lst ys) :: rest)) :
    News g L h [(P, penOf c spot seed t u k), (c, listOf ys.toArray ys.length)] := news_two N
end
section
variable {w : World} {mean : ExcName → Option Value} {mg mb : Str → Option Value} {dp un : Nat} {gd : Option (List Code)} {cn : Str} {cs : Scope} {a : Addr} {ccd : Value} {cl : List (Str × Addr)} {outer : List Env} {A₀ : Around} {base h₀ : Heap} {L : Addr} {m : Str → Option Value} {news : List (Addr × Obj)} {s : Shared} {Q E : Value → Shared → Prop}
theorem use_octetsU {P c : Addr} {spot seed : Int} {t u : Tok} {k n : Nat} {cv : List Value} {ns : List Int} {rest : List (Addr × Obj)} (C : Cx w mean mg mb A₀ base outer h₀ L s.heap m news cs) (U : PenAt P (penOf c spot seed t u k) news rest) (hd : dp + 2 < recursionLimit) (hu : un + 16 < cLine)
    (hc : (c, listOf cv.toArray n) ∈ rest) (hi : IntsAre cv ns) (hn : ns.length ≤ 16777216) (hs : 0 ≤ spot) (hs2 : spot ≤ 100000)
    (hret : ∀ (x : List UInt8) spot' t' t2 u2 k' h' tk', x.length ≤ 51 → 0 ≤ spot' → spot' ≤ spot + 100 → Fr h₀ L h' m → News h₀ L h' ((P, penOf c spot' seed t2 u2 k') :: rest) → Q (.bytes x.toArray t') { s with heap := h', toks := tk' }) :
    wpAny (model PySem.Challenge.rw_no0355_01.row.toRowW.prog w) (ktrTop dp un gd cn cs L a ccd cl outer) (call (.ref 151) [.ref P]) Q E s :=
  use_octets ⟨C.B, C.F, C.X, fun p hp => C.N p (U.sub p hp), C.T, C.k⟩ hd hu U.off hc hi hn hs hs2 hret
theorem use_rowU {P c : Addr} {spot seed : Int} {t u : Tok} {k n : Nat} {cv : List Value} {ns : List Int} {rest : List (Addr × Obj)} (C : Cx w mean mg mb A₀ base outer h₀ L s.heap m news cs) (U : PenAt P (penOf c spot seed t u k) news rest) (hd : dp + 2 < recursionLimit) (hu : un + 16 < cLine)
    (hc : (c, listOf cv.toArray n) ∈ rest) (hi : IntsAre cv ns) (hn : ns.length ≤ 16777216) (hs : 0 ≤ spot) (hs2 : spot ≤ 100000)
    (hret : ∀ (x : List UInt8) spot' t' t2 u2 k' h' tk', x.length ≤ 51 → 0 ≤ spot' → spot' ≤ spot + 100 → Fr h₀ L h' m → News h₀ L h' ((P, penOf c spot' seed t2 u2 k') :: rest) → Q (.bytes x.toArray t') { s with heap := h', toks := tk' }) :
    wpAny (model PySem.Challenge.rw_no0355_01.row.toRowW.prog w) (ktrTop dp un gd cn cs L a ccd cl outer) (call (.ref 182) [.ref P]) Q E s :=
  use_row ⟨C.B, C.F, C.X, fun p hp => C.N p (U.sub p hp), C.T, C.k⟩ hd hu U.off hc hi hn hs hs2 hret
/-- the law's own laying is quoted_encoded's -/
theorem use_lawEnc (C : Cx w mean mg mb A₀ base outer h₀ L s.heap m news cs) (hd : dp + 2 < recursionLimit) (hu : un + 16 < cLine) {x : List UInt8} {b : Bool} {wd : Nat} {t u : Tok} (hx : x.length ≤ 100000) (hw4 : 4 ≤ wd) (hw : wd ≤ 1000)
    (hret : ∀ (t' : Tok) h' tk', Fr h₀ L h' m → News h₀ L h' news → Q (.bytes (quotedEnc x b wd).toArray t') { s with heap := h', toks := tk' }) :
    wpAny (model PySem.Challenge.rw_no0355_01.row.toRowW.prog w) (ktrTop dp un gd cn cs L a ccd cl outer) (call (.ref 170) [.bytes x.toArray t, .bool b, .int (wd : Int) u]) Q E s :=
  use_law_quoted C hd hu hx hw4 hw fun t' h' tk' F N => by
    rw [law_enc]
    exact hret t' h' tk' F N
theorem use_lawEnc76 (C : Cx w mean mg mb A₀ base outer h₀ L s.heap m news cs) (hd : dp + 2 < recursionLimit) (hu : un + 16 < cLine) {x : List UInt8} {t u : Tok} (hx : x.length ≤ 100000)
    (hret : ∀ (t' : Tok) h' tk', Fr h₀ L h' m → News h₀ L h' news → Q (.bytes (quotedEnc x true 76).toArray t') { s with heap := h', toks := tk' }) :
    wpAny (model PySem.Challenge.rw_no0355_01.row.toRowW.prog w) (ktrTop dp un gd cn cs L a ccd cl outer) (call (.ref 170) [.bytes x.toArray t, .bool true, .int 76 u]) Q E s :=
  use_lawEnc (wd := 76) C hd hu hx (by decide) (by decide) hret
/-- what quoted_encoded tells comes back -/
theorem use_decEnc (C : Cx w mean mg mb A₀ base outer h₀ L s.heap m news cs) (hd : dp + 4 < recursionLimit) (hu : un + 32 < cLine) {x : List UInt8} {b : Bool} {wd : Int} {t : Tok} (hx : x.length ≤ 400000)
    (hret : ∀ (t' : Tok) h' tk', Fr h₀ L h' m → News h₀ L h' news → Q (.bytes x.toArray t') { s with heap := h', toks := tk' }) :
    wpAny (model PySem.Challenge.rw_no0355_01.row.toRowW.prog w) (ktrTop dp un gd cn cs L a ccd cl outer) (call (.ref 139) [.bytes (quotedEnc x b wd).toArray t]) Q E s :=
  use_quoted_decoded C hd hu (by have := enc_len x b wd; omega) fun t' h' tk' F N => by
    rw [dec_enc]
    exact hret t' h' tk' F N
end
section
variable {prog : Program} {w : World} {A : Around} {E : Value → Shared → Prop} {s : Shared} {l : Addr} {Q : Value → Shared → Prop}
theorem width_item : ∀ n : Nat, n < 8 → 4 ≤ (([4, 5, 6, 7, 8, 9, 12, 76] : List Int).getD n 0).toNat ∧ (([4, 5, 6, 7, 8, 9, 12, 76] : List Int).getD n 0).toNat ≤ 76 ∧ 0 ≤ ([4, 5, 6, 7, 8, 9, 12, 76] : List Int).getD n 0 := by decide
theorem width_nat {v : Int} (h0 : 0 ≤ v) (h8 : v < 8) : ∃ wd : Nat, ([4, 5, 6, 7, 8, 9, 12, 76] : List Int).getD v.toNat 0 = (wd : Int) ∧ 4 ≤ wd ∧ wd ≤ 76 := by
  have := width_item v.toNat (by omega)
  exact ⟨_, (Int.toNat_of_nonneg this.2.2).symm, this.1, this.2.1⟩
theorem item_w {value slice : PySem.Expr} {vs : List Value} {i : Int} {ui : Tok} (hl : s.heap.IsList l vs.toArray) (hb : IntsAre vs [4, 5, 6, 7, 8, 9, 12, 76]) (h0 : 0 ≤ i) (h1 : i < 8) (h : ∀ (wd : Nat) t, 4 ≤ wd → wd ≤ 76 → Q (.int (wd : Int) t) s)
    (hs : subscripted slice false (.ref l) (.int i ui) = operate [.ref l, .int i ui] (getItem (.ref l) (.int i ui)) := by with_unfolding_all rfl) :
    wpAny (model prog w) A (subscriptTail value slice (.ref l) (.int i ui)) Q E s := by
  refine item_i hl hb h0 (by simpa using h1) (by decide) (fun t => ?_) hs
  have := width_item i.toNat (by omega)
  rw [← Int.toNat_of_nonneg this.2.2]
  exact h _ t this.1 this.2.1
theorem gives_mul0 {t u : Tok} : Gives («bytes.__mul__» ⟨[.bytes ([] : List UInt8).toArray t, .int 2 u], []⟩) (.val (.bytes ([] : List UInt8).toArray t)) := by
  refine .of_wp fun M A E s Q hq => ?_
  show wpAny M A (Bytes.repeatArgs .bytes "__mul__" ⟨[.bytes ([] : List UInt8).toArray t, .int 2 u], []⟩ >>= fun r => _) _ E s
  refine wpAny_bind (wpAny_of_eq (BMul.args_eq (by decide)) ?_)
  refine wpAny_bind (wpAny_of_eq (a := ([] : List UInt8).toArray) rfl ?_)
  show wpAny M A (if (([] : List UInt8).toArray).size * (2 : Int).toNat ≥ 2 ^ 63 then _ else _) _ E s
  rw [if_neg (by decide)]
  refine bm_if_true (by decide) ?_
  refine wpAny_bind (wpAny_typeOf (typeIs_bytes s _ t) ?_)
  exact wpAny_bind (wpAny_rule (wpAny_pure ⟨_, rfl, hq⟩))
theorem mul2_b {x : List UInt8} {t u : Tok} (hx : x.length ≤ 1000) (h : ∀ t' k, Q (.bytes (x ++ x).toArray t') { s with toks := k }) :
    wpAny (model prog w) A (binaryOp .Mult (.bytes x.toArray t) (.int 2 u)) Q E s := by
  cases x with
  | nil =>
    exact wpAny_binaryOp_repeat (T := "bytes") (U := "int") (by decide) (fun s' => typeIs_bytes s' _ t) (fun s' => typeIs_int s' 2 u) BMul.noFill F.fills_int_mul F.slot_int_rmul BMul.repeats F.slot_int_index.lookup
      (call_gives F.slot_int_rmul (typeIs_int s 2 u) F.entry_int_rmul (F.args_int_rmul_2 _ _) (BMul.int_declines 2 u _ t)
        ⟨rfl, call_gives BMul.slot_mul (typeIs_bytes s _ t) BMul.entry_mul (BMul.args_mul _ _) gives_mul0 (h t s.toks)⟩)
  | cons c r =>
    refine bytes_mul_K (List.cons_ne_nil _ _) (by decide) (by decide) (by simp at hx ⊢; omega) ?_ h
    simp [List.replicate_succ]
theorem ne_same {x : List UInt8} {t u : Tok} (h : Q (.bool false) s) : wpAny (model prog w) A (compareOp .NotEq (.bytes x.toArray t) (.bytes x.toArray u)) Q E s :=
  PySem.W.ne_bytes (by simpa using h)
theorem eq_same {x : List UInt8} {t u : Tok} (h : Q (.bool true) s) : wpAny (model prog w) A (compareOp .Eq (.bytes x.toArray t) (.bytes x.toArray u)) Q E s :=
  PySem.W.eq_bytes (by simpa using h)
theorem max_enc {h₀ : Heap} {L : Addr} {m : Str → Option Value} {news : List (Addr × Obj)} {vs : List Value} {x : List UInt8} {b : Bool} {wd : Int} (F : Fr h₀ L s.heap m) (N : News h₀ L s.heap news) (hl : s.heap.IsList l vs.toArray) (hi : IntsAre vs (lens (splitCR (quotedEnc x b wd)))) (hw : 4 ≤ wd) (hh : A.handled = none)
    (h : ∀ h' (M : Int) (t : Tok) tk, Fr h₀ L h' m → News h₀ L h' news → M ≤ wd → Q (.int M t) { s with heap := h', toks := tk }) : wpAny (model prog w) A (call (.builtin "max") [.ref l]) Q E s := by
  refine kso_max F N hl hi ?_ hh fun h' M t tk F' N' hM _ => ?_
  · unfold lens
    rw [List.length_map]
    exact List.length_pos_iff.mpr (splitCR_ne _)
  · refine h h' M t tk F' N' ?_
    unfold lens at hM
    obtain ⟨y, hy, rfl⟩ := List.mem_map.mp hM
    exact enc_width hw x b y hy
end
end
section
/- Z1 -/
open Builtin
theorem rows_22 : True := by
  k_with_none
  k_with "my getMethod bytes" => (k_here; first | refine method_b slot_bytes_find type_bytes_find ?_ | refine method_b slot_bytes_index type_bytes_index ?_ | refine method_b slot_bytes_lower type_bytes_lower ?_ | refine method_b slot_bytes_rstrip type_bytes_rstrip ?_ | refine method_b slot_bytes_split type_bytes_split ?_ | refine method_b slot_bytes_join type_bytes_join ?_)
  k_with "my call builtin:bytes.find" => (k_here; first | refine call_find3 ?_ | refine call_find2 ?_; intro _ _)
  k_with "my call builtin:bytes.lower" => (k_here; refine call_lower (Side.out ?_) ?_; rotate_left; intro _ _)
  k_with "my call builtin:bytes.rstrip" => (k_here; refine call_rstrip (Side.out ?_) ?_; rotate_left; intro _ _)
  k_with "my binaryOp Add bytes bytes" => (k_here; refine add_b (Side.out ?_) ?_; rotate_left; intro _ _)
  k_with "my subscriptTail" => (k_here; (with_reducible show wpAny _ _ (subscriptTail _ _ (Value.bytes (List.toArray _) _) (Value.int _ _)) _ _ _); (refine item_b (Side.out ?_) (Side.out ?_) (Side.out ?_) ?_; rotate_left; rotate_left; rotate_left; intro _ _))
  k_with "my subscriptTail" => (k_here; (with_reducible show wpAny _ _ (subscriptTail _ (Expr.Slice _ _ none _) (Value.bytes (List.toArray _) _) (Value.ref _)) _ _ _); (with_reducible rename Fr _ _ _ _ => F'); (with_reducible rename News _ _ _ _ => N'); (refine slice_b (s := ⟨_, _, _, _, _⟩) F' N' (by constructor) (by constructor) (Side.out ?_) ?_; rotate_left; intro _ _ _ _ _))
  k_with "my call builtin:len" => (k_here; (with_reducible show wpAny _ _ (call (Value.builtin "len") [Value.bytes (List.toArray _) _]) _ _ _); (refine len_b (Side.out ?_) ?_; rotate_left; intro _ _))
  k_with "my binaryOp FloorDiv int int" => (k_here; refine fdiv_i (by first | decide | omega) (by exact PyProof.noPylong_small (by omega)) ?_; intro _ _)
  k_with "my binaryOp Mod int int" => (k_here; refine fmod_i (by first | decide | omega) ?_; intro _ _)
  k_with "my call type:bytes" => (k_here; (with_reducible show wpAny _ _ (call (Value.type _) [Value.ref _]) _ _ _); k_dflt (refine' bytes_d (by k_asm) (by k_asm) ?q667i (Side.out ?_) (Side.out ?_) ?q667h ?_; (case q667i => first | l_ints | assumption); (case q667h => with_unfolding_all rfl)); rotate_left; rotate_left; intro _ _ _ _ _; (try k_sweep))
  k_with "my dropN" => first | k_asm | (refine' cb_drop ?q668cbN ?q668cbS; (case q668cbN => assumption); (case q668cbS => kcj_all))
  k_with "my sides" => (all_goals try (show Side _; unfold Side; first | assumption | omega | (simp only [List.length_cons, List.length_nil]; omega) | (simp only [List.length_append, List.length_map, List.length_cons, List.length_nil]; omega) | decide))
  k_with "my cx" => exact ⟨by k_asm, by k_asm, by k_asm, by k_asm, by k_asm, by first | exact rfl | assumption⟩
  k_with "my neA" => first | assumption | (show (_ : Nat) ≠ _; (try dsimp only); omega) | (refine Ne.symm ?_; assumption)
  k_with "my offA" => first | assumption | exact List.forall_mem_nil _ | (refine List.forall_mem_cons.mpr ⟨?_, ?_⟩; (focus walk_at "neA"); (focus walk_at "offA")) | exact offTail (by assumption) (by omega)
  k_with "my penA" => first | (refine' PenAt.head ?q673a; (case q673a => walk_at "offA")) | (refine' PenAt.tail ?q673a ?q673b; (case q673a => walk_at "neA"); (case q673b => walk_at "penA"))
  k_with "my call ref" => (k_here; k_dflt (refine' use_drawU (by walk_at "cx") ?q674kU (by ktr_room) (by ktr_units) ?q674kc (by assumption) (Side.out ?_) (by decide) (by decide) (Side.out ?_) (Side.out ?_) ?_; (case q674kU => walk_at "penA"); (case q674kc => walk_at "memL")); rotate_left; rotate_left; rotate_left; intro _ _ _ _ _ _ _ _ _ _ _)
  k_with "my call ref" => (k_here; k_dflt (refine' use_octetsU (by walk_at "cx") ?q675kU (by ktr_room) (by ktr_units) ?q675kc (by assumption) (Side.out ?_) (Side.out ?_) (Side.out ?_) ?_; (case q675kU => walk_at "penA"); (case q675kc => walk_at "memL")); rotate_left; rotate_left; rotate_left; intro _ _ _ _ _ _ _ _ _ _ _ _ _)
  k_with "my call ref" => (k_here; k_dflt (refine' use_rowU (by walk_at "cx") ?q676kU (by ktr_room) (by ktr_units) ?q676kc (by assumption) (Side.out ?_) (Side.out ?_) (Side.out ?_) ?_; (case q676kU => walk_at "penA"); (case q676kc => walk_at "memL")); rotate_left; rotate_left; rotate_left; intro _ _ _ _ _ _ _ _ _ _ _ _ _)
  k_with "my call ref" => (k_here; k_dflt (refine' use_enc3 (by walk_at "cx") (by ktr_room) (by ktr_units) (Side.out ?_) ?q677kw ?_; (case q677kw => first | decide | omega)); rotate_left; intro _ _ _ _ _)
  k_with "my call ref" => (k_here; k_dflt (refine' use_enc1 (by walk_at "cx") (by ktr_room) (by ktr_units) (Side.out ?_) ?_); rotate_left; intro _ _ _ _ _)
  k_with "my call ref" => (k_here; k_dflt (refine' use_lawEnc (by walk_at "cx") (by ktr_room) (by ktr_units) (Side.out ?_) (by assumption) ?q679kw ?_; (case q679kw => first | decide | omega)); rotate_left; intro _ _ _ _ _)
  k_with "my call ref" => (k_here; k_dflt (refine' use_lawEnc76 (by walk_at "cx") (by ktr_room) (by ktr_units) (Side.out ?_) ?_); rotate_left; intro _ _ _ _ _)
  k_with "my call ref" => (k_here; k_dflt (refine' use_quoted_decoded (by walk_at "cx") (by ktr_room) (by ktr_units) (Side.out ?_) ?_); rotate_left; intro _ _ _ _ _)
  k_with "my call ref" => (k_here; k_dflt (refine' use_decEnc (by walk_at "cx") (by ktr_room) (by ktr_units) (Side.out ?_) ?_); rotate_left; intro _ _ _ _ _)
  k_with "my call ref" => (k_here; k_dflt (refine' use_law_read (by walk_at "cx") (by ktr_room) (by ktr_units) (Side.out ?_) ?_); rotate_left; intro _ _ _ _ _)
  k_with "my call ref" => (k_here; k_dflt (refine' use_refused3 (by walk_at "cx") (by ktr_room) (by ktr_units) ?_); intro _ _ _ _)
  k_with "my call ref" => (k_here; k_dflt (refine' use_refused4 (by walk_at "cx") (by ktr_room) (by ktr_units) ?_); intro _ _ _ _)
  k_with "my compareOp NotEq bytes bytes" => (k_here; refine ne_same ?_)
  k_with "my compareOp Eq bytes bytes" => (k_here; refine eq_same ?_)
  k_with "my call builtin:bytes.split" => (k_here; k_dflt (refine' call_split_CR (by k_asm) (by k_asm) (Side.out ?_) ?_); rotate_left; intro _ _ _ _ _ _ _ _)
  k_with "my isL" => exact newsList (by k_asm) (by walk_at "memL")
  k_with "my memL" => first | assumption | exact List.Mem.head _ | (refine List.Mem.tail _ ?_; walk_at "memL")
  k_with "my intLit" => first | assumption | exact IntsAre.nil | (apply IntsAre.cons; walk_at "intLit")
  k_with "my subscriptTail" => (k_here; (with_reducible show wpAny _ _ (subscriptTail _ _ (Value.ref _) (Value.int _ _)) _ _ _); (refine item_w (by walk_at "isL") (by walk_at "intLit") (Side.out ?_) (Side.out ?_) ?_; rotate_left; rotate_left; intro _ _ _ _))
  k_with "my CompSrc" => (k_here; (with_reducible rename BsAre _ _ => hBs'); refine Stop.mk ?_)
  k_with "my QuietEnd" => (refine Stop.mk ?_)
  k_with "my call builtin:max" => (k_here; (with_reducible show wpAny _ _ (call (Value.builtin _) [Value.ref _]) _ _ _); k_dflt (refine' max_enc (by k_asm) (by k_asm) ?q695k3 (by assumption) (by omega) ?q695k6 ?_; (case q695k3 => exact newsList (by k_asm) (by walk_at "memL")); (case q695k6 => with_unfolding_all rfl)); intro _ _ _ _ _ _ _)
  k_with "my binaryOp Mult bytes int" => (k_here; refine mul2_b (Side.out ?_) ?_; rotate_left; intro _ _)
  trivial
local macro_rules | `(tactic| k_qdec) => `(tactic| decide +kernel)
theorem rows_23 : True := by
  k_with "my whSame" => (intro _ h2 h3; (try simp only [List.forall_mem_cons, List.not_mem_nil, false_implies, implies_true, and_true, ne_eq] at h2); (try simp only [List.contains_cons, List.contains_nil, Bool.or_false, Bool.or_eq_false_iff, beq_eq_false_iff_ne, ne_eq] at h3); first | (simp [kstB, h2, h3]; done) | (simp [kstB, h3]; done) | (simp [kstB, h2]; done) | (simp [kstB]; done))
  k_with "my psAre" => first | exact List.forall_mem_nil _ | (refine' List.forall_mem_cons.mpr ⟨?q698psA, ?q698psB⟩; (case q698psA => exact rfl); (case q698psB => walk_at "psAre"))
  trivial
noncomputable abbrev lawNames : List Str := ["cells", "pen", "width", "is_text", "octets", "some", "told_lines", "row"]
theorem filledZ1 : hd.heap_1 = hd.heap_1 ∧ PySem.Challenge.rw_no0355_01 = PySem.Challenge.rw_no0355_01 := by
  k_fill
  exact ⟨rfl, rfl⟩
theorem lawZ : PySem.Challenge.rw_no0355_01.Holds := by
  refine hd ?_
  k_go0
  all_goals try k_fold
  rename Fr _ _ _ _ => F0
  refine execs_midG 2 lawNames F0 (fun ps nw => ∃ P c seed t u k cv n ns, ps = [(Str.ofString "pen", Value.ref P)] ∧ nw = [(P, penOf c 0 seed t u k), (c, listOf (List.toArray cv) n)] ∧ @LT.lt Nat _ c P ∧ IntsAre cv ns ∧ ns.length ≤ 60) ?_ ?_
  · simp only [List.take_succ_cons, List.take_zero]
    intro QH hQH
    k_steps
    refine hQH _ _ ?_
    rename Fr _ _ _ _ => F9
    rename News _ _ _ _ => N9
    refine' mid_done F9 ?N ?hk ?hr ⟨_, _, _, _, _, _, _, _, _, rfl, rfl, ?lt, by assumption, ?len⟩
    case hk => walk_at "psAre"
    case N => exact news_pen N9
    case hr => walk_at "whSame"
    case lt => omega
    case len => rw [List.length_map, List.length_take]; omega
  simp only [List.drop_succ_cons, List.drop_zero]
  rintro ps nw u₁ h₁ tk₁ ⟨P, c, seed, t, u, k, cv, n, ns, rfl, rfl, hcP, hcv, hns⟩ F1 N1
  refine execs_midF 1 F1 (fun ps nw => ∃ spot t u k, ∃ (wd : Nat), ∃ tw, ps = [(Str.ofString "pen", Value.ref P), (Str.ofString "width", Value.int (wd : Int) tw)] ∧ nw = [(P, penOf c spot seed t u k), (c, listOf (List.toArray cv) n)] ∧ 0 ≤ spot ∧ spot ≤ 10 ∧ 4 ≤ wd ∧ wd ≤ 76) ?_ ?_
  · simp only [List.take_succ_cons, List.take_zero]
    intro QH hQH
    k_steps
    walk_at "sides"
    refine hQH _ _ ?_
    rename (_ : Int) < 8 => hv8
    obtain ⟨wd, hwd, hw4, hw76⟩ := width_nat (by assumption) hv8
    rename Fr _ _ _ _ => F9
    rw [hwd] at F9
    refine' mid_done F9 ?N ?hk ?hr ⟨_, _, _, _, wd, _, rfl, rfl, ?s0, ?s1, hw4, hw76⟩
    case hk => walk_at "psAre"
    case N => walk_at "dropN"
    case hr => walk_at "whSame"
    case s0 => omega
    case s1 => omega
  simp only [List.drop_succ_cons, List.drop_zero]
  clear F1 N1
  rintro ps nw u₂ h₂ tk₂ ⟨spot, t, u, k, wd, tw, rfl, rfl, hs0, hs1, hw4, hw76⟩ F2 N2
  refine execs_midF 1 F2 (fun ps nw => ∃ spot t u k, ∃ (b : Bool), ∃ x tx, ps = [(Str.ofString "pen", Value.ref P), (Str.ofString "width", Value.int (wd : Int) tw), (Str.ofString "is_text", Value.bool b), (Str.ofString "octets", Value.bytes (List.toArray x) tx)] ∧ nw = [(P, penOf c spot seed t u k), (c, listOf (List.toArray cv) n)] ∧ 0 ≤ spot ∧ spot ≤ 200 ∧ x.length ≤ 51) ?_ ?_
  · simp only [List.take_succ_cons, List.take_zero]
    intro QH hQH
    k_steps
    walk_at "sides"
    refine hQH _ _ ?_
    rename Fr _ _ _ _ => F9
    refine' mid_done F9 ?N ?hk ?hr ⟨_, _, _, _, _, _, _, rfl, rfl, ?s0, ?s1, ?sx⟩
    case hk => walk_at "psAre"
    case N => walk_at "dropN"
    case hr => walk_at "whSame"
    case s0 => assumption
    case s1 => omega
    case sx => assumption
  simp only [List.drop_succ_cons, List.drop_zero]
  clear F2 N2 hs0 hs1
  rintro ps nw u₃ h₃ tk₃ ⟨spot, t, u, k, b, x, tx, rfl, rfl, hs0, hs1, hx⟩ F3 N3
  refine execs_midF 1 F3 (fun ps nw => ps = [(Str.ofString "pen", Value.ref P), (Str.ofString "octets", Value.bytes x.toArray tx)] ∧ nw = [(P, penOf c spot seed t u k), (c, listOf (List.toArray cv) n)]) ?_ ?_
  · simp only [List.take_succ_cons, List.take_zero]
    intro QH hQH
    have hxx : (x ++ x).length ≤ 102 := by rw [List.length_append]; omega
    have hel := enc_len x b wd
    have hsl := splitCR_len (quotedEnc x b wd)
    have hel2 := enc_len (x ++ x) b wd
    have hsl2 := splitCR_len (quotedEnc (x ++ x) b wd)
    k_steps
    walk_at "sides"
    unfold Stop
    rename News _ _ _ _ => NN
    rename BsAre _ _ => hBs
    have hbl := hBs.length
    refine comp_list NN (fun i zs => IntsAre zs (lens ((splitCR (quotedEnc x b wd)).take i))) (.head _) rfl (by k_asm) (by omega) .nil ?_ ?_
    · rintro i zs v I oI C oC D m₂ h2 tk2 E' hv hz hC hx2 F2 N2 hoff hne
      obtain ⟨y, ty, rfl, hy⟩ := hBs.at i v hv
      have hyl := mem_flat_le (List.mem_of_getElem? hy)
      k_steps
      walk_at "sides"
      refine quiet_end (by k_asm) (by k_asm) ?_
      exact lens_snoc hy hz
    intro g zs hz
    rw [hbl, List.take_length] at hz
    clear NN hBs
    k_steps
    walk_at "sides"
    unfold Stop
    rename News _ _ _ _ => NN
    rename BsAre _ _ => hBs
    have hbl := hBs.length
    refine comp_list NN (fun i zs => IntsAre zs (lens ((splitCR (quotedEnc (x ++ x) b wd)).take i))) (.head _) rfl (by k_asm) (by omega) .nil ?_ ?_
    · rintro i zs v I oI C oC D m₂ h2 tk2 E' hv hz hC hx2 F2 N2 hoff hne
      obtain ⟨y, ty, rfl, hy⟩ := hBs.at i v hv
      have hyl := mem_flat_le (List.mem_of_getElem? hy)
      k_steps
      walk_at "sides"
      refine quiet_end (by k_asm) (by k_asm) ?_
      exact lens_snoc hy hz
    intro g zs hz
    rw [hbl, List.take_length] at hz
    clear NN hBs
    k_steps
    walk_at "sides"
    refine hQH _ _ ?_
    rename Fr _ _ _ _ => F9
    refine' mid_done F9 ?N ?hk ?hr ⟨rfl, rfl⟩
    case hk => walk_at "psAre"
    case N => walk_at "dropN"
    case hr => walk_at "whSame"
  simp only [List.drop_succ_cons, List.drop_zero]
  clear F3 N3
  rintro ps nw u₄ h₄ tk₄ ⟨rfl, rfl⟩ F4 N4
  k_steps
  walk_at "sides"
end
end Mine
theorem PySem.Challenge.cw_no0355_01_holds : PySem.Challenge.rw_no0355_01.Holds := by
  exact Mine.lawZ
