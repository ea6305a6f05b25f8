import PyProof.Rows.All
import Wide.All
import OpenK.AllK
import Wide.FinOn
import Lean
import PySem.Challenge.RW_or0030_01
open PySem PySem.W PySem.Calls PyProof.Rows
set_option Elab.async false
set_option maxRecDepth 100000
set_option linter.unusedVariables false
namespace Mine
section
/-! BB -/
open Builtin

theorem slot_find : Slot "bytes" "find" "bytes.find" :=
  .of (owner := "bytes") (n := "find") (by rw [typeLookup_type, builtinLookup_eq_fast]; kernel_rfl) (by decide +kernel) (by decide +kernel) (by decide +kernel)
    (by first | exact .inl (by decide +kernel) | exact .inr (by decide +kernel)) (by rw [isSubtype_type]; kernel_rfl)
theorem type_find : typeOf (.builtin "bytes.find") = pure (.type "method_descriptor") := by show builtinType _ = _; rw [builtinType_eq_fast]; kernel_rfl
theorem entry_find : entryFor table "bytes.find" = some Builtin.«bytes.find» := entryFor_of_tree (by kernel_rfl)
theorem args_find (a b c d : Value) : argsOk "bytes.find" ⟨[a, b, c, d], []⟩ := by unfold argsOk; kernel_rfl

theorem slot_strip : Slot "bytes" "strip" "bytes.strip" :=
  .of (owner := "bytes") (n := "strip") (by rw [typeLookup_type, builtinLookup_eq_fast]; kernel_rfl) (by decide +kernel) (by decide +kernel) (by decide +kernel)
    (by first | exact .inl (by decide +kernel) | exact .inr (by decide +kernel)) (by rw [isSubtype_type]; kernel_rfl)
theorem type_strip : typeOf (.builtin "bytes.strip") = pure (.type "method_descriptor") := by show builtinType _ = _; rw [builtinType_eq_fast]; kernel_rfl
theorem entry_strip : entryFor table "bytes.strip" = some Builtin.«bytes.strip» := entryFor_of_tree (by kernel_rfl)
theorem args_strip (a b : Value) : argsOk "bytes.strip" ⟨[a, b], []⟩ := by unfold argsOk; kernel_rfl

theorem slot_split : Slot "bytes" "split" "bytes.split" :=
  .of (owner := "bytes") (n := "split") (by rw [typeLookup_type, builtinLookup_eq_fast]; kernel_rfl) (by decide +kernel) (by decide +kernel) (by decide +kernel)
    (by first | exact .inl (by decide +kernel) | exact .inr (by decide +kernel)) (by rw [isSubtype_type]; kernel_rfl)
theorem type_split : typeOf (.builtin "bytes.split") = pure (.type "method_descriptor") := by show builtinType _ = _; rw [builtinType_eq_fast]; kernel_rfl
theorem entry_split : entryFor table "bytes.split" = some Builtin.«bytes.split» := entryFor_of_tree (by kernel_rfl)
theorem args_split (a b : Value) : argsOk "bytes.split" ⟨[a, b], []⟩ := by unfold argsOk; kernel_rfl

theorem slot_join : Slot "bytes" "join" "bytes.join" :=
  .of (owner := "bytes") (n := "join") (by rw [typeLookup_type, builtinLookup_eq_fast]; kernel_rfl) (by decide +kernel) (by decide +kernel) (by decide +kernel)
    (by first | exact .inl (by decide +kernel) | exact .inr (by decide +kernel)) (by rw [isSubtype_type]; kernel_rfl)
theorem type_join : typeOf (.builtin "bytes.join") = pure (.type "method_descriptor") := by show builtinType _ = _; rw [builtinType_eq_fast]; kernel_rfl
theorem entry_join : entryFor table "bytes.join" = some Builtin.«bytes.join» := entryFor_of_tree (by kernel_rfl)
theorem args_join (a b : Value) : argsOk "bytes.join" ⟨[a, b], []⟩ := by unfold argsOk; kernel_rfl

section
variable {b c : Array UInt8} {t u : Tok} {prog : Program} {w : World} {A : Around} {E : Value → Shared → Prop} {s : Shared}
theorem meth_find {M : Model} {pl : Sem Bool} {Q : Value × List Value → Shared → Prop} (h : Q (.builtin "bytes.find", [.bytes b t]) s) : wpAny M A (getMethod (.bytes b t) "find" pl) Q E s := by
  with_reducible exact KBd.method_of (.bytes b t) (typeIs_bytes _ _ _) slot_find type_find KBd.noRef h
theorem meth_strip {M : Model} {pl : Sem Bool} {Q : Value × List Value → Shared → Prop} (h : Q (.builtin "bytes.strip", [.bytes b t]) s) : wpAny M A (getMethod (.bytes b t) "strip" pl) Q E s := by
  with_reducible exact KBd.method_of (.bytes b t) (typeIs_bytes _ _ _) slot_strip type_strip KBd.noRef h
theorem meth_split {M : Model} {pl : Sem Bool} {Q : Value × List Value → Shared → Prop} (h : Q (.builtin "bytes.split", [.bytes b t]) s) : wpAny M A (getMethod (.bytes b t) "split" pl) Q E s := by
  with_reducible exact KBd.method_of (.bytes b t) (typeIs_bytes _ _ _) slot_split type_split KBd.noRef h
theorem meth_join {M : Model} {pl : Sem Bool} {Q : Value × List Value → Shared → Prop} (h : Q (.builtin "bytes.join", [.bytes b t]) s) : wpAny M A (getMethod (.bytes b t) "join" pl) Q E s := by
  with_reducible exact KBd.method_of (.bytes b t) (typeIs_bytes _ _ _) slot_join type_join KBd.noRef h
end

/-- where a byte stands first within a window, from the text's begin -/
def spotIn (b : Array UInt8) (c : UInt8) (lo hi : Nat) : Option Nat := Bytes.find? b #[c] lo hi

theorem specialOf_int_index (i : Int) (t : Tok) : specialOf (.int i t) "__index__" = pure (some (.builtin "int.__index__")) := by
  have e : specialOf (.int i t) "__index__" = typeLookup (.type "int") "__index__" := rfl
  rw [e]; exact F.slot_int_index.lookup

theorem bound_int (i : Int) (t : Tok) : Bytes.bound? (some (.int i t)) = pure (some i) := by
  unfold Bytes.bound?
  show (specialOf (.int i t) "__index__" >>= fun r => _) = _
  rw [specialOf_int_index]
  kernel_rfl

theorem payload_bytes (b : Array UInt8) (t : Tok) : Bytes.payload (.bytes b t) = pure b := rfl

theorem meets_find (b : Array UInt8) (c : UInt8) (lo hi : Nat) (t u t1 t2 : Tok) (h1 : lo ≤ hi) (h2 : hi ≤ b.size) :
    Meets («bytes.find» ⟨[.bytes b t, .bytes #[c] u, .int (lo : Int) t1, .int (hi : Int) t2], []⟩)
      (fun _ R s => ∀ t' k, R (.ok (.ret (.int (match spotIn b c lo hi with | some i => (i : Int) | none => -1) t'))) { s with toks := k }) := by
  refine .of_wp fun prog w A R s hS => ?_
  show wpAny _ _ (Bytes.searchM .bytes "find" false false _) _ _ s
  unfold Bytes.searchM
  refine wpAny_bind ?_
  unfold Bytes.searchArgs
  refine wpAny_bind (wpAny_of_eq (a := (Value.bytes b t, [Value.bytes #[c] u, Value.int (lo : Int) t1, Value.int (hi : Int) t2])) (by kernel_rfl) ?_)
  refine wpAny_bind (wpAny_of_eq (bound_int _ _) ?_)
  refine wpAny_bind (wpAny_of_eq (bound_int _ _) ?_)
  show wpAny _ _ (Bytes.buffer? _ (.bytes #[c] u) >>= fun r => _) _ _ s
  refine wpAny_bind (wpAny_of_eq KBy.buffer_eq ?_)
  show wpAny _ _ (pure #[c] >>= fun r => _) _ _ s
  refine wpAny_bind (wpAny_pure ?_)
  refine wpAny_bind (wpAny_of_eq (payload_bytes _ _) ?_)
  have hw : Bytes.window b.size (some (lo : Int)) (some (hi : Int)) = ((lo : Int), (hi : Int)) := by
    unfold Bytes.window
    simp only [Option.getD_some]
    have : ¬ ((lo : Int) < 0) := by omega
    have : ¬ ((hi : Int) < 0) := by omega
    simp only [*, if_false, Prod.mk.injEq, true_and]
    omega
  refine wpAny_of_eq (a := (b, (#[c] : Array UInt8), if (hi : Int) - (lo : Int) < ((#[c] : Array UInt8).size : Int) then none else some ((lo : Int).toNat, (hi : Int).toNat))) ?_ ?_
  · show (match Bytes.window b.size (some (lo : Int)) (some (hi : Int)) with | (lo, hi) => (pure (b, (#[c] : Array UInt8), if hi - lo < ((#[c] : Array UInt8).size : Int) then none else some (lo.toNat, hi.toNat)) : Sem _)) = _
    rw [hw]
  have fin : ∀ r : Option Nat, r = spotIn b c lo hi → wpAny (model prog w) A.in1 (match r with | some i => retInt (i : Int) | none => rule "bytes.find.not-found" >>= fun _ => retInt (-1)) (fun fin s' => ∃ v, fin = Fin.done (Flow.ret v) ∧ R (Except.ok (Flow.ret v)) s') (fun e s' => R (Except.error e) s') s := by
    rintro r rfl
    cases e : spotIn b c lo hi with
    | some i =>
      rw [e] at hS
      exact wpAny_bind (wpAny_mkInt (wpAny_pure ⟨_, rfl, hS _ _⟩))
    | none =>
      rw [e] at hS
      exact wpAny_bind (wpAny_rule (wpAny_bind (wpAny_mkInt (wpAny_pure ⟨_, rfl, hS _ _⟩))))
  by_cases hlt : hi < lo + 1
  · have e1 : ((hi : Int) - (lo : Int) < ((#[c] : Array UInt8).size : Int)) := by simp; omega
    have e2 : spotIn b c lo hi = none := by
      unfold spotIn Bytes.find?
      have : hi + 1 - (lo + (#[c] : Array UInt8).size) = 0 := by simp; omega
      rw [this]; rfl
    rw [if_pos e1]
    exact fin none e2.symm
  · have e1 : ¬ ((hi : Int) - (lo : Int) < ((#[c] : Array UInt8).size : Int)) := by simp; omega
    rw [if_neg e1]
    refine fin _ ?_
    show Bytes.find? b #[c] (lo : Int).toNat (hi : Int).toNat = _
    rw [Int.toNat_natCast, Int.toNat_natCast]; rfl

section
variable {b : Array UInt8} {c : UInt8} {t u : Tok} {prog : Program} {w : World} {A : Around} {E : Value → Shared → Prop} {s : Shared}
theorem call_find {lo hi : Nat} {t1 t2 : Tok} {Q : Value → Shared → Prop} (h1 : lo ≤ hi) (h2 : hi ≤ b.size)
    (h : ∀ r t' k, r = (match spotIn b c lo hi with | some i => (i : Int) | none => -1) → Q (.int r t') { s with toks := k }) :
    wpAny (model prog w) A (call (.builtin "bytes.find") [.bytes b t, .bytes #[c] u, .int (lo : Int) t1, .int (hi : Int) t2]) Q E s :=
  call_meets slot_find (typeIs_bytes _ _ _) entry_find (args_find _ _ _ _) (meets_find b c lo hi t u t1 t2 h1 h2) fun t' k => h _ t' k rfl
end

theorem like_eq {id : String} (b : Array UInt8) (t : Tok) : Bytes.bytesLike id (.bytes b t) = pure b := KBd.like_eq

/-- what a strip of blanks and tabs leaves -/
def stripL (l : List UInt8) : List UInt8 := ((l.dropWhile (#[32, 9] : Array UInt8).contains).reverse.dropWhile (#[32, 9] : Array UInt8).contains).reverse
theorem stripL_length (l : List UInt8) : (stripL l).length ≤ l.length := by
  unfold stripL
  rw [List.length_reverse]
  refine Nat.le_trans (List.dropWhile_sublist _).length_le ?_
  rw [List.length_reverse]
  exact (List.dropWhile_sublist _).length_le

theorem dropWhile_self {α : Type} {p : α → Bool} : ∀ {l : List α}, (l.dropWhile p).length = l.length → l.dropWhile p = l
  | [], _ => rfl
  | x :: r, h => by
    rw [List.dropWhile_cons] at h ⊢
    split at h
    · have := (List.dropWhile_sublist p (l := r)).length_le
      rw [h] at this
      exact absurd this (by simp)
    · rename_i hx; rw [if_neg hx]

theorem stripL_self {l : List UInt8} (h : (stripL l).length = l.length) : stripL l = l := by
  have h1 : (l.dropWhile (#[32, 9] : Array UInt8).contains).length = l.length := by
    refine Nat.le_antisymm (List.dropWhile_sublist _).length_le ?_
    rw [← h]
    unfold stripL
    rw [List.length_reverse]
    refine Nat.le_trans (List.dropWhile_sublist _).length_le ?_
    rw [List.length_reverse]; exact Nat.le_refl _
  have e1 := dropWhile_self h1
  unfold stripL at h ⊢
  rw [e1] at h ⊢
  have e2 : (l.reverse.dropWhile (#[32, 9] : Array UInt8).contains) = l.reverse := dropWhile_self (by rw [List.length_reverse] at h; rw [h, List.length_reverse])
  rw [e2, List.reverse_reverse]

theorem meets_strip (b : Array UInt8) (t u : Tok) :
    Meets («bytes.strip» ⟨[.bytes b t, .bytes #[32, 9] u], []⟩)
      (fun _ R s => b.size ≤ sizeLine ∧ ∀ t' k, R (.ok (.ret (.bytes (stripL b.toList).toArray t'))) { s with toks := k }) := by
  refine .of_wp fun prog w A R s hS => ?_
  obtain ⟨hz, hS⟩ := hS
  show wpAny _ _ (Bytes.stripM .bytes "strip" true true _) _ _ s
  unfold Bytes.stripM
  refine wpAny_bind (wpAny_of_eq (a := (Value.bytes b t, [Value.bytes #[32, 9] u])) (by kernel_rfl) ?_)
  show wpAny _ _ (Bytes.bytesLike _ (.bytes #[32, 9] u) >>= fun set => pure (Array.contains set) >>= fun drop => _) _ _ s
  refine wpAny_bind (wpAny_of_eq (like_eq _ _) (wpAny_bind (wpAny_pure ?_)))
  refine wpAny_bind (wpAny_of_eq (payload_bytes _ _) ?_)
  show wpAny _ _ (if ((stripL b.toList).length == b.size) = true then _ else _) _ _ s
  by_cases hq : (stripL b.toList).length = b.size
  · rw [if_pos (by simpa using hq)]
    refine wpAny_bind (wpAny_rule ?_)
    refine wpAny_bind ?_
    show wpAny _ _ (typeOf (.bytes b t) >>= fun r => _) _ _ s
    refine wpAny_bind (wpAny_typeOf (typeIs_bytes s b t) ?_)
    refine wpAny_pure (wpAny_pure ⟨_, rfl, ?_⟩)
    have e : (stripL b.toList).toArray = b := by rw [stripL_self (by rw [hq]; simp)]
    have := hS t s.toks
    rw [e] at this
    exact this
  · rw [if_neg (by simpa using hq)]
    refine wpAny_bind ?_
    show wpAny _ _ (mkBytes (stripL b.toList).toArray) _ _ s
    refine wpAny_mkBytes (wpAny_pure ⟨_, rfl, hS _ _⟩) ?_
    rw [List.size_toArray]
    refine Nat.le_trans (stripL_length _) ?_
    simpa using hz

section
variable {b : Array UInt8} {t u : Tok} {prog : Program} {w : World} {A : Around} {E : Value → Shared → Prop} {s : Shared}
theorem call_strip {Q : Value → Shared → Prop} (hz : b.size ≤ 16777216)
    (h : ∀ t' k, Q (.bytes (stripL b.toList).toArray t') { s with toks := k }) :
    wpAny (model prog w) A (call (.builtin "bytes.strip") [.bytes b t, .bytes #[32, 9] u]) Q E s :=
  call_meets slot_strip (typeIs_bytes _ _ _) entry_strip (args_strip _ _) (meets_strip b t u) ⟨by rw [sizeLine_eq]; exact hz, h⟩
end
end
section
/-! BJ -/
open Builtin

/-- values that are these bytes -/
inductive BytesAre : List Value → List (List UInt8) → Prop where
  | nil : BytesAre [] []
  | cons {x : List UInt8} {t : Tok} {vs : List Value} {xs : List (List UInt8)} : BytesAre vs xs → BytesAre (.bytes x.toArray t :: vs) (x :: xs)

theorem BytesAre.get {vs : List Value} {ps : List (List UInt8)} (h : BytesAre vs ps) : ∀ (i : Nat) (p : List UInt8), ps[i]? = some p → ∃ t, vs[i]? = some (Value.bytes p.toArray t) := by
  induction h with
  | nil => intro i p e; simp at e
  | cons _ ih => rename_i t _ _ _; intro i p e; cases i with
    | zero => simp at e; subst e; exact ⟨t, rfl⟩
    | succ i => simpa using ih i p (by simpa using e)
theorem BytesAre.length {vs : List Value} {ps : List (List UInt8)} (h : BytesAre vs ps) : vs.length = ps.length := by
  induction h with
  | nil => rfl
  | cons _ ih => simp [ih]
theorem BytesAre.snoc {vs : List Value} {ps : List (List UInt8)} {x : List UInt8} {t : Tok} (h : BytesAre vs ps) : BytesAre (vs ++ [.bytes x.toArray t]) (ps ++ [x]) := by
  induction h with
  | nil => exact .cons .nil
  | cons _ ih => exact .cons ih

/-- texts with a separator between -/
def glue (sep : List UInt8) : List (List UInt8) → List UInt8
  | [] => []
  | x :: r => x ++ (r.map fun y => sep ++ y).flatten
theorem glue_nil (ps : List (List UInt8)) : glue [] ps = ps.flatten := by
  cases ps with
  | nil => rfl
  | cons x r => simp [glue]
theorem flat_len (sep : List UInt8) : ∀ r : List (List UInt8), ((r.map fun y => sep ++ y).flatten).length = (r.map List.length).sum + sep.length * r.length
  | [] => by simp
  | y :: r => by
    simp only [List.map_cons, List.flatten_cons, List.length_append, flat_len sep r, List.sum_cons, List.length_cons, Nat.mul_add, Nat.mul_one]; omega
theorem glue_len (sep : List UInt8) (ps : List (List UInt8)) : (glue sep ps).length ≤ (ps.map List.length).sum + sep.length * ps.length := by
  cases ps with
  | nil => simp [glue]
  | cons x r => simp only [glue, List.length_append, flat_len, List.map_cons, List.sum_cons, List.length_cons, Nat.mul_add]; omega
theorem joined_from (sep : List UInt8) : ∀ (r : List (List UInt8)) (k : Nat) (out : List UInt8), 0 < k →
    ((r.map List.toArray).zipIdx k).foldl (fun out x => (if x.2 > 0 then out ++ sep.toArray else out) ++ x.1) out.toArray = (out ++ (r.map fun y => sep ++ y).flatten).toArray
  | [], _, _, _ => by simp
  | y :: r, k, out, hk => by
    simp only [List.map_cons, List.zipIdx_cons, List.foldl_cons]
    rw [if_pos hk]
    have := joined_from sep r (k + 1) (out ++ sep ++ y) (Nat.succ_pos _)
    simp only [List.append_toArray] at this ⊢
    rw [this]
    simp
theorem joined_eq (sep : List UInt8) (ps : List (List UInt8)) : Bytes.joined sep.toArray (ps.map List.toArray) = (glue sep ps).toArray := by
  cases ps with
  | nil => rfl
  | cons x r =>
    have := joined_from sep r 1 x Nat.zero_lt_one
    unfold Bytes.joined
    simp only [List.map_cons, List.zipIdx_cons, List.foldl_cons]
    rw [if_neg (Nat.lt_irrefl 0)]
    simp only [Array.empty_append, glue]
    exact this
theorem sum_fold : ∀ (ps : List (List UInt8)) (k : Nat), (ps.map List.toArray).foldl (fun a b => a + b.size) k = k + (ps.map List.length).sum
  | [], _ => by simp
  | x :: r, k => by
    simp only [List.map_cons, List.foldl_cons, List.sum_cons, List.size_toArray]
    rw [sum_fold r]; omega

theorem join_loop {M : Model} {A : Around} {E : Value → Shared → Prop} {s : Shared} {vs : List Value} {ps : List (List UInt8)} (hv : BytesAre vs ps) (f : Nat → Array (Array UInt8) × List (Value × Option Value) → Sem (ForInStep (Array (Array UInt8) × List (Value × Option Value))))
    (hf : ∀ (i : Nat) (st : Array (Array UInt8) × List (Value × Option Value)) (x : List UInt8) (t : Tok), vs[i]? = some (.bytes x.toArray t) → (∀ p ∈ st.2, p.1.onHeap = false ∧ p.2 = none) →
      wpAny M A (f i st) (fun r s' => s' = s ∧ r = .yield (st.1.push x.toArray, st.2 ++ [(.bytes x.toArray t, none)])) E s) :
    wpAny M A (forIn [:vs.length] ((#[] : Array (Array UInt8)), ([] : List (Value × Option Value))) f) (fun st s' => s' = s ∧ st.1 = (ps.map List.toArray).toArray ∧ ∀ p ∈ st.2, p.1.onHeap = false ∧ p.2 = none) E s := by
  rw [KPc.range_list]
  refine wpAny_forIn_list _ (fun rest st s' => ∃ i, s' = s ∧ i ≤ vs.length ∧ rest = List.range' i (vs.length - i) 1 ∧ st.1 = ((ps.take i).map List.toArray).toArray ∧ ∀ p ∈ st.2, p.1.onHeap = false ∧ p.2 = none) _ ?_ ?_ _ _
    ⟨0, rfl, Nat.zero_le _, rfl, by simp, fun _ h => nomatch h⟩
  · rintro x rest st s' ⟨i, rfl, hi, hr, h1, h2⟩
    have hlt : i < vs.length := by
      rcases Nat.lt_or_ge i vs.length with h | h
      · exact h
      · rw [Nat.sub_eq_zero_of_le h] at hr; simp at hr
    obtain ⟨j, hj⟩ : ∃ j, vs.length - i = j + 1 := ⟨vs.length - i - 1, by omega⟩
    rw [hj, List.range'_succ] at hr
    obtain ⟨hx, hrest⟩ := List.cons.inj hr
    subst hrest
    rw [hx]
    have hpl : i < ps.length := by rw [← hv.length]; exact hlt
    obtain ⟨t, ht⟩ := hv.get i ps[i] (by simp [hpl])
    refine wpAny_mono (hf i st ps[i] t ht h2) (fun r s₂ h => ?_) fun _ _ e => e
    obtain ⟨rfl, rfl⟩ := h
    refine ⟨i + 1, rfl, hlt, ?_, ?_, ?_⟩
    · congr 1; omega
    · show st.1.push ps[i].toArray = _
      rw [h1, List.take_add_one, List.getElem?_eq_getElem hpl, List.push_toArray, Option.toList_some, List.map_append]; rfl
    · intro p hp
      rcases List.mem_append.mp hp with hp | hp
      · exact h2 p hp
      · rw [List.mem_singleton.mp hp]; exact ⟨rfl, rfl⟩
  · rintro st s' ⟨i, rfl, hi, hr, h1, h2⟩
    have hge : i = vs.length := by
      rcases Nat.lt_or_ge i vs.length with h | h
      · obtain ⟨j, hj⟩ : ∃ j, vs.length - i = j + 1 := ⟨vs.length - i - 1, by omega⟩
        rw [hj, List.range'_succ] at hr; cases hr
      · omega
    refine ⟨rfl, ?_, h2⟩
    rw [h1, hge, hv.length, List.take_length]

theorem letGoAll {M : Model} {A : Around} {E : Value → Shared → Prop} : ∀ {l : List (Value × Option Value)} {keep : List Value} {s : Shared} {Q : Unit → Shared → Prop}, (∀ p ∈ l, p.1.onHeap = false ∧ p.2 = none) → Q () s →
    wpAny M A (Bytes.joinLetGo l keep) Q E s
  | [], _, _, _, _, h => wpAny_pure h
  | (x, w) :: r, keep, s, Q, hl, h => by
    obtain ⟨_, rfl⟩ := hl _ (.head _)
    show wpAny M A (letGo [x] _ >>= fun _ => Bytes.joinLetGo r keep) Q E s
    refine wpAny_bind ?_
    show wpAny M A (holding _ point >>= fun _ => pure ()) _ _ _
    refine wpAny_bind (wpAny_holding (wpAny_point (wpAny_pure ?_)))
    exact letGoAll (fun p hp => hl p (.tail _ hp)) h

theorem buffer_full {id : String} {b : Array UInt8} {t : Tok} {full : Bool} : Bytes.buffer? id (.bytes b t) full = pure (some b) := by
  unfold Bytes.buffer?
  rw [KBy.special_eq KBy.look_buffer, KBy.own_buffer, KBy.own_release]
  kernel_rfl
theorem takeQuiet_eq {id : String} {b : Array UInt8} {t : Tok} : Bytes.takeBufferQuiet? id (.bytes b t) 0 = pure (some (b, none)) := by
  have h1 : Bytes.takeBuffer? id (.bytes b t) 0 = pure (some (b, none)) := by
    unfold Bytes.takeBuffer?
    rw [KBy.special_eq KBy.look_buffer, KBy.own_buffer, buffer_full]
    kernel_rfl
  unfold Bytes.takeBufferQuiet?
  rw [h1]
  rfl

theorem meets_join (sep : List UInt8) (l : Addr) (t : Tok) (vs : List Value) (ps : List (List UInt8)) (hv : BytesAre vs ps) :
    Meets («bytes.join» ⟨[.bytes sep.toArray t, .ref l], []⟩)
      (fun _ R s => s.heap.IsList l vs.toArray ∧ (ps.map List.length).sum + sep.length * ps.length ≤ 16777216 ∧ ∀ t' k, R (.ok (.ret (.bytes (glue sep ps).toArray t'))) { s with toks := k }) := by
  refine .of_wp fun prog w A R s hS => ?_
  obtain ⟨hl, hz, hS⟩ := hS
  have hl' := hl
  obtain ⟨o, ho, hc, n, hd⟩ := hl
  show wpAny _ _ (Bytes.joinM .bytes _) _ _ s
  unfold Bytes.joinM
  refine wpAny_bind (wpAny_of_eq (a := (Value.bytes sep.toArray t, Value.ref l)) (by kernel_rfl) ?_)
  show wpAny _ _ (Bytes.joinItems (.ref l) >>= fun r => _) _ _ s
  refine wpAny_bind ?_
  unfold Bytes.joinItems
  refine wpAny_bind (wpAny_typeOf hl'.typeIs ?_)
  refine wpAny_pure ?_
  refine wpAny_bind (wpAny_seqItems ho hd ?_)
  have joined1 : ∀ x, glue sep [x] = x := fun x => by simp [glue]
  by_cases h1 : ∃ x, vs = [x]
  · obtain ⟨x, rfl⟩ := h1
    cases hv with | cons hr => cases hr with | nil =>
    rename_i y t1
    show wpAny _ _ (typeOf (.bytes y.toArray t1) >>= fun r => _) _ _ s
    refine wpAny_bind (wpAny_typeOf (typeIs_bytes s _ _) ?_)
    show wpAny _ _ (rule _ >>= fun _ => ret (.bytes y.toArray t1)) _ _ s
    refine wpAny_bind (wpAny_rule ?_)
    refine wpAny_pure ⟨_, rfl, ?_⟩
    have := hS t1 s.toks
    rw [joined1] at this
    exact this
  · have hgo : vs = [] ∨ ∃ x y r, vs = x :: y :: r := by
      match vs, h1 with
      | [], _ => exact .inl rfl
      | [x], h => exact absurd ⟨x, rfl⟩ h
      | x :: y :: r, _ => exact .inr ⟨x, y, r, rfl⟩
    clear h1
    rcases hgo with rfl | ⟨x, y, r, rfl⟩
    all_goals (
      show wpAny _ _ (forIn [:_] ((#[] : Array (Array UInt8)), ([] : List (Value × Option Value))) _ >>= fun r => _) _ _ s
      refine wpAny_bind ?_
      refine wpAny_mono (join_loop hv _ ?_) (fun st s' h => ?_) fun _ _ e => e
      · intro i st x t hi hst
        show wpAny _ _ (seqItems? (.ref l) >>= fun now => _) _ _ s
        refine wpAny_bind (wpAny_seqItems ho hd ?_)
        have hany : (Bytes.Kind.bytes == Bytes.Kind.bytearray || st.2.any fun x => x.1.onHeap) = false := by
          show st.2.any _ = false
          rw [List.any_eq_false]
          intro p hp
          rw [(hst p hp).1]; exact Bool.false_ne_true
        first
        | exact absurd hi (by simp)
        | (dsimp only
           rw [hany, if_neg Bool.false_ne_true]
           refine wpAny_bind (wpAny_holding ?_)
           refine wpAny_of_eq (a := some (x.toArray, none)) ?_ ?_
           · simp only [Array.getD_eq_getD_getElem?, List.getElem?_toArray, hi, Option.getD_some]
             exact takeQuiet_eq
           · refine wpAny_bind (wpAny_seqItems ho hd ?_)
             dsimp only
             rw [if_neg (by simp)]
             refine wpAny_pure ⟨rfl, ?_⟩
             simp only [Array.getD_eq_getD_getElem?, List.getElem?_toArray, hi, Option.getD_some])
      · obtain ⟨rfl, h1, h2⟩ := h
        obtain ⟨parts, taken⟩ := st
        dsimp only at h1 h2
        subst h1
        refine wpAny_bind (wpAny_of_eq (payload_bytes _ _) ?_)
        have hsum : Array.foldl (fun (x1 : Nat) (x2 : Array UInt8) => x1 + x2.size) (sep.toArray.size * ((ps.map List.toArray).toArray.size - 1)) (ps.map List.toArray).toArray ≤ 16777216 := by
          rw [List.foldl_toArray, sum_fold]
          simp only [List.size_toArray, List.length_map]
          have : sep.length * (ps.length - 1) ≤ sep.length * ps.length := Nat.mul_le_mul_left _ (Nat.sub_le _ _)
          omega
        dsimp only
        rw [if_neg (by rw [KBy.tooLong_not hsum]; exact Bool.false_ne_true)]
        refine wpAny_bind ?_
        show wpAny _ _ (mkBytes (Bytes.joined sep.toArray (ps.map List.toArray))) _ _ _
        rw [joined_eq]
        refine wpAny_mkBytes (wpAny_bind (wpAny_holding (wpAny_point (wpAny_bind (letGoAll h2 (wpAny_pure ⟨_, rfl, hS _ _⟩)))))) ?_
        rw [List.size_toArray, sizeLine_eq]
        exact Nat.le_trans (glue_len _ _) hz)

section
variable {prog : Program} {w : World} {A : Around} {E : Value → Shared → Prop} {s : Shared}
theorem call_join {sep : List UInt8} {l : Addr} {t : Tok} {vs : List Value} {ps : List (List UInt8)} {Q : Value → Shared → Prop} (hl : s.heap.IsList l vs.toArray) (hv : BytesAre vs ps)
    (hz : (ps.map List.length).sum + sep.length * ps.length ≤ 16777216) (h : ∀ t' k, Q (.bytes (glue sep ps).toArray t') { s with toks := k }) :
    wpAny (model prog w) A (call (.builtin "bytes.join") [.bytes sep.toArray t, .ref l]) Q E s :=
  call_meets slot_join (typeIs_bytes _ _ _) entry_join (args_join _ _) (meets_join sep l t vs ps hv) ⟨hl, hz, h⟩
end
end
section
/-! BS -/
open Builtin

/-- the parts between a byte's places -/
def cutAt (c : UInt8) : List UInt8 → List (List UInt8)
  | [] => [[]]
  | x :: r => if x = c then [] :: cutAt c r else match cutAt c r with
    | [] => [[x]]
    | p :: ps => (x :: p) :: ps

theorem cutAt_ne (c : UInt8) (l : List UInt8) : cutAt c l ≠ [] := by
  cases l with
  | nil => simp [cutAt]
  | cons x r =>
    simp only [cutAt]
    split
    · simp
    · split <;> simp

/-- the model's parts -/
def partsM (c : UInt8) (l : List UInt8) : List (Array UInt8) := Bytes.between l.toArray 1 ((Bytes.occurrences l.toArray #[c] 0 l.length).take (l.length + 1))

theorem extract_one (l : List UInt8) (i : Nat) (c : UInt8) : (l.toArray.extract i (i + 1) == #[c]) = (l[i]? == some c) := by
  have e : l.toArray.extract i (i + 1) = (l.drop i |>.take 1).toArray := by
    simp
  rw [e]
  cases h : l.drop i with
  | nil =>
    have : l[i]? = none := by
      rw [List.getElem?_eq_none]; exact List.drop_eq_nil_iff.mp h
    rw [this]; rfl
  | cons x r =>
    have : l[i]? = some x := by
      have := congrArg List.head? h
      rw [List.head?_drop] at this; simpa using this
    rw [this]
    simp [List.take]

/-- the places of a byte, from a number on -/
def placesFrom (c : UInt8) : Nat → List UInt8 → List Nat
  | _, [] => []
  | i, x :: r => if x = c then i :: placesFrom c (i + 1) r else placesFrom c (i + 1) r

theorem places_ge (c : UInt8) : ∀ (l : List UInt8) (i : Nat), ∀ p ∈ placesFrom c i l, i ≤ p
  | [], _, _, h => nomatch h
  | x :: r, i, p, h => by
    unfold placesFrom at h
    split at h
    · rcases List.mem_cons.mp h with rfl | h
      · exact Nat.le_refl _
      · exact Nat.le_of_succ_le (places_ge c r (i + 1) p h)
    · exact Nat.le_of_succ_le (places_ge c r (i + 1) p h)
theorem places_len (c : UInt8) : ∀ (l : List UInt8) (i : Nat), (placesFrom c i l).length ≤ l.length
  | [], _ => Nat.le_refl _
  | x :: r, i => by
    unfold placesFrom
    have := places_len c r (i + 1)
    split <;> simp <;> omega

theorem occ_fold (l : List UInt8) (c : UInt8) : ∀ (r : List UInt8) (i : Nat) (acc : List Nat) (m : Nat), l.drop i = r → m ≤ i →
    ((List.range' i r.length 1).foldl (fun (acc : List Nat × Nat) i => if (decide (i ≥ acc.2) && l.toArray.extract i (i + 1) == #[c]) = true then (i :: acc.1, i + 1) else acc) (acc, m)).1 = (placesFrom c i r).reverse ++ acc
  | [], i, acc, m, _, _ => by simp [placesFrom]
  | x :: r, i, acc, m, hd, hm => by
    have hx : l[i]? = some x := by
      have := congrArg List.head? hd
      rw [List.head?_drop] at this; simpa using this
    have hr : l.drop (i + 1) = r := by
      rw [← List.drop_drop, hd]; rfl
    rw [List.length_cons, List.range'_succ, List.foldl_cons]
    simp only [extract_one, hx]
    by_cases hc : x = c
    · subst hc
      have h1 : (decide (i ≥ m) && (some x == some x)) = true := by simp [hm]
      rw [if_pos h1]
      have := occ_fold l x r (i + 1) (i :: acc) (i + 1) hr (Nat.le_refl _)
      simp only [extract_one] at this
      rw [this]
      simp [placesFrom]
    · have h1 : ¬ (decide (i ≥ m) && (some x == some c)) = true := by simp [hc]
      rw [if_neg h1]
      have := occ_fold l c r (i + 1) acc m hr (Nat.le_succ_of_le hm)
      simp only [extract_one] at this
      rw [this]
      simp [placesFrom, hc]

theorem occ_eq (l : List UInt8) (c : UInt8) : Bytes.occurrences l.toArray #[c] 0 l.length = placesFrom c 0 l := by
  unfold Bytes.occurrences
  have h1 : l.length + 1 - (0 + (#[c] : Array UInt8).size) = l.length := by simp
  rw [h1]
  have h2 : (List.range l.length).map (fun x => x + 0) = List.range' 0 l.length 1 := by
    rw [List.range_eq_range']; simp
  rw [h2]
  have := occ_fold l c l 0 [] 0 rfl (Nat.le_refl _)
  have e : (#[c] : Array UInt8).size = 1 := rfl
  simp only [e]
  rw [this]
  simp

theorem between_fold (l : List UInt8) (c : UInt8) : ∀ (r : List UInt8) (i : Nat) (last : Nat) (acc : Array (Array UInt8)), l.drop i = r → last ≤ i →
    (((placesFrom c i r).foldl (fun (x : Array (Array UInt8) × Nat) p => (x.1.push (l.toArray.extract x.2 p), p + 1)) (acc, last)).1.push
      (l.toArray.extract ((placesFrom c i r).foldl (fun (x : Array (Array UInt8) × Nat) p => (x.1.push (l.toArray.extract x.2 p), p + 1)) (acc, last)).2 l.length)).toList
    = acc.toList ++ (match cutAt c r with | [] => [] | p :: ps => ((l.drop last).take (i - last) ++ p).toArray :: ps.map List.toArray)
  | [], i, last, acc, hd, hl => by
    have hi : l.length ≤ i := List.drop_eq_nil_iff.mp hd
    simp only [placesFrom, List.foldl_nil, cutAt, List.map_nil, List.append_nil]
    rw [Array.toList_push]
    congr 2
    simp only [List.extract_toArray, List.extract_eq_take_drop]
    rw [List.take_of_length_le (by rw [List.length_drop]; omega), List.take_of_length_le (by rw [List.length_drop]; omega)]
  | x :: r, i, last, acc, hd, hl => by
    have hx : l[i]? = some x := by
      have := congrArg List.head? hd
      rw [List.head?_drop] at this; simpa using this
    have hr : l.drop (i + 1) = r := by
      rw [← List.drop_drop, hd]; rfl
    have hlt : i < l.length := by
      rcases Nat.lt_or_ge i l.length with h | h
      · exact h
      · rw [List.getElem?_eq_none h] at hx; cases hx
    by_cases hc : x = c
    · subst hc
      have := between_fold l x r (i + 1) (i + 1) (acc.push (l.toArray.extract last i)) hr (Nat.le_refl _)
      simp only [placesFrom, if_true, List.foldl_cons] at this ⊢
      rw [this]
      simp only [cutAt, if_true, Nat.sub_self, List.take_zero, List.nil_append, Array.toList_push, List.append_assoc, List.append_nil]
      congr 1
      have hne := cutAt_ne x r
      cases hcut : cutAt x r with
      | nil => exact absurd hcut hne
      | cons p ps =>
        simp only [List.map_cons, List.singleton_append, List.extract_toArray, List.extract_eq_take_drop]
    · have := between_fold l c r (i + 1) last acc hr (Nat.le_succ_of_le hl)
      simp only [placesFrom, if_neg hc] at this ⊢
      rw [this]
      simp only [cutAt, if_neg hc]
      have hne := cutAt_ne c r
      cases hcut : cutAt c r with
      | nil => exact absurd hcut hne
      | cons p ps =>
        have e : (l.drop last).take (i + 1 - last) = (l.drop last).take (i - last) ++ [x] := by
          have : i + 1 - last = (i - last) + 1 := by omega
          rw [this, List.take_add_one, List.getElem?_drop]
          have : last + (i - last) = i := by omega
          rw [this, hx]; rfl
        dsimp only
        rw [e, List.append_assoc]; rfl

theorem parts_eq (c : UInt8) (l : List UInt8) : partsM c l = (cutAt c l).map List.toArray := by
  unfold partsM
  rw [occ_eq, List.take_of_length_le (Nat.le_succ_of_le (places_len c l 0))]
  have := between_fold l c l 0 0 #[] rfl (Nat.le_refl _)
  unfold Bytes.between
  simp only [Nat.sub_self, List.take_zero, List.nil_append, List.size_toArray, Array.toList_empty] at this ⊢
  rw [show (fun (x : Array (Array UInt8) × Nat) (p : Nat) => match x with | (parts, last) => (parts.push (l.toArray.extract last p), p + 1)) = (fun (x : Array (Array UInt8) × Nat) p => (x.1.push (l.toArray.extract x.2 p), p + 1)) from rfl]
  rw [this]
  have hne := cutAt_ne c l
  cases hcut : cutAt c l with
  | nil => exact absurd hcut hne
  | cons p ps => simp

theorem mapM_new {M : Model} {A : Around} {E : Value → Shared → Prop} : ∀ {ps : List (List UInt8)} {s : Shared} {Q : List Value → Shared → Prop}, (∀ p ∈ ps, p.length ≤ sizeLine) →
    (∀ vs k, BytesAre vs ps → Q vs { s with toks := k }) → wpAny M A ((ps.map List.toArray).mapM Bytes.Kind.bytes.new) Q E s
  | [], s, Q, _, h => by
    rw [List.map_nil, List.mapM_nil]; exact wpAny_pure (h [] s.toks .nil)
  | p :: r, s, Q, hz, h => by
    rw [List.map_cons, List.mapM_cons]
    refine wpAny_bind ?_
    show wpAny M A (mkBytes p.toArray) _ E s
    refine wpAny_mkBytes ?_ (by rw [List.size_toArray]; exact hz _ (.head _))
    refine wpAny_bind (mapM_new (fun q hq => hz q (.tail _ hq)) fun vs k hv => wpAny_pure (h _ k (.cons hv)))

theorem cutAt_len (c : UInt8) : ∀ l : List UInt8, ∀ p ∈ cutAt c l, p.length ≤ l.length
  | [], p, h => by simp [cutAt] at h; simp [h]
  | x :: r, p, h => by
    have ih := cutAt_len c r
    simp only [cutAt] at h
    split at h
    · rcases List.mem_cons.mp h with rfl | h
      · exact Nat.zero_le _
      · exact Nat.le_succ_of_le (ih p h)
    · have hne := cutAt_ne c r
      cases hcut : cutAt c r with
      | nil => exact absurd hcut hne
      | cons q qs =>
        rw [hcut] at h ih
        rcases List.mem_cons.mp h with rfl | h
        · exact Nat.succ_le_succ (ih q (.head _))
        · exact Nat.le_succ_of_le (ih p (.tail _ h))
theorem cutAt_count (c : UInt8) : ∀ l : List UInt8, (cutAt c l).length ≤ l.length + 1
  | [] => by simp [cutAt]
  | x :: r => by
    have ih := cutAt_count c r
    simp only [cutAt]
    split
    · simp; omega
    · have hne := cutAt_ne c r
      cases hcut : cutAt c r with
      | nil => exact absurd hcut hne
      | cons q qs => rw [hcut] at ih; simp at ih ⊢; omega

theorem bind_split (v : Value) : Bytes.bindOptional "bytes.split" "split" ["sep", "maxsplit"] [v] [] = pure [some v, none] := by kernel_rfl

theorem meets_split (l : List UInt8) (c : UInt8) (t u : Tok) :
    Meets («bytes.split» ⟨[.bytes l.toArray t, .bytes #[c] u], []⟩)
      (fun _ R s => l.length < sizeLine ∧ ∀ vs k, BytesAre vs (cutAt c l) → R (.ok (.ret (.ref s.heap.objs.size))) { s with heap := s.heap.push { cls := .type "list", data := .seq vs.toArray }, toks := k }) := by
  refine .of_wp fun prog w A R s hS => ?_
  obtain ⟨hz, hS⟩ := hS
  show wpAny _ _ (Bytes.splitM .bytes "split" false _) _ _ s
  unfold Bytes.splitM
  show wpAny _ _ (Bytes.bindOptional _ "split" ["sep", "maxsplit"] [.bytes #[c] u] [] >>= fun r => _) _ _ s
  refine wpAny_bind (wpAny_of_eq (bind_split _) ?_)
  refine wpAny_bind (wpAny_pure ?_)
  refine wpAny_bind (wpAny_of_eq (payload_bytes _ _) ?_)
  show wpAny _ _ (Bytes.bytesLike _ (.bytes #[c] u) >>= fun r => _) _ _ s
  refine wpAny_bind (wpAny_of_eq (like_eq _ _) ?_)
  have e1 : ((#[c] : Array UInt8).isEmpty) = false := rfl
  show wpAny _ _ (if (#[c] : Array UInt8).isEmpty = true then _ else _) _ _ s
  rw [if_neg (by rw [e1]; exact Bool.false_ne_true)]
  have hlim : (if (-1 : Int) < 0 then l.toArray.size + 1 else (-1 : Int).toNat) = l.length + 1 := by simp
  show wpAny _ _ (if ((Bytes.occurrences l.toArray #[c] 0 l.length).take (l.length + 1)).isEmpty = true then _ else _) _ _ s
  by_cases he : ((Bytes.occurrences l.toArray #[c] 0 l.length).take (l.length + 1)).isEmpty = true
  · rw [if_pos he]
    have hcut : cutAt c l = [l] := by
      have h := parts_eq c l
      have he' : (Bytes.occurrences l.toArray #[c] 0 l.length).take (l.length + 1) = [] := by simpa using he
      unfold partsM at h
      rw [he'] at h
      have h2 : Bytes.between l.toArray 1 [] = [l.toArray] := by simp [Bytes.between]
      rw [h2] at h
      cases hc : cutAt c l with
      | nil => rw [hc] at h; simp at h
      | cons p ps =>
        rw [hc] at h
        simp only [List.map_cons, List.cons.injEq] at h
        have : l = p := by simpa using congrArg Array.toList h.1
        subst this
        have : ps = [] := by simpa using h.2.symm
        rw [this]
    rw [hcut] at hS
    refine wpAny_bind (wpAny_rule ?_)
    refine wpAny_bind ?_
    show wpAny _ _ (typeOf (.bytes l.toArray t) >>= fun r => _) _ _ s
    refine wpAny_bind (wpAny_typeOf (typeIs_bytes s _ t) ?_)
    refine wpAny_pure ?_
    refine wpAny_bind ?_
    refine wpAny_newObj_type ?_ (by show (1 : Nat) ≤ sizeLine; rw [sizeLine_eq]; decide)
    exact wpAny_pure ⟨_, rfl, hS [.bytes l.toArray t] s.toks (.cons .nil)⟩
  · rw [if_neg he]
    refine wpAny_bind ?_
    show wpAny _ _ ((partsM c l).mapM _) _ _ s
    rw [parts_eq]
    refine mapM_new (fun p hp => Nat.le_trans (cutAt_len c l p hp) (Nat.le_of_lt hz)) fun vs k hv => ?_
    refine wpAny_bind ?_
    refine wpAny_newObj_type ?_ (by show vs.toArray.size ≤ sizeLine; rw [List.size_toArray, hv.length]; exact Nat.le_trans (cutAt_count c l) hz)
    exact wpAny_pure ⟨_, rfl, hS vs k hv⟩

section
variable {prog : Program} {w : World} {A : Around} {E : Value → Shared → Prop} {s : Shared}
theorem call_split {l : List UInt8} {c : UInt8} {t u : Tok} {Q : Value → Shared → Prop} (hz : l.length < 16777216)
    (h : ∀ vs k, BytesAre vs (cutAt c l) → Q (.ref s.heap.objs.size) { s with heap := s.heap.push { cls := .type "list", data := .seq vs.toArray }, toks := k }) :
    wpAny (model prog w) A (call (.builtin "bytes.split") [.bytes l.toArray t, .bytes #[c] u]) Q E s :=
  call_meets slot_split (typeIs_bytes _ _ _) entry_split (args_split _ _) (meets_split l c t u) ⟨by rw [sizeLine_eq]; exact hz, h⟩
end
end
section
/-! P0 -/
open Builtin
/-- the first place of a byte, counted from a number -/
def seek (c : UInt8) : Nat → List UInt8 → Option Nat
  | _, [] => none
  | i, x :: r => if x = c then some i else seek c (i + 1) r
theorem seek_lt (c : UInt8) : ∀ (l : List UInt8) (i j : Nat), seek c i l = some j → i ≤ j ∧ j < i + l.length
  | [], _, _, h => by simp [seek] at h
  | x :: r, i, j, h => by
    unfold seek at h
    split at h
    · cases h; simp
    · have := seek_lt c r (i + 1) j h
      simp; omega
def seekZ (c : UInt8) (lo : Nat) (l : List UInt8) : Int := match seek c lo l with | some i => (i : Int) | none => -1

theorem find_list (l : List UInt8) (c : UInt8) (hi : Nat) : ∀ (n i : Nat), i + n = hi → hi ≤ l.length →
    (List.range' i n 1).find? (fun i => l.toArray.extract i (i + 1) == #[c]) = seek c i ((l.take hi).drop i)
  | 0, i, h, hz => by
    have : (l.take hi).drop i = [] := by rw [List.drop_eq_nil_iff, List.length_take]; omega
    rw [this]; rfl
  | n + 1, i, h, hz => by
    have hlt : i < (l.take hi).length := by rw [List.length_take]; omega
    rw [List.drop_eq_getElem_cons hlt, List.range'_succ, List.find?_cons, extract_one]
    have e : l[i]? = some (l.take hi)[i] := by
      rw [List.getElem_take]; exact List.getElem?_eq_getElem _
    rw [e]
    unfold seek
    by_cases hc : (l.take hi)[i] = c
    · rw [if_pos hc]; simp [hc]
    · rw [if_neg hc, ← find_list l c hi n (i + 1) (by omega) hz]
      have : (some (l.take hi)[i] == some c) = false := by simpa using hc
      rw [this]
theorem spot_seek (l : List UInt8) (c : UInt8) (lo hi : Nat) (h1 : lo ≤ hi) (h2 : hi ≤ l.length) : spotIn l.toArray c lo hi = seek c lo ((l.take hi).drop lo) := by
  unfold spotIn Bytes.find?
  have e : hi + 1 - (lo + (#[c] : Array UInt8).size) = hi - lo := by simp
  rw [e, ← find_list l c hi (hi - lo) lo (by omega) h2]
  have : (List.range (hi - lo)).map (fun x => x + lo) = List.range' lo (hi - lo) 1 := by
    have hf : (fun x => x + lo) = (fun x => lo + x) := funext fun x => Nat.add_comm x lo
    rw [List.range_eq_range', hf, List.map_add_range']; simp
  rw [this]; rfl
section
variable {l : List UInt8} {c : UInt8} {t u : Tok} {prog : Program} {w : World} {A : Around} {E : Value → Shared → Prop} {s : Shared}
theorem find_L {lo hi : Nat} {t1 t2 : Tok} {Q : Value → Shared → Prop} (h1 : lo ≤ hi) (h2 : hi ≤ l.length)
    (h : ∀ r t' k, r = seekZ c lo ((l.take hi).drop lo) → r < hi → (0 ≤ r → (lo : Int) ≤ r) → Q (.int r t') { s with toks := k }) :
    wpAny (model prog w) A (call (.builtin "bytes.find") [.bytes l.toArray t, .bytes #[c] u, .int (lo : Int) t1, .int (hi : Int) t2]) Q E s := by
  refine call_find h1 (by rw [List.size_toArray]; exact h2) fun r t' k hr => ?_
  rw [spot_seek l c lo hi h1 h2] at hr
  refine h r t' k hr ?_ ?_ <;> subst hr <;> cases e : seek c lo ((l.take hi).drop lo) with
  | none => dsimp only; omega
  | some j =>
    have := seek_lt c _ _ _ e
    rw [List.length_drop, List.length_take] at this
    dsimp only; omega
theorem item_B {value slice : PySem.Expr} {i : Int} {ui : Tok} {Q : Value → Shared → Prop} (hz : l.length ≤ 16777216) (h0 : 0 ≤ i) (h1 : i < (l.length : Int)) (h : ∀ v t' k, v = ((l.getD i.toNat 0).toNat : Int) → Q (.int v t') { s with toks := k })
    (hs : subscripted slice false (.bytes l.toArray t) (.int i ui) = operate [.bytes l.toArray t, .int i ui] (getItem (.bytes l.toArray t) (.int i ui)) := by with_unfolding_all rfl)
    (ht : ∀ r, letTemporaryGo value (.bytes l.toArray t) r = pure () := by intro _; with_unfolding_all rfl) :
    wpAny (model prog w) A (subscriptTail value slice (.bytes l.toArray t) (.int i ui)) Q E s :=
  KBy.item_N (by omega) h0 h1 (h _ _ _ rfl) hs ht
end

theorem picked_L (l : List UInt8) {lo hi : Int} (h0 : 0 ≤ lo) (h1 : lo ≤ hi) (h2 : hi ≤ (l.length : Int)) : KBy.picked l.toArray (some lo) (some hi) = ((l.drop lo.toNat).take (hi.toNat - lo.toNat)).toArray := by
  rw [KBc.picked_eq]
  have e1 : clipAt l.toArray.size lo = lo.toNat := by
    have := clipAt_cast l.toArray.size lo
    rw [if_neg (by omega), List.size_toArray] at this
    rw [List.size_toArray]; omega
  have e2 : clipAt l.toArray.size hi = hi.toNat := by
    have := clipAt_cast l.toArray.size hi
    rw [if_neg (by omega), List.size_toArray] at this
    rw [List.size_toArray]; omega
  simp only [Option.elim, e1, e2]
section
variable {prog : Program} {w : World} {A : Around} {E : Value → Shared → Prop} {s : Shared} {value slice : PySem.Expr} {l : List UInt8} {t : Tok} {h₀ : Heap} {L : Addr} {m : PySem.Str → Option Value} {news : List (Addr × Obj)} {lo hi : Int} {tl th : Tok} {Q : Value → Shared → Prop}
theorem slice_B (hF : Fr h₀ L s.heap m) (hN : News h₀ L s.heap news) (h0 : 0 ≤ lo) (h1 : lo ≤ hi) (h2 : hi ≤ (l.length : Int)) (hz : l.length ≤ 16777216)
    (h : ∀ x h' t' k, x = (l.drop lo.toNat).take (hi.toNat - lo.toNat) → Fr h₀ L h' m → News h₀ L h' news → Q (.bytes x.toArray t') { s with heap := h', toks := k })
    (hs : subscripted slice false (.bytes l.toArray t) (.ref s.heap.objs.size) = operate [.ref s.heap.objs.size, .bytes l.toArray t] (getItem (.bytes l.toArray t) (.ref s.heap.objs.size)) := by with_unfolding_all rfl)
    (ht : ∀ r, letTemporaryGo value (.bytes l.toArray t) r = pure () := by intro _; with_unfolding_all rfl) :
    wpAny (model prog w) A (subscriptTail value slice (.bytes l.toArray t) (.ref s.heap.objs.size)) Q E { s with heap := s.heap.push { cls := .type "slice", data := .fields #[.int lo tl, .int hi th, .none] } } :=
  KBc.slice_K (lo := some lo) (hi := some hi) hF hN (ks := KBw.bInts l.toArray) rfl (.int _ _) (.int _ _) (by rw [KBw.ints_length, List.size_toArray]; exact hz) (fun h' t' k F N _ => by
    have := h _ h' t' k rfl F N
    rw [picked_L l h0 h1 h2]; exact this) hs ht
end
end
section
/-! C0 -/
/-- what a comprehension's source must bring: its items (a property at each place), the element's value upon each, and what goes on behind -/
def CompK (prog : Program) (w : World) (A : Around) (env : Env) (scope : Scope) (x : PySem.Str) (ifs : List Expr) (elt : Expr) (p : Value → Bool) (R : Value → Value → Prop) (Q E : Value → Shared → Prop) (xv : Value) (s₁ : Shared) : Prop :=
  wpAny (model prog w) A (pyIter xv) (fun it s₂ => ∃ I fp wr n P St, it = .ref I ∧ Walks prog w A I fp wr n P St ∧ n ≤ sizeLine ∧ St 0 s₂.heap ∧ (∀ b ∈ fp, b < s₂.heap.objs.size) ∧
      QuietOn prog w A env scope x ifs elt wr P p R s₂ ∧
      (∀ D h' tk ys (vs : List Value), s₂.heap.get? D = none → h'.IsList D ys → h'.PlainList D ys → vs.length = n → (∀ j v, vs[j]? = some v → P j v) → Paired R (vs.filter p) ys.toList →
        (∀ b o, b ∉ wr → s₂.heap.get? b = some o → h'.get? b = some o) → Q (.ref D) { s₂ with heap := h', toks := tk })) E s₁

section
variable {prog : Program} {w : World} {A : Around} {E : Value → Shared → Prop} {env : Env} {s : Shared}
theorem comp_K {elt iter : Expr} {x : PySem.Str} {px : Pos} {ifs : List Expr} {scope : Scope} {pos : Pos} {Q : Value → Shared → Prop} (p : Value → Bool) (R : Value → Value → Prop)
    (hfree : ∀ y ∈ scope.names, y.2 ≠ .free) (hcell : ∀ y ∈ scope.names, y.2 ≠ .cell) (hkind : scope.kind = .function)
    (hnames : ∀ y ∈ scope.names, y.2 = .local → scope.names.lookup y.1 = some .local) (hx : scope.names.lookup x = some .local)
    (h : wpAny (model prog w) A (eval iter env) (CompK prog w A env scope x ifs elt p R Q E) E s)
    (hs : ∀ x, foldedSetIterable iter env x = pure x) :
    wpAny (model prog w) A (eval (.ListComp elt [⟨.Name x px, iter, ifs, 0⟩] scope pos) env) Q E s := wpAny_ListComp_walk p R hfree hcell hkind hnames hx h hs

/-- the element's value, asked at every item: p says which items pass -/
structure EltOn (prog : Program) (w : World) (A : Around) (env : Env) (scope : Scope) (x : PySem.Str) (ifs : List Expr) (elt : Expr) (P : Nat → Value → Prop) (p : Value → Bool) (R : Value → Value → Prop) (s₁ : Shared) : Prop where
  tests : ∀ C i v s₃ m₃ E', P i v → s₃.heap.Ns C m₃ → m₃ x = some v → (∀ b o, s₁.heap.get? b = some o → s₃.heap.get? b = some o) →
    wpAny (model prog w) A (forIn ifs true fun c r => if r = true then do let ok ← isTrue c (compEnv scope C env) (eval c (compEnv scope C env)); pure (ForInStep.yield ok) else pure (ForInStep.yield r))
      (fun ok s₄ => ok = p v ∧ Keeps s₃ s₄) E' s₃
  elt : ∀ C i v s₃ m₃ E', P i v → p v = true → s₃.heap.Ns C m₃ → m₃ x = some v → (∀ b o, s₁.heap.get? b = some o → s₃.heap.get? b = some o) →
    wpAny (model prog w) A (eval elt (compEnv scope C env)) (fun y s₄ => R v y ∧ Keeps s₃ s₄) E' s₃

theorem quiet_of {scope : Scope} {x : PySem.Str} {ifs : List Expr} {elt : Expr} {P : Nat → Value → Prop} {p : Value → Bool} {R : Value → Value → Prop} {s₁ : Shared} {o : Obj}
    (h : EltOn prog w A env scope x ifs elt P p R s₁) : QuietOn prog w A env scope x ifs elt [s₁.heap.objs.size] P p R { s₁ with heap := s₁.heap.push o } where
  tests := fun C i v s₃ m₃ E' hv hn hm hk _ => h.tests C i v s₃ m₃ E' hv hn hm fun b o' e => hk b o' (fun hb => absurd (Heap.lt_size e) (by rw [List.mem_singleton.mp hb]; exact Nat.lt_irrefl _)) (Heap.get?_push_of_some _ e)
  elt := fun C i v s₃ m₃ E' hv hp hn hm hk _ => h.elt C i v s₃ m₃ E' hv hp hn hm fun b o' e => hk b o' (fun hb => absurd (Heap.lt_size e) (by rw [List.mem_singleton.mp hb]; exact Nat.lt_irrefl _)) (Heap.get?_push_of_some _ e)

theorem fresh_push {h : Heap} {o : Obj} {D : Addr} (e : (h.push o).get? D = none) : h.get? D = none := by
  cases q : h.get? D with
  | none => rfl
  | some o' => rw [Heap.get?_push_of_some _ q] at e; cases e

theorem compK_str {scope : Scope} {v : PySem.Str} {ifs : List Expr} {elt : Expr} {p : Value → Bool} {R : Value → Value → Prop} {Q : Value → Shared → Prop} {x : PySem.Str} {t : Tok} (hh : A.handled = none) (hz : x.cps.size ≤ sizeLine)
    (he : EltOn prog w A env scope v ifs elt (SignAt x) p R s)
    (hQ : ∀ D h' tk ys n (vs : List Value), s.heap.get? D = none → h'.get? D = some { cls := .type "list", data := .seq ys n } → vs.length = x.cps.size → (∀ j v, vs[j]? = some v → SignAt x j v) → Paired R (vs.filter p) ys.toList →
      (∀ b o, s.heap.get? b = some o → h'.get? b = some o) → Q (.ref D) { s with heap := h', toks := tk }) :
    CompK prog w A env scope v ifs elt p R Q E (.str x t) s := by
  refine wpAny_pyIter_str fun o St W hst => ?_
  refine ⟨_, _, _, _, _, _, rfl, W A hh, hz, hst, ?_, quiet_of he, ?_⟩
  · intro b hb
    rw [List.mem_singleton.mp hb]
    show s.heap.objs.size < (s.heap.push o).objs.size
    rw [Heap.size_push]; exact Nat.lt_succ_self _
  · rintro D h' tk ys vs hD _ ⟨n, hl⟩ hlen hP hR hk
    exact hQ D h' tk ys n vs (fresh_push hD) hl hlen hP hR fun b o' e => hk b o' (fun hb => absurd (Heap.lt_size e) (by rw [List.mem_singleton.mp hb]; exact Nat.lt_irrefl _)) (Heap.get?_push_of_some _ e)

/-- a byte stands at a place -/
def ByteAt (l : List UInt8) (i : Nat) (v : Value) : Prop := ∃ c u, l[i]? = some c ∧ v = .int ((c.toNat : Nat) : Int) u
theorem compK_bytes {scope : Scope} {v : PySem.Str} {ifs : List Expr} {elt : Expr} {p : Value → Bool} {R : Value → Value → Prop} {Q : Value → Shared → Prop} {x : List UInt8} {t : Tok} (hh : A.handled = none) (hz : x.length ≤ sizeLine)
    (he : EltOn prog w A env scope v ifs elt (ByteAt x) p R s)
    (hQ : ∀ D h' tk ys n (vs : List Value), s.heap.get? D = none → h'.get? D = some { cls := .type "list", data := .seq ys n } → vs.length = x.length → (∀ j v, vs[j]? = some v → ByteAt x j v) → Paired R (vs.filter p) ys.toList →
      (∀ b o, s.heap.get? b = some o → h'.get? b = some o) → Q (.ref D) { s with heap := h', toks := tk }) :
    CompK prog w A env scope v ifs elt p R Q E (.bytes x.toArray t) s := by
  refine KBw.pyIter_bytes ?_
  have W0 := KBw.walks (prog := prog) (w := w) hh s.heap.objs.size x.toArray t
  have W : Walks prog w A s.heap.objs.size [s.heap.objs.size] [s.heap.objs.size] x.length (ByteAt x) (fun i h => KBw.IsBytesIter h s.heap.objs.size x.toArray t i) :=
    { sub := W0.sub, frame := W0.frame, self := W0.self, done := (by simpa using W0.done),
      item := fun i s Q E hi st hQ => W0.item i s Q E (by simpa using hi) st fun v h' tk hP => hQ v h' tk (by
        obtain ⟨c, u, hc, rfl⟩ := hP
        exact ⟨c, u, by simpa using hc, rfl⟩) }
  refine ⟨_, _, _, _, _, _, rfl, W, hz, ⟨_, Heap.get?_push_size _ rfl, rfl, rfl⟩, ?_, quiet_of he, ?_⟩
  · intro b hb
    rw [List.mem_singleton.mp hb]
    show s.heap.objs.size < (s.heap.push _).objs.size
    rw [Heap.size_push]; exact Nat.lt_succ_self _
  · rintro D h' tk ys vs hD _ ⟨n, hl⟩ hlen hP hR hk
    exact hQ D h' tk ys n vs (fresh_push hD) hl hlen hP hR fun b o' e => hk b o' (fun hb => absurd (Heap.lt_size e) (by rw [List.mem_singleton.mp hb]; exact Nat.lt_irrefl _)) (Heap.get?_push_of_some _ e)

theorem compK_list {scope : Scope} {v : PySem.Str} {ifs : List Expr} {elt : Expr} {p : Value → Bool} {R : Value → Value → Prop} {Q : Value → Shared → Prop} {a : Addr} {its : List Value} (hh : A.handled = none) (hl : s.heap.IsList a its.toArray) (hz : its.length ≤ sizeLine)
    (he : EltOn prog w A env scope v ifs elt (fun i y => its[i]? = some y) p R s)
    (hQ : ∀ D h' tk ys n, s.heap.get? D = none → h'.get? D = some { cls := .type "list", data := .seq ys n } → Paired R (its.filter p) ys.toList →
      (∀ b o, s.heap.get? b = some o → h'.get? b = some o) → Q (.ref D) { s with heap := h', toks := tk }) :
    CompK prog w A env scope v ifs elt p R Q E (.ref a) s := by
  refine wpAny_pyIter_list hl ?_
  have hlt : a < s.heap.objs.size := by obtain ⟨_, e, _⟩ := hl; exact Heap.lt_size e
  have W0 := Walks.list (prog := prog) (w := w) hh s.heap.objs.size a (Nat.ne_of_lt hlt) its.toArray
  have W : Walks prog w A s.heap.objs.size [s.heap.objs.size, a] [s.heap.objs.size] its.length (fun i y => its[i]? = some y) (fun i h => h.IsListIter s.heap.objs.size a i ∧ h.IsList a its.toArray) :=
    { sub := W0.sub, frame := W0.frame, self := W0.self, done := (by simpa using W0.done),
      item := fun i s Q E hi st hQ => W0.item i s Q E (by simpa using hi) st fun v h' tk hP => hQ v h' tk (by simpa using hP) }
  refine ⟨_, _, _, _, _, _, rfl, W, hz, ⟨⟨_, Heap.get?_push_size _ rfl, rfl, rfl⟩, hl.push _⟩, ?_, quiet_of he, ?_⟩
  · intro b hb
    show b < (s.heap.push _).objs.size
    rw [Heap.size_push]
    rcases List.mem_cons.mp hb with rfl | hb
    · exact Nat.lt_succ_self _
    · rw [List.mem_singleton.mp hb]; exact Nat.lt_succ_of_lt hlt
  · rintro D h' tk ys vs hD _ ⟨n, hl'⟩ hlen hP hR hk
    have e : vs = its := by
      apply List.ext_getElem?
      intro i
      rcases Nat.lt_or_ge i vs.length with h | h
      · have h1 := hP i vs[i] (by simp [h])
        rw [h1]; simp [h]
      · rw [List.getElem?_eq_none h, List.getElem?_eq_none (by rw [← hlen]; exact h)]
    subst e
    exact hQ D h' tk ys n (fresh_push hD) hl' hR fun b o' e => hk b o' (fun hb => absurd (Heap.lt_size e) (by rw [List.mem_singleton.mp hb]; exact Nat.lt_irrefl _)) (Heap.get?_push_of_some _ e)

/-- no tests -/
theorem tests_none {scope : Scope} {x : PySem.Str} {elt : Expr} {P : Nat → Value → Prop} {R : Value → Value → Prop} {s₁ : Shared}
    (h : ∀ C i v s₃ m₃ E', P i v → s₃.heap.Ns C m₃ → m₃ x = some v → (∀ b o, s₁.heap.get? b = some o → s₃.heap.get? b = some o) →
      wpAny (model prog w) A (eval elt (compEnv scope C env)) (fun y s₄ => R v y ∧ Keeps s₃ s₄) E' s₃) : EltOn prog w A env scope x [] elt P (fun _ => true) R s₁ where
  tests := fun C i v s₃ m₃ E' _ _ _ _ => by
    rw [List.forIn_nil]
    exact wpAny_pure ⟨rfl, s₃.heap, s₃.toks, rfl, fun _ _ e => e⟩
  elt := fun C i v s₃ m₃ E' hv _ hn hm hk => h C i v s₃ m₃ E' hv hn hm hk
end
end
section
/-! Hd -/
set_option maxRecDepth 100000 in
set_option maxHeartbeats 8000000 in
open_top hd for PySem.Challenge.rw_or0030_01
end
section
/-! Bs -/
noncomputable abbrev Pg : Program := PySem.Challenge.rw_or0030_01.row.prog
noncomputable abbrev Lo : List Str := looseW hd.view_39 [Str.ofString "read_spans", Str.ofString "read_fields"]
/-- the ground: the written part and the top's facts at a heap -/
structure Gnd (w : World) (mean : ExcName → Option Value) (mg mb : Str → Option Value) (h : Heap) : Prop where
  X : (hd.heap_39 w.params).In h
  T : Top hd.view_39 Lo mean mg mb h
abbrev Ext (h h' : Heap) : Prop := ∀ b o, h.get? b = some o → h'.get? b = some o
theorem Gnd.keeps {w : World} {mean : ExcName → Option Value} {mg mb : Str → Option Value} {h h' : Heap} (G : Gnd w mean mg mb h) (k : Ext h h') : Gnd w mean mg mb h' := ⟨G.X.keeps k, G.T.keeps k⟩
abbrev Ar (dp un : Nat) (fr : Option (List Env)) (gd : Option (List Code)) : Around := { handled := none, depth := dp, frames := fr, guards := gd, units := un }

theorem enter {w : World} {mean : ExcName → Option Value} {mg mb : Str → Option Value} {A : Around} {s : Shared} {R : Result → Shared → Prop} {name qual : Str} {params : Arguments} {body : List Stmt} {scope : Scope} {dV kV doc pm cdv ct oc : Value} {an od : Option Addr} {osl : Array (Option Value)} {f : Addr} {args : Args} (binds : List (Str × Value))
    (G : Gnd w mean mg mb s.heap)
    (ho : (hd.heap_39 w.params).lookup f = some ⟨oc, od, .func (fnOf name qual params body scope dV kV doc pm an cdv ct), osl⟩) (hcd : codeIn (hd.heap_39 w.params) cdv qual = true) (hroom : A.depth < recursionLimit)
    (hbind : BindsTo s (fnOf name qual params body scope dV kV doc pm an cdv ct) args binds) (hloc : ∀ y ∈ binds, scope.names.lookup y.1 = some .local)
    (h : ∀ h₁, Fr s.heap s.heap.objs.size h₁ (fun y => binds.reverse.lookup y) → News s.heap s.heap.objs.size h₁ [] → (hd.heap_39 w.params).In s.heap → Top hd.view_39 Lo mean mg mb s.heap →
      wpAny (model Pg w) (A.deeper (envOf qual scope s.heap.objs.size f cdv)) (execs body (envOf qual scope s.heap.objs.size f cdv))
        (fun fl s' => R (.ok (.ret (match fl with | .ret v => v | _ => .none))) s') (fun _ _ => False)
        { s with heap := h₁, toks := s.toks + binds.length })
    (hco : scope.isCoroutine = false) (hgen : scope.isGenerator = false) (hk : scope.kind = .function)
    (hcell : ∀ x ∈ scope.names, x.2 ≠ .cell) : codeAny (model Pg w) A (.call (.ref f) args) R s :=
  codeAny_call_def hroom (G.X _ _ ho) rfl G.T.nolimit (codeRec_of G.X hcd) rfl hbind hcell hloc (fun h₁ hns hk₁ =>
    wpAny_mono (h h₁ ⟨hns, hk₁, Nat.le_refl _⟩ News.nil G.X G.T) (fun _ _ x => x) fun _ _ x => x.elim) hco hgen hk

/-- what a call leaves: the frame stands, the ledger stands -/
theorem stand {h₀ h h' : Heap} {L : Addr} {m : Str → Option Value} {news : List (Addr × Obj)} (F : Fr h₀ L h m) (N : News h₀ L h news) (k : Ext h h') : Fr h₀ L h' m ∧ News h₀ L h' news := ⟨F.keeps k, N.grown k⟩
/-- a new object onto the ledger -/
theorem onto {h₀ h h' : Heap} {L a : Addr} {o : Obj} {m : Str → Option Value} {news : List (Addr × Obj)} (F : Fr h₀ L h m) (N : News h₀ L h news) (k : Ext h h') (hn : h.get? a = none) (ho : h'.get? a = some o) : News h₀ L h' ((a, o) :: news) := by
  intro p hp
  rcases List.mem_cons.mp hp with rfl | hp
  · refine ⟨ho, ?_, ?_⟩
    · rintro rfl
      obtain ⟨oL, _, _, hL, _⟩ := F.ns
      rw [hL] at hn; cases hn
    · cases q : h₀.get? a with
      | none => rfl
      | some o' => have := F.keep _ _ q; rw [hn] at this; cases this
  · exact N.grown k p hp

theorem nameG_B {M : Model} {A : Around} {E : Value → Shared → Prop} {s : Shared} {env : Env} {h₀ : Heap} {L : Addr} {m : PySem.Str → Option Value} {K : Frag} {mg mb : Str → Option Value} {p : Program} {loose : List Str} {x : Str} {pos : Pos} {v : Value} {Q : Value → Shared → Prop}
    (F : Fr h₀ L s.heap m) (X : K.In h₀) (T : TopRead p loose mg mb h₀) (e : nsIn K mainGlobals x = some none) (hv : bootBuiltins x = some v) (hn : x ≠ "__name__") (h : Q v s) (hg : env.globals = mainGlobals) (hb : env.builtins = builtinsNs)
    (hk : env.scope.kind = .function) (hx : env.kindOf x = some .globalImplicit) (hd : (x == ("__debug__" : Str)) = false) : wpAny M A (eval (.Name x pos) env) Q E s :=
  Name_function_global hk hx (loadGlobal_builtin (env := env) (by rw [hg]; exact T.g.keeps F.keep) (mg_none_of X T.g e) (by rw [hb]; exact T.b.keeps F.keep) ((T.builtins x hn).trans hv) h) hd
theorem nameG_L {M : Model} {A : Around} {E : Value → Shared → Prop} {s : Shared} {env : Env} {m₃ : PySem.Str → Option Value} {x : Str} {pos : Pos} {v : Value} {Q : Value → Shared → Prop}
    (hn : s.heap.Ns env.locals m₃) (hm : m₃ x = some v) (h : Q v s) (hk : env.scope.kind = .function) (hx : env.kindOf x = some .local) (hd : (x == ("__debug__" : Str)) = false) : wpAny M A (eval (.Name x pos) env) Q E s :=
  wpAny_Name (wpAny_loadName_local hk hx hn hm h) hd

theorem filled (P : Params) (h : Heap) : (hd.heap_39 P).In h → PySem.Challenge.rw_or0030_01 = PySem.Challenge.rw_or0030_01 → True := by
  k_fill
  intros; trivial
end
section
/-! L1 -/
local macro_rules | `(tactic| walk_at "mine pad0") => `(tactic| skip)
local macro_rules | `(tactic| walk_at "mine pad1") => `(tactic| skip)
local macro_rules | `(tactic| walk_at "mine pad2") => `(tactic| skip)
local macro_rules | `(tactic| walk_at "mine pad3") => `(tactic| skip)
local macro_rules | `(tactic| walk_at "mine pad4") => `(tactic| skip)
local macro_rules | `(tactic| walk_at "mine pad5") => `(tactic| skip)
local macro_rules | `(tactic| walk_at "mine pad6") => `(tactic| skip)
local macro_rules | `(tactic| walk_at "mine pad7") => `(tactic| skip)
local macro_rules | `(tactic| walk_at "mine pad8") => `(tactic| skip)
local macro_rules | `(tactic| walk_at "mine pad9") => `(tactic| skip)
local macro_rules | `(tactic| walk_at "mine pad10") => `(tactic| skip)
local macro_rules | `(tactic| walk_at "mine pad11") => `(tactic| skip)
local macro_rules | `(tactic| walk_at "mine pad12") => `(tactic| skip)
local macro_rules | `(tactic| walk_at "mine pad13") => `(tactic| skip)
local macro_rules | `(tactic| walk_at "mine pad14") => `(tactic| skip)
local macro_rules | `(tactic| walk_at "mine pad15") => `(tactic| skip)
local macro_rules | `(tactic| walk_at "mine pad16") => `(tactic| skip)
local macro_rules | `(tactic| walk_at "mine pad17") => `(tactic| skip)
local macro_rules | `(tactic| walk_at "mine pad18") => `(tactic| skip)
local macro_rules | `(tactic| walk_at "mine pad19") => `(tactic| skip)
local macro_rules | `(tactic| walk_at "mine pad20") => `(tactic| skip)
local macro_rules | `(tactic| walk_at "mine pad21") => `(tactic| skip)
local macro_rules | `(tactic| walk_at "mine pad22") => `(tactic| skip)
local macro_rules | `(tactic| walk_at "mine pad23") => `(tactic| skip)
local macro_rules | `(tactic| walk_at "mine pad24") => `(tactic| skip)
local macro_rules | `(tactic| walk_at "mine pad25") => `(tactic| skip)
local macro_rules | `(tactic| walk_at "mine pad26") => `(tactic| skip)
local macro_rules | `(tactic| walk_at "mine pad27") => `(tactic| skip)
local macro_rules | `(tactic| walk_at "mine pad28") => `(tactic| skip)
local macro_rules | `(tactic| walk_at "mine pad29") => `(tactic| skip)
local macro_rules | `(tactic| walk_at "mine pad30") => `(tactic| skip)
local macro_rules | `(tactic| walk_at "mine pad31") => `(tactic| skip)
local macro_rules | `(tactic| walk_at "mine pad32") => `(tactic| skip)
local macro_rules | `(tactic| walk_at "mine pad33") => `(tactic| skip)
local macro_rules | `(tactic| walk_at "mine pad34") => `(tactic| skip)
local macro_rules | `(tactic| walk_at "mine pad35") => `(tactic| skip)
local macro_rules | `(tactic| walk_at "mine pad36") => `(tactic| skip)
local macro_rules | `(tactic| walk_at "mine pad37") => `(tactic| skip)
local macro_rules | `(tactic| walk_at "mine pad38") => `(tactic| skip)
local macro_rules | `(tactic| walk_at "mine pad39") => `(tactic| skip)
local macro_rules | `(tactic| walk_at "mine pad40") => `(tactic| skip)
local macro_rules | `(tactic| walk_at "mine pad41") => `(tactic| skip)
local macro_rules | `(tactic| walk_at "mine pad42") => `(tactic| skip)
local macro_rules | `(tactic| walk_at "mine pad43") => `(tactic| skip)
theorem off_L1 : True := by
  w_top off
  trivial
def lowC (c : Int) : Int := if 65 ≤ c ∧ c ≤ 90 then c + 32 else c

local macro_rules | `(tactic| k_room) => `(tactic| ((try simp only [depth_under_make, depth_under_kw, depth_in1, depth_deeper, depth_caller, Ar] at *); omega))
local macro_rules | `(tactic| walk_at "mine in") => `(tactic| (case kG => assumption))
local macro_rules | `(tactic| walk_at "mine in") => `(tactic| (case k6 => k_is))
local macro_rules | `(tactic| walk_at "mine in") => `(tactic| (case k7 => k_is))
local macro_rules | `(tactic| walk_at "mine enter") => `(tactic| (
  (case kG => assumption); (case k6 => k_is); (case k7 => k_is); (case k8 => k_room); (case k9 => exact BindsTo.of_eq rfl); (case c5 => decide); (case kB => exact locs rfl); (case c2 => exact rfl); (case c3 => exact rfl); (case c4 => exact rfl)))

set_option maxHeartbeats 4000000 in
theorem lower_code_spec {w : World} {mean : ExcName → Option Value} {mg mb : Str → Option Value} {dp un : Nat} {fr : Option (List Env)} {gd : Option (List Code)} {s : Shared} {c : Int} {t : Tok} {Q E : Value → Shared → Prop}
    (G : Gnd w mean mg mb s.heap) (hd : dp + 1 < recursionLimit)
    (k : ∀ h' r t' tk', r = lowC c → Ext s.heap h' → Q (.int r t') { s with heap := h', toks := tk' }) :
    wpAny (model Pg w) (Ar dp un fr gd) (call (.ref 28) [.int c t]) Q E s := by
  refine wpAny_call ?_
  refine' enter [("code", .int c t)] ?kG ?k6 ?k7 ?k8 ?k9 ?kB ?_ ?c2 ?c3 ?c4 ?c5
  walk_at "mine enter"
  intro h' F' N' X' T'
  k_fold
  k_steps
  all_goals dsimp only
  · refine k _ _ _ _ ?_ (by exact F'.keep)
    unfold lowC; rw [if_pos ⟨by assumption, by assumption⟩]
  · refine k _ _ _ _ ?_ (by exact F'.keep)
    unfold lowC; rw [if_neg (by rintro ⟨_, h⟩; exact absurd h (by assumption))]
  · refine k _ _ _ _ ?_ (by exact F'.keep)
    unfold lowC; rw [if_neg (by rintro ⟨h, _⟩; exact absurd h (by assumption))]
end
section
/-! L2 -/
local macro_rules | `(tactic| walk_at "mine pad0") => `(tactic| skip)
local macro_rules | `(tactic| walk_at "mine pad1") => `(tactic| skip)
local macro_rules | `(tactic| walk_at "mine pad2") => `(tactic| skip)
local macro_rules | `(tactic| walk_at "mine pad3") => `(tactic| skip)
local macro_rules | `(tactic| walk_at "mine pad4") => `(tactic| skip)
local macro_rules | `(tactic| walk_at "mine pad5") => `(tactic| skip)
local macro_rules | `(tactic| walk_at "mine pad6") => `(tactic| skip)
local macro_rules | `(tactic| walk_at "mine pad7") => `(tactic| skip)
local macro_rules | `(tactic| walk_at "mine pad8") => `(tactic| skip)
local macro_rules | `(tactic| walk_at "mine pad9") => `(tactic| skip)
local macro_rules | `(tactic| walk_at "mine pad10") => `(tactic| skip)
local macro_rules | `(tactic| walk_at "mine pad11") => `(tactic| skip)
local macro_rules | `(tactic| walk_at "mine pad12") => `(tactic| skip)
local macro_rules | `(tactic| walk_at "mine pad13") => `(tactic| skip)
local macro_rules | `(tactic| walk_at "mine pad14") => `(tactic| skip)
local macro_rules | `(tactic| walk_at "mine pad15") => `(tactic| skip)
local macro_rules | `(tactic| walk_at "mine pad16") => `(tactic| skip)
local macro_rules | `(tactic| walk_at "mine pad17") => `(tactic| skip)
local macro_rules | `(tactic| walk_at "mine pad18") => `(tactic| skip)
local macro_rules | `(tactic| walk_at "mine pad19") => `(tactic| skip)
local macro_rules | `(tactic| walk_at "mine pad20") => `(tactic| skip)
local macro_rules | `(tactic| walk_at "mine pad21") => `(tactic| skip)
local macro_rules | `(tactic| walk_at "mine pad22") => `(tactic| skip)
local macro_rules | `(tactic| walk_at "mine pad23") => `(tactic| skip)
local macro_rules | `(tactic| walk_at "mine pad24") => `(tactic| skip)
local macro_rules | `(tactic| walk_at "mine pad25") => `(tactic| skip)
local macro_rules | `(tactic| walk_at "mine pad26") => `(tactic| skip)
local macro_rules | `(tactic| walk_at "mine pad27") => `(tactic| skip)
local macro_rules | `(tactic| walk_at "mine pad28") => `(tactic| skip)
local macro_rules | `(tactic| walk_at "mine pad29") => `(tactic| skip)
local macro_rules | `(tactic| walk_at "mine pad30") => `(tactic| skip)
local macro_rules | `(tactic| walk_at "mine pad31") => `(tactic| skip)
local macro_rules | `(tactic| walk_at "mine pad32") => `(tactic| skip)
local macro_rules | `(tactic| walk_at "mine pad33") => `(tactic| skip)
local macro_rules | `(tactic| walk_at "mine pad34") => `(tactic| skip)
local macro_rules | `(tactic| walk_at "mine pad35") => `(tactic| skip)
local macro_rules | `(tactic| walk_at "mine pad36") => `(tactic| skip)
local macro_rules | `(tactic| walk_at "mine pad37") => `(tactic| skip)
local macro_rules | `(tactic| walk_at "mine pad38") => `(tactic| skip)
local macro_rules | `(tactic| walk_at "mine pad39") => `(tactic| skip)
local macro_rules | `(tactic| walk_at "mine pad40") => `(tactic| skip)
local macro_rules | `(tactic| walk_at "mine pad41") => `(tactic| skip)
local macro_rules | `(tactic| walk_at "mine pad42") => `(tactic| skip)
local macro_rules | `(tactic| walk_at "mine pad43") => `(tactic| skip)
local macro_rules | `(tactic| walk_at "mine pad44") => `(tactic| skip)
theorem off_L2 : True := by
  w_top off
  trivial
local macro_rules | `(tactic| k_room) => `(tactic| ((try simp only [depth_under_make, depth_under_kw, depth_in1, depth_deeper, depth_caller, Ar] at *); omega))
local macro_rules | `(tactic| walk_at "mine enter") => `(tactic| (
  (case kG => assumption); (case k6 => k_is); (case k7 => k_is); (case k8 => k_room); (case k9 => exact BindsTo.of_eq rfl); (case c5 => decide); (case kB => exact locs rfl); (case c2 => exact rfl); (case c3 => exact rfl); (case c4 => exact rfl)))

/-- where a text's first row ends, and where the next begins -/
def lineEnd (l : List UInt8) : Nat × Nat := match seek 10 0 l with
  | none => (l.length, l.length)
  | some i => if 0 < i ∧ l[i - 1]? = some 13 then (i - 1, i + 1) else (i, i + 1)

theorem seek_shift (c : UInt8) : ∀ (l : List UInt8) (k i : Nat), seek c (k + i) l = (seek c i l).map (k + ·)
  | [], _, _ => rfl
  | x :: r, k, i => by
    unfold seek
    by_cases h : x = c
    · simp [h]
    · rw [if_neg h, if_neg h, ← seek_shift c r k (i + 1)]; rfl

theorem line_of {d : List UInt8} {p : Nat} {r : Int} (hp : p ≤ d.length) (hr : r = seekZ 10 p ((d.take d.length).drop p)) :
    (r < 0 → lineEnd (d.drop p) = (d.length - p, d.length - p)) ∧
    (0 ≤ r → (p : Int) < r → ((d.getD (r - 1).toNat 0).toNat : Int) = 13 → lineEnd (d.drop p) = (r.toNat - 1 - p, r.toNat + 1 - p)) ∧
    (0 ≤ r → ¬ ((p : Int) < r ∧ ((d.getD (r - 1).toNat 0).toNat : Int) = 13) → lineEnd (d.drop p) = (r.toNat - p, r.toNat + 1 - p)) := by
  rw [List.take_length] at hr
  have hs := seek_shift 10 (d.drop p) p 0
  rw [Nat.add_zero] at hs
  unfold seekZ at hr
  rw [hs] at hr
  unfold lineEnd
  cases e : seek 10 0 (d.drop p) with
  | none =>
    rw [e] at hr
    simp only [Option.map_none] at hr
    refine ⟨fun _ => ?_, fun h => absurd h (by omega), fun h => absurd h (by omega)⟩
    simp
  | some i =>
    rw [e] at hr
    simp only [Option.map_some] at hr
    have hlt := seek_lt _ _ _ _ e
    rw [List.length_drop] at hlt
    have key : ∀ h : 0 < i, ((d.drop p)[i - 1]? = some 13 ↔ ((d.getD (r - 1).toNat 0).toNat : Int) = 13) := fun h => by
      have e1 : (r - 1).toNat = p + (i - 1) := by omega
      have hlt' : p + (i - 1) < d.length := by omega
      rw [e1, List.getElem?_drop, List.getD_eq_getElem?_getD, List.getElem?_eq_getElem hlt', Option.getD_some]
      constructor
      · intro h; rw [Option.some.inj h]; rfl
      · intro h
        have e13 : (13 : UInt8).toNat = 13 := rfl
        have : (d[p + (i - 1)]).toNat = (13 : UInt8).toNat := by rw [e13]; omega
        exact congrArg some (UInt8.toNat_inj.mp this)
    refine ⟨fun h => absurd h (by omega), fun h0 h1 h2 => ?_, fun h0 h1 => ?_⟩
    · have hi : 0 < i := by omega
      dsimp only
      rw [if_pos ⟨hi, (key hi).mpr h2⟩]
      simp only [Prod.mk.injEq]; omega
    · dsimp only
      rw [if_neg (fun ⟨hi, h2⟩ => h1 ⟨by omega, (key hi).mp h2⟩)]
      simp only [Prod.mk.injEq]; omega

local macro_rules | `(tactic| walk_at "getMethod bytes") => `(tactic| (k_here; (with_reducible refine meth_find ?_)))
local macro_rules | `(tactic| walk_at "call builtin:bytes.find") => `(tactic| (k_here; (refine find_L (by omega) (by omega) ?_); intro r9 t9 k9 hr9 hr8 hr7))
local macro_rules | `(tactic| walk_at "subscriptTail") => `(tactic| (k_here; (with_reducible show wpAny _ _ (subscriptTail _ _ (Value.bytes (List.toArray _) _) (Value.int _ _)) _ _ _); (refine item_B (by omega) (by omega) (by omega) ?_); intro v9 u9 n9 hv9))

set_option maxHeartbeats 4000000 in
theorem line_at_spec {w : World} {mean : ExcName → Option Value} {mg mb : Str → Option Value} {dp un : Nat} {fr : Option (List Env)} {gd : Option (List Code)} {s : Shared} {d : List UInt8} {at' : Nat} {t t1 t2 : Tok} {Q E : Value → Shared → Prop}
    (G : Gnd w mean mg mb s.heap) (hd : dp + 1 < recursionLimit) (h1 : at' ≤ d.length) (hz : d.length ≤ 1000000)
    (k : ∀ a h' i j t3 t4 n tk', i = (at' : Int) + (lineEnd (d.drop at')).1 → j = (at' : Int) + (lineEnd (d.drop at')).2 → Ext s.heap h' → s.heap.get? a = none →
      h'.get? a = some ⟨.type "tuple", none, .seq #[.int i t3, .int j t4] n, #[]⟩ → Q (.ref a) { s with heap := h', toks := tk' }) :
    wpAny (model Pg w) (Ar dp un fr gd) (call (.ref 74) [.bytes d.toArray t, .int (at' : Int) t1, .int (d.length : Int) t2]) Q E s := by
  refine wpAny_call ?_
  refine' enter [("data", .bytes d.toArray t), ("at", .int (at' : Int) t1), ("end", .int (d.length : Int) t2)] ?kG ?k6 ?k7 ?k8 ?k9 ?kB ?_ ?c2 ?c3 ?c4 ?c5
  walk_at "mine enter"
  intro h' F' N' X' T'
  k_fold
  k_steps
  all_goals rename_i N9 _
  all_goals (refine k _ _ _ _ _ _ _ _ ?_ ?_ (Fr.keep (by assumption)) (N9 _ (.head _)).2.2 (N9 _ (.head _)).1)
  all_goals (rename (_ = seekZ _ _ _) => hr; have hl := line_of h1 hr)
  all_goals (obtain ⟨l1, l2, l3⟩ := hl; first
    | (rw [l1 (by omega)]; dsimp only; omega)
    | (rw [l2 (by omega) (by omega) (by omega)]; dsimp only; omega)
    | (rw [l3 (by omega) (by omega)]; dsimp only; omega))
end
section
/-! L3 -/
local macro_rules | `(tactic| walk_at "mine pad0") => `(tactic| skip)
local macro_rules | `(tactic| walk_at "mine pad1") => `(tactic| skip)
local macro_rules | `(tactic| walk_at "mine pad2") => `(tactic| skip)
local macro_rules | `(tactic| walk_at "mine pad3") => `(tactic| skip)
local macro_rules | `(tactic| walk_at "mine pad4") => `(tactic| skip)
local macro_rules | `(tactic| walk_at "mine pad5") => `(tactic| skip)
local macro_rules | `(tactic| walk_at "mine pad6") => `(tactic| skip)
local macro_rules | `(tactic| walk_at "mine pad7") => `(tactic| skip)
local macro_rules | `(tactic| walk_at "mine pad8") => `(tactic| skip)
local macro_rules | `(tactic| walk_at "mine pad9") => `(tactic| skip)
local macro_rules | `(tactic| walk_at "mine pad10") => `(tactic| skip)
local macro_rules | `(tactic| walk_at "mine pad11") => `(tactic| skip)
local macro_rules | `(tactic| walk_at "mine pad12") => `(tactic| skip)
local macro_rules | `(tactic| walk_at "mine pad13") => `(tactic| skip)
local macro_rules | `(tactic| walk_at "mine pad14") => `(tactic| skip)
local macro_rules | `(tactic| walk_at "mine pad15") => `(tactic| skip)
local macro_rules | `(tactic| walk_at "mine pad16") => `(tactic| skip)
local macro_rules | `(tactic| walk_at "mine pad17") => `(tactic| skip)
local macro_rules | `(tactic| walk_at "mine pad18") => `(tactic| skip)
local macro_rules | `(tactic| walk_at "mine pad19") => `(tactic| skip)
local macro_rules | `(tactic| walk_at "mine pad20") => `(tactic| skip)
local macro_rules | `(tactic| walk_at "mine pad21") => `(tactic| skip)
local macro_rules | `(tactic| walk_at "mine pad22") => `(tactic| skip)
local macro_rules | `(tactic| walk_at "mine pad23") => `(tactic| skip)
local macro_rules | `(tactic| walk_at "mine pad24") => `(tactic| skip)
local macro_rules | `(tactic| walk_at "mine pad25") => `(tactic| skip)
local macro_rules | `(tactic| walk_at "mine pad26") => `(tactic| skip)
local macro_rules | `(tactic| walk_at "mine pad27") => `(tactic| skip)
local macro_rules | `(tactic| walk_at "mine pad28") => `(tactic| skip)
local macro_rules | `(tactic| walk_at "mine pad29") => `(tactic| skip)
local macro_rules | `(tactic| walk_at "mine pad30") => `(tactic| skip)
local macro_rules | `(tactic| walk_at "mine pad31") => `(tactic| skip)
local macro_rules | `(tactic| walk_at "mine pad32") => `(tactic| skip)
local macro_rules | `(tactic| walk_at "mine pad33") => `(tactic| skip)
local macro_rules | `(tactic| walk_at "mine pad34") => `(tactic| skip)
local macro_rules | `(tactic| walk_at "mine pad35") => `(tactic| skip)
local macro_rules | `(tactic| walk_at "mine pad36") => `(tactic| skip)
local macro_rules | `(tactic| walk_at "mine pad37") => `(tactic| skip)
local macro_rules | `(tactic| walk_at "mine pad38") => `(tactic| skip)
local macro_rules | `(tactic| walk_at "mine pad39") => `(tactic| skip)
local macro_rules | `(tactic| walk_at "mine pad40") => `(tactic| skip)
local macro_rules | `(tactic| walk_at "mine pad41") => `(tactic| skip)
local macro_rules | `(tactic| walk_at "mine pad42") => `(tactic| skip)
local macro_rules | `(tactic| walk_at "mine pad43") => `(tactic| skip)
local macro_rules | `(tactic| walk_at "mine pad44") => `(tactic| skip)
local macro_rules | `(tactic| walk_at "mine pad45") => `(tactic| skip)
local macro_rules | `(tactic| walk_at "mine pad46") => `(tactic| skip)
local macro_rules | `(tactic| walk_at "mine pad47") => `(tactic| skip)
local macro_rules | `(tactic| walk_at "mine pad48") => `(tactic| skip)
theorem off_L3 : True := by
  w_top off
  trivial
local macro_rules | `(tactic| k_room) => `(tactic| ((try simp only [depth_under_make, depth_under_kw, depth_in1, depth_deeper, depth_caller, Ar] at *); omega))
local macro_rules | `(tactic| walk_at "mine enter") => `(tactic| (
  (case kG => assumption); (case k6 => k_is); (case k7 => k_is); (case k8 => k_room); (case k9 => exact BindsTo.of_eq rfl); (case c5 => decide); (case kB => exact locs rfl); (case c2 => exact rfl); (case c3 => exact rfl); (case c4 => exact rfl)))

/-- whether a number may stand in a name -/
abbrev okC (k : Int) : Prop := ¬ (k < 33 ∨ k > 126 ∨ k = 58)
def nameOk (l : List UInt8) : Bool := l.all (fun c => decide (okC (c.toNat : Int))) && decide (0 < l.length)

theorem nameOk_false {l : List UInt8} {i : Nat} {n : Int} (h : (l.map fun c => (c.toNat : Int))[i]? = some n) (hn : ¬ okC n) : false = nameOk l := by
  unfold nameOk
  rw [List.getElem?_map] at h
  cases e : l[i]? with
  | none => rw [e] at h; cases h
  | some c =>
    rw [e] at h
    cases h
    have hm : c ∈ l := List.mem_of_getElem? e
    have : l.all (fun c => decide (okC (c.toNat : Int))) = false := by
      rw [List.all_eq_false]
      exact ⟨c, hm, by simpa using hn⟩
    rw [this]; rfl
theorem nameOk_true {l : List UInt8} (h : ∀ (j : Nat) (k : Int), j < (l.map fun c => (c.toNat : Int)).length → (l.map fun c => (c.toNat : Int))[j]? = some k → okC k) : decide (0 < (l.length : Int)) = nameOk l := by
  unfold nameOk
  have : l.all (fun c => decide (okC (c.toNat : Int))) = true := by
    rw [List.all_eq_true]
    intro c hc
    obtain ⟨i, hi⟩ := List.getElem?_of_mem hc
    have hlt : i < l.length := (List.getElem?_eq_some_iff.mp hi).1
    exact decide_eq_true (h i c.toNat (by rw [List.length_map]; exact hlt) (by rw [List.getElem?_map, hi]; rfl))
  rw [this, Bool.true_and]
  simp

set_option maxHeartbeats 4000000 in
theorem is_name_spec {w : World} {mean : ExcName → Option Value} {mg mb : Str → Option Value} {dp un : Nat} {fr : Option (List Env)} {gd : Option (List Code)} {s : Shared} {l : List UInt8} {t : Tok} {Q E : Value → Shared → Prop}
    (G : Gnd w mean mg mb s.heap) (hd : dp + 1 < recursionLimit) (hz : l.length ≤ 1000000)
    (k : ∀ h' tk', Ext s.heap h' → Q (.bool (nameOk l)) { s with heap := h', toks := tk' }) :
    wpAny (model Pg w) (Ar dp un fr gd) (call (.ref 81) [.bytes l.toArray t]) Q E s := by
  refine wpAny_call ?_
  refine' enter [("octets", .bytes l.toArray t)] ?kG ?k6 ?k7 ?k8 ?k9 ?kB ?_ ?c2 ?c3 ?c4 ?c5
  walk_at "mine enter"
  intro h' F' N' X' T'
  k_fold
  k_steps
  refine KBmo.iter_bytesN (ks := l.map fun c => (c.toNat : Int)) (fun i m nx => nx = [] ∧ (∀ z, z ≠ Str.ofString "code" → m z = [(Str.ofString "octets", Value.bytes l.toArray t)].reverse.lookup z) ∧ ∀ j k, j < i → (l.map fun c => (c.toNat : Int))[j]? = some k → okC k) rfl rfl (by assumption) (by assumption) ⟨rfl, fun _ _ => rfl, fun _ _ h => absurd h (Nat.not_lt_zero _)⟩ ?kturn ?kdone
  case kturn =>
    rintro i n tn m₁ nx h₁ tk₁ own hn h0 h1 hoff ⟨rfl, hm, hok⟩ F₁ N₁
    k_fold
    k_steps
    · rw [nameOk_false hn (fun h => h (.inl (by assumption)))]; exact k _ _ F₁.keep
    · rw [nameOk_false hn (fun h => h (.inr (.inl (by assumption))))]; exact k _ _ F₁.keep
    · rw [nameOk_false hn (fun h => h (.inr (.inr (by assumption))))]; exact k _ _ F₁.keep
    · refine InvEndN.intro (nx := []) F₁ N₁ ⟨rfl, ?_, ?_⟩ rfl (fun _ h => nomatch h) (fun p hp => hp)
      · intro z hz
        show (if z = _ then _ else m₁ z) = _
        rw [if_neg hz]; exact hm z hz
      · intro j k hj hk
        rcases Nat.lt_or_ge j i with h | h
        · exact hok j k h hk
        · have : j = i := by omega
          subst this
          rw [hn] at hk
          cases hk
          rintro (h | h | h)
          · exact absurd h (by assumption)
          · exact absurd h (by assumption)
          · exact absurd h (by assumption)
  case kdone =>
    rintro m₁ nx h₁ tk₁ ⟨rfl, hm, hok⟩ F₁ N₁
    have e : m₁ = fun z => if z = Str.ofString "code" then m₁ z else [(Str.ofString "octets", Value.bytes l.toArray t)].reverse.lookup z := by
      funext z
      by_cases hz : z = Str.ofString "code"
      · rw [if_pos hz]
      · rw [if_neg hz]; exact hm z hz
    rw [e] at F₁
    k_steps
    rw [List.size_toArray, nameOk_true hok]; exact k _ _ F₁.keep
end
section
/-! L4 -/
local macro_rules | `(tactic| walk_at "mine pad0") => `(tactic| skip)
local macro_rules | `(tactic| walk_at "mine pad1") => `(tactic| skip)
local macro_rules | `(tactic| walk_at "mine pad2") => `(tactic| skip)
local macro_rules | `(tactic| walk_at "mine pad3") => `(tactic| skip)
local macro_rules | `(tactic| walk_at "mine pad4") => `(tactic| skip)
local macro_rules | `(tactic| walk_at "mine pad5") => `(tactic| skip)
local macro_rules | `(tactic| walk_at "mine pad6") => `(tactic| skip)
local macro_rules | `(tactic| walk_at "mine pad7") => `(tactic| skip)
local macro_rules | `(tactic| walk_at "mine pad8") => `(tactic| skip)
local macro_rules | `(tactic| walk_at "mine pad9") => `(tactic| skip)
local macro_rules | `(tactic| walk_at "mine pad10") => `(tactic| skip)
local macro_rules | `(tactic| walk_at "mine pad11") => `(tactic| skip)
local macro_rules | `(tactic| walk_at "mine pad12") => `(tactic| skip)
local macro_rules | `(tactic| walk_at "mine pad13") => `(tactic| skip)
local macro_rules | `(tactic| walk_at "mine pad14") => `(tactic| skip)
local macro_rules | `(tactic| walk_at "mine pad15") => `(tactic| skip)
local macro_rules | `(tactic| walk_at "mine pad16") => `(tactic| skip)
local macro_rules | `(tactic| walk_at "mine pad17") => `(tactic| skip)
local macro_rules | `(tactic| walk_at "mine pad18") => `(tactic| skip)
local macro_rules | `(tactic| walk_at "mine pad19") => `(tactic| skip)
local macro_rules | `(tactic| walk_at "mine pad20") => `(tactic| skip)
local macro_rules | `(tactic| walk_at "mine pad21") => `(tactic| skip)
local macro_rules | `(tactic| walk_at "mine pad22") => `(tactic| skip)
local macro_rules | `(tactic| walk_at "mine pad23") => `(tactic| skip)
local macro_rules | `(tactic| walk_at "mine pad24") => `(tactic| skip)
local macro_rules | `(tactic| walk_at "mine pad25") => `(tactic| skip)
local macro_rules | `(tactic| walk_at "mine pad26") => `(tactic| skip)
local macro_rules | `(tactic| walk_at "mine pad27") => `(tactic| skip)
local macro_rules | `(tactic| walk_at "mine pad28") => `(tactic| skip)
local macro_rules | `(tactic| walk_at "mine pad29") => `(tactic| skip)
local macro_rules | `(tactic| walk_at "mine pad30") => `(tactic| skip)
local macro_rules | `(tactic| walk_at "mine pad31") => `(tactic| skip)
local macro_rules | `(tactic| walk_at "mine pad32") => `(tactic| skip)
local macro_rules | `(tactic| walk_at "mine pad33") => `(tactic| skip)
local macro_rules | `(tactic| walk_at "mine pad34") => `(tactic| skip)
local macro_rules | `(tactic| walk_at "mine pad35") => `(tactic| skip)
local macro_rules | `(tactic| walk_at "mine pad36") => `(tactic| skip)
local macro_rules | `(tactic| walk_at "mine pad37") => `(tactic| skip)
local macro_rules | `(tactic| walk_at "mine pad38") => `(tactic| skip)
local macro_rules | `(tactic| walk_at "mine pad39") => `(tactic| skip)
local macro_rules | `(tactic| walk_at "mine pad40") => `(tactic| skip)
local macro_rules | `(tactic| walk_at "mine pad41") => `(tactic| skip)
local macro_rules | `(tactic| walk_at "mine pad42") => `(tactic| skip)
local macro_rules | `(tactic| walk_at "mine pad43") => `(tactic| skip)
local macro_rules | `(tactic| walk_at "mine pad44") => `(tactic| skip)
local macro_rules | `(tactic| walk_at "mine pad45") => `(tactic| skip)
theorem off_L4 : True := by
  w_top off
  trivial
local macro_rules | `(tactic| k_room) => `(tactic| ((try simp only [depth_under_make, depth_under_kw, depth_in1, depth_deeper, depth_caller, Ar] at *); omega))
local macro_rules | `(tactic| walk_at "mine enter") => `(tactic| (
  (case kG => assumption); (case k6 => k_is); (case k7 => k_is); (case k8 => k_room); (case k9 => exact BindsTo.of_eq rfl); (case c5 => decide); (case kB => exact locs rfl); (case c2 => exact rfl); (case c3 => exact rfl); (case c4 => exact rfl)))

/-- where the colon behind a name stands in the text's first row, -1 for none -/
def colonAt (l : List UInt8) : Option Nat := match seek 58 0 l with
  | none => none
  | some i => if nameOk (l.take i) = true then some i else none

local macro_rules | `(tactic| walk_at "getMethod bytes") => `(tactic| (k_here; (with_reducible refine meth_find ?_)))
local macro_rules | `(tactic| walk_at "call builtin:bytes.find") => `(tactic| (k_here; (refine find_L (by omega) (by omega) ?_); intro r9 t9 k9 hr9 hr8 hr7))
local macro_rules | `(tactic| walk_at "subscriptTail") => `(tactic| (k_here; (with_reducible show wpAny _ _ (subscriptTail _ (Expr.Slice _ _ none _) (Value.bytes _ _) (Value.ref _)) _ _ _); (with_reducible rename Fr _ _ _ _ => F'); (with_reducible rename News _ _ _ _ => N'); (refine slice_B (s := ⟨_, _, _, _, _⟩) F' N' (by omega) (by omega) (by omega) (by omega) ?_); intro x9 h9 t9 k9 hx9 F9 N9))

theorem is_name_use {w : World} {mean : ExcName → Option Value} {mg mb : Str → Option Value} {A : Around} {s : Shared} {l : List UInt8} {t : Tok} {Q E : Value → Shared → Prop} {h₀ : Heap} {L : Addr} {m : PySem.Str → Option Value} {news : List (Addr × Obj)}
    (X : (Mine.hd.heap_39 w.params).In h₀) (T : Top Mine.hd.view_39 Lo mean mg mb h₀) (F : Fr h₀ L s.heap m) (N : News h₀ L s.heap news) (hh : A.handled = none) (hd : A.depth + 1 < recursionLimit) (hz : l.length ≤ 1000000)
    (k : ∀ h' tk', Ext s.heap h' → Fr h₀ L h' m → News h₀ L h' news → Q (.bool (nameOk l)) { s with heap := h', toks := tk' }) :
    wpAny (model Pg w) A (call (.ref 81) [.bytes l.toArray t]) Q E s := by
  obtain ⟨hd', dp, fr, gd, un⟩ := A
  cases hh
  exact is_name_spec ⟨X.keeps F.keep, T.keeps F.keep⟩ hd hz fun h' tk' e => k h' tk' e (F.keeps e) (N.grown e)

local macro_rules | `(tactic| walk_at "call ref") => `(tactic| (k_here; k_dflt (refine' is_name_use ?k1 ?k2 ?k3 ?k4 ?k5 ?k6 ?k7 ?_; (case k1 => k_asm); (case k2 => k_asm); (case k3 => k_asm); (case k4 => k_asm); (case k5 => exact rfl); (case k6 => k_room); (case k7 => (try subst_vars); (try simp only [List.length_take, List.length_drop]); omega)); intro h9 k9 e9 F9 N9))

theorem colon_of {d : List UInt8} {p en : Nat} {r : Int} (h1 : p ≤ en) (h2 : en ≤ d.length) (hr : r = seekZ 58 p ((d.take en).drop p)) :
    (¬ 0 ≤ r → (-1 : Int) = match colonAt ((d.take en).drop p) with | some i => (p : Int) + i | none => -1) ∧
    (0 ≤ r → nameOk ((d.drop (p : Int).toNat).take (r.toNat - (p : Int).toNat)) = true → r = match colonAt ((d.take en).drop p) with | some i => (p : Int) + i | none => -1) ∧
    (0 ≤ r → nameOk ((d.drop (p : Int).toNat).take (r.toNat - (p : Int).toNat)) = false → (-1 : Int) = match colonAt ((d.take en).drop p) with | some i => (p : Int) + i | none => -1) := by
  have hs := seek_shift 58 ((d.take en).drop p) p 0
  rw [Nat.add_zero] at hs
  unfold seekZ at hr
  rw [hs] at hr
  unfold colonAt
  rw [Int.toNat_natCast]
  cases e : seek 58 0 ((d.take en).drop p) with
  | none =>
    rw [e] at hr
    simp only [Option.map_none] at hr
    exact ⟨fun _ => rfl, fun h => absurd h (by omega), fun h => absurd h (by omega)⟩
  | some i =>
    rw [e] at hr
    simp only [Option.map_some] at hr
    have hr' : r = (p : Int) + (i : Int) := by rw [hr]; exact Int.natCast_add p i
    have hlt := seek_lt _ _ _ _ e
    rw [List.length_drop, List.length_take, Nat.min_eq_left h2] at hlt
    have e1 : ((d.take en).drop p).take i = (d.drop p).take (r.toNat - p) := by
      rw [List.drop_take, List.take_take]
      congr 1; omega
    dsimp only
    rw [e1]
    refine ⟨fun h => absurd (show 0 ≤ r by omega) h, fun h hn => ?_, fun h hn => ?_⟩
    · rw [if_pos hn]; dsimp only; omega
    · rw [hn, if_neg Bool.false_ne_true]

set_option maxHeartbeats 4000000 in
theorem colon_in_spec {w : World} {mean : ExcName → Option Value} {mg mb : Str → Option Value} {dp un : Nat} {fr : Option (List Env)} {gd : Option (List Code)} {s : Shared} {d : List UInt8} {at' en : Nat} {t t1 t2 : Tok} {Q E : Value → Shared → Prop}
    (G : Gnd w mean mg mb s.heap) (hd : dp + 2 < recursionLimit) (h1 : at' ≤ en) (h2 : en ≤ d.length) (hz : d.length ≤ 1000000)
    (k : ∀ h' r t' tk', r = (match colonAt ((d.take en).drop at') with | some i => (at' : Int) + i | none => -1) → Ext s.heap h' → Q (.int r t') { s with heap := h', toks := tk' }) :
    wpAny (model Pg w) (Ar dp un fr gd) (call (.ref 88) [.bytes d.toArray t, .int (at' : Int) t1, .int (en : Int) t2]) Q E s := by
  refine wpAny_call ?_
  refine' enter [("data", .bytes d.toArray t), ("at", .int (at' : Int) t1), ("end", .int (en : Int) t2)] ?kG ?k6 ?k7 ?k8 ?k9 ?kB ?_ ?c2 ?c3 ?c4 ?c5
  walk_at "mine enter"
  intro h' F' N' X' T'
  k_fold
  k_steps
  all_goals (rename (_ = seekZ _ _ _) => hr; obtain ⟨l1, l2, l3⟩ := colon_of h1 h2 hr; (try subst_vars); first
    | exact k _ _ _ _ (l2 (by assumption) (by assumption)) (Fr.keep (by assumption))
    | exact k _ _ _ _ (l3 (by assumption) (by assumption)) (Fr.keep (by assumption))
    | (dsimp only; exact k _ _ _ _ (l1 (by assumption)) (Fr.keep (by assumption))))
end
section
/-! L5 -/
local macro_rules | `(tactic| walk_at "mine pad0") => `(tactic| skip)
local macro_rules | `(tactic| walk_at "mine pad1") => `(tactic| skip)
local macro_rules | `(tactic| walk_at "mine pad2") => `(tactic| skip)
local macro_rules | `(tactic| walk_at "mine pad3") => `(tactic| skip)
local macro_rules | `(tactic| walk_at "mine pad4") => `(tactic| skip)
local macro_rules | `(tactic| walk_at "mine pad5") => `(tactic| skip)
local macro_rules | `(tactic| walk_at "mine pad6") => `(tactic| skip)
local macro_rules | `(tactic| walk_at "mine pad7") => `(tactic| skip)
local macro_rules | `(tactic| walk_at "mine pad8") => `(tactic| skip)
local macro_rules | `(tactic| walk_at "mine pad9") => `(tactic| skip)
local macro_rules | `(tactic| walk_at "mine pad10") => `(tactic| skip)
local macro_rules | `(tactic| walk_at "mine pad11") => `(tactic| skip)
local macro_rules | `(tactic| walk_at "mine pad12") => `(tactic| skip)
local macro_rules | `(tactic| walk_at "mine pad13") => `(tactic| skip)
local macro_rules | `(tactic| walk_at "mine pad14") => `(tactic| skip)
local macro_rules | `(tactic| walk_at "mine pad15") => `(tactic| skip)
local macro_rules | `(tactic| walk_at "mine pad16") => `(tactic| skip)
local macro_rules | `(tactic| walk_at "mine pad17") => `(tactic| skip)
local macro_rules | `(tactic| walk_at "mine pad18") => `(tactic| skip)
local macro_rules | `(tactic| walk_at "mine pad19") => `(tactic| skip)
local macro_rules | `(tactic| walk_at "mine pad20") => `(tactic| skip)
local macro_rules | `(tactic| walk_at "mine pad21") => `(tactic| skip)
local macro_rules | `(tactic| walk_at "mine pad22") => `(tactic| skip)
local macro_rules | `(tactic| walk_at "mine pad23") => `(tactic| skip)
local macro_rules | `(tactic| walk_at "mine pad24") => `(tactic| skip)
local macro_rules | `(tactic| walk_at "mine pad25") => `(tactic| skip)
local macro_rules | `(tactic| walk_at "mine pad26") => `(tactic| skip)
local macro_rules | `(tactic| walk_at "mine pad27") => `(tactic| skip)
local macro_rules | `(tactic| walk_at "mine pad28") => `(tactic| skip)
local macro_rules | `(tactic| walk_at "mine pad29") => `(tactic| skip)
local macro_rules | `(tactic| walk_at "mine pad30") => `(tactic| skip)
local macro_rules | `(tactic| walk_at "mine pad31") => `(tactic| skip)
local macro_rules | `(tactic| walk_at "mine pad32") => `(tactic| skip)
local macro_rules | `(tactic| walk_at "mine pad33") => `(tactic| skip)
local macro_rules | `(tactic| walk_at "mine pad34") => `(tactic| skip)
local macro_rules | `(tactic| walk_at "mine pad35") => `(tactic| skip)
local macro_rules | `(tactic| walk_at "mine pad36") => `(tactic| skip)
local macro_rules | `(tactic| walk_at "mine pad37") => `(tactic| skip)
local macro_rules | `(tactic| walk_at "mine pad38") => `(tactic| skip)
local macro_rules | `(tactic| walk_at "mine pad39") => `(tactic| skip)
local macro_rules | `(tactic| walk_at "mine pad40") => `(tactic| skip)
local macro_rules | `(tactic| walk_at "mine pad41") => `(tactic| skip)
local macro_rules | `(tactic| walk_at "mine pad42") => `(tactic| skip)
local macro_rules | `(tactic| walk_at "mine pad43") => `(tactic| skip)
local macro_rules | `(tactic| walk_at "mine pad44") => `(tactic| skip)
local macro_rules | `(tactic| walk_at "mine pad45") => `(tactic| skip)
local macro_rules | `(tactic| walk_at "mine pad46") => `(tactic| skip)
local macro_rules | `(tactic| walk_at "mine pad47") => `(tactic| skip)
theorem off_L5 : True := by
  w_top off
  trivial
local macro_rules | `(tactic| k_room) => `(tactic| ((try simp only [depth_under_make, depth_under_kw, depth_in1, depth_deeper, depth_caller, Ar] at *); omega))
local macro_rules | `(tactic| walk_at "mine enter") => `(tactic| (
  (case kG => assumption); (case k6 => k_is); (case k7 => k_is); (case k8 => k_room); (case k9 => exact BindsTo.of_eq rfl); (case c5 => decide); (case kB => exact locs rfl); (case c2 => exact rfl); (case c3 => exact rfl); (case c4 => exact rfl)))
local macro_rules | `(tactic| walk_at "eval Name") => `(tactic| (k_here; (with_reducible rename Fr _ _ _ _ => kF); k_dflt (first
  | (refine' nameG_L ?a ?b ?_ ?c ?d ?e; (case a => assumption); (case b => assumption); (case c => rfl); (case d => rfl); (case e => decide); k_whole)
  | (refine' nameG_K kF ?k1 ?k2 ?k3 ?_ ?k4 ?k5 ?k6 ?k7; (case k4 => rfl); (case k5 => rfl); (case k6 => rfl); (case k7 => decide); (case k1 => k_asm); (case k2 => k_asm); (case k3 => k_is); k_whole)
  | (refine' nameG_B kF ?k1 ?k2 ?k3 ?kv ?kn ?_ ?k4 ?k8 ?k5 ?k6 ?k7; (case k4 => rfl); (case k8 => rfl); (case k5 => rfl); (case k6 => rfl); (case k7 => decide); (case kn => decide); (case k1 => k_asm); (case k2 => k_asm); (case k3 => k_is); (case kv => boot_by_name); k_whole))))
theorem lower_code_use {w : World} {mean : ExcName → Option Value} {mg mb : Str → Option Value} {A : Around} {s : Shared} {c : Int} {t : Tok} {Q E : Value → Shared → Prop} {h₀ : Heap} {L : Addr} {m : PySem.Str → Option Value} {news : List (Addr × Obj)}
    (X : (Mine.hd.heap_39 w.params).In h₀) (T : Top Mine.hd.view_39 Lo mean mg mb h₀) (F : Fr h₀ L s.heap m) (N : News h₀ L s.heap news) (hh : A.handled = none) (hd : A.depth + 1 < recursionLimit)
    (k : ∀ h' r t' tk', Ext s.heap h' → r = lowC c → Fr h₀ L h' m → News h₀ L h' news → Q (.int r t') { s with heap := h', toks := tk' }) :
    wpAny (model Pg w) A (call (.ref 28) [.int c t]) Q E s := by
  obtain ⟨hd', dp, fr, gd, un⟩ := A
  cases hh
  exact lower_code_spec ⟨X.keeps F.keep, T.keeps F.keep⟩ hd fun h' r t' tk' e x => k h' r t' tk' x e (F.keeps x) (N.grown x)

/-- signs one by one -/
theorem strs_of (f : Nat → Nat) : ∀ {vs ys : List Value} {l : List Nat}, Paired (fun v y => ∃ c t t', v = Value.str ⟨#[c]⟩ t ∧ y = Value.str ⟨#[f c]⟩ t') vs ys → vs.length = l.length →
    (∀ (j : Nat) (v : Value), vs[j]? = some v → ∃ c u, l[j]? = some c ∧ v = .str ⟨#[c]⟩ u) → StrsAre ys (l.map fun c => (⟨#[f c]⟩ : PySem.Str))
  | _, _, [], .nil, _, _ => .nil
  | _, _, _ :: _, .nil, h, _ => by simp at h
  | _, _, [], .cons _ _, h, _ => by simp at h
  | v :: vs, y :: ys, a :: l, .cons h1 h2, hl, hP => by
    obtain ⟨c, t, t', rfl, rfl⟩ := h1
    obtain ⟨c', u, e1, e2⟩ := hP 0 _ rfl
    simp at e1; subst e1
    have : c = a := by injection e2 with q _; injection q with q; simpa using q
    subst this
    exact .cons _ _ (strs_of f h2 (by simpa using hl) fun j v hj => hP (j + 1) v (by simpa using hj))
theorem fold_signs : ∀ (l : List Nat) (acc : Array Nat), (l.map fun c => (⟨#[c]⟩ : PySem.Str)).foldl (fun acc p => acc ++ (PySem.Str.ofString "").cps ++ p.cps) acc = acc ++ l.toArray
  | [], acc => by simp
  | c :: l, acc => by
    have e : (PySem.Str.ofString "").cps = #[] := rfl
    rw [List.map_cons, List.foldl_cons, fold_signs l, e]
    simp
theorem join_signs (l : List Nat) : Txt.join (PySem.Str.ofString "") (l.map fun c => (⟨#[c]⟩ : PySem.Str)) = ⟨l.toArray⟩ := by
  show Builtin.Str.glued _ _ = _
  unfold Builtin.Str.glued
  cases l with
  | nil => rfl
  | cons c l =>
    rw [List.map_cons, List.drop_succ_cons, List.drop_zero, List.headD_cons, fold_signs]
    simp
theorem sum_ones : ∀ l : List Nat, ((l.map fun c => (⟨#[c]⟩ : PySem.Str)).map (·.length)).sum = l.length
  | [] => rfl
  | c :: l => by
    have e : (⟨#[c]⟩ : PySem.Str).length = 1 := rfl
    rw [List.map_cons, List.map_cons, List.sum_cons, sum_ones l, e, List.length_cons]; omega

/-- the small letter for a code -/
def lowN (c : Nat) : Nat := if 65 ≤ c ∧ c ≤ 90 then c + 32 else c
theorem lowC_nat (c : Nat) : lowC (c : Int) = ((lowN c : Nat) : Int) := by
  unfold lowC lowN
  by_cases h : 65 ≤ c ∧ c ≤ 90
  · rw [if_pos h, if_pos (by omega)]; omega
  · rw [if_neg h, if_neg (by omega)]

section
local macro_rules | `(tactic| walk_at "call ref") => `(tactic| (k_here; k_dflt (refine' lower_code_use ?k1 ?k2 ?k3 ?k4 ?k5 ?k6 ?_; (case k1 => k_asm); (case k2 => k_asm); (case k3 => k_asm); (case k4 => k_asm); (case k5 => exact rfl); (case k6 => k_room)); intro h9 r9 t9 k9 e9 hr9 F9 N9))
local macro_rules | `(tactic| walk_at "eval ListComp") => `(tactic| (k_here; refine comp_K (fun _ => true) (fun v y => ∃ c t t', v = Value.str ⟨#[c]⟩ t ∧ y = Value.str ⟨#[lowN c]⟩ t') (by decide) (by decide) rfl (by decide) rfl ?_ (fun _ => rfl)))

set_option maxHeartbeats 4000000 in
theorem lower_text_spec {w : World} {mean : ExcName → Option Value} {mg mb : Str → Option Value} {dp un : Nat} {fr : Option (List Env)} {gd : Option (List Code)} {s : Shared} {x : PySem.Str} {t : Tok} {Q E : Value → Shared → Prop}
    (G : Gnd w mean mg mb s.heap) (hd : dp + 2 < recursionLimit) (hz : x.length ≤ 100000) (ha : ∀ c ∈ x.cps, c < 256)
    (k : ∀ h' t' tk', Ext s.heap h' → Q (.str ⟨x.cps.map lowN⟩ t') { s with heap := h', toks := tk' }) :
    wpAny (model Pg w) (Ar dp un fr gd) (call (.ref 33) [.str x t]) Q E s := by
  refine wpAny_call ?_
  refine' enter [("text", .str x t)] ?kG ?k6 ?k7 ?k8 ?k9 ?kB ?_ ?c2 ?c3 ?c4 ?c5
  walk_at "mine enter"
  intro h' F' N' X' T'
  k_fold
  k_steps
  refine compK_str rfl (by rw [sizeLine_eq]; exact Nat.le_trans hz (by decide)) (tests_none fun C i v s₃ m₃ E' hP hn hm hk => ?elt) fun D h9 tk9 ys n vs hD hl hlen hP hR hk => ?fin
  case elt =>
    obtain ⟨c, u, hc, rfl⟩ := hP
    have F₃ := F'.keeps hk
    have N₃ := N'.grown hk
    have h256 : c < 256 := ha c (Array.mem_of_getElem? hc)
    k_steps
    rename (_ = lowC _) => hr
    rename (Ext _ _) => hx
    rw [lowC_nat] at hr
    subst hr
    have hlow : lowN c < 300 := by unfold lowN; split <;> omega
    exact chr_of_range (by omega) (by omega) ⟨⟨c, u, _, rfl, rfl⟩, _, _, rfl, hx⟩
  case fin =>
    rw [List.filter_eq_self.mpr (fun _ _ => rfl)] at hR
    have hi := strs_of lowN hR (l := x.cps.toList) (by simpa using hlen) fun j v hj => by
      obtain ⟨c, u, h1, h2⟩ := hP j v hj
      exact ⟨c, u, by simpa using h1, h2⟩
    have e : (x.cps.toList.map fun c => (⟨#[lowN c]⟩ : PySem.Str)) = (x.cps.toList.map lowN).map fun c => (⟨#[c]⟩ : PySem.Str) := by rw [List.map_map]; rfl
    rw [e] at hi
    have hL : h9.IsList D ys := ⟨_, hl, rfl, n, rfl⟩
    k_steps
    refine join_listW (s := ⟨h9, _, _, _, _⟩) (x := PySem.Str.ofString "") hL hi (by decide) ?_ fun t' tk' => ?_
    · rw [sum_ones]
      simp only [List.length_map, Array.length_toList]
      have : x.cps.size = x.length := rfl
      omega
    · rw [join_signs]
      have := k h9 t' tk' fun b o q => hk b o (F'.keep b o q)
      have e2 : (x.cps.toList.map lowN).toArray = x.cps.map lowN := by rw [← Array.toList_map]
      rw [e2]; exact this
end
end
section
/-! L6 -/
local macro_rules | `(tactic| walk_at "mine pad0") => `(tactic| skip)
local macro_rules | `(tactic| walk_at "mine pad1") => `(tactic| skip)
local macro_rules | `(tactic| walk_at "mine pad2") => `(tactic| skip)
local macro_rules | `(tactic| walk_at "mine pad3") => `(tactic| skip)
local macro_rules | `(tactic| walk_at "mine pad4") => `(tactic| skip)
local macro_rules | `(tactic| walk_at "mine pad5") => `(tactic| skip)
local macro_rules | `(tactic| walk_at "mine pad6") => `(tactic| skip)
local macro_rules | `(tactic| walk_at "mine pad7") => `(tactic| skip)
local macro_rules | `(tactic| walk_at "mine pad8") => `(tactic| skip)
local macro_rules | `(tactic| walk_at "mine pad9") => `(tactic| skip)
local macro_rules | `(tactic| walk_at "mine pad10") => `(tactic| skip)
local macro_rules | `(tactic| walk_at "mine pad11") => `(tactic| skip)
local macro_rules | `(tactic| walk_at "mine pad12") => `(tactic| skip)
local macro_rules | `(tactic| walk_at "mine pad13") => `(tactic| skip)
local macro_rules | `(tactic| walk_at "mine pad14") => `(tactic| skip)
local macro_rules | `(tactic| walk_at "mine pad15") => `(tactic| skip)
local macro_rules | `(tactic| walk_at "mine pad16") => `(tactic| skip)
local macro_rules | `(tactic| walk_at "mine pad17") => `(tactic| skip)
local macro_rules | `(tactic| walk_at "mine pad18") => `(tactic| skip)
local macro_rules | `(tactic| walk_at "mine pad19") => `(tactic| skip)
local macro_rules | `(tactic| walk_at "mine pad20") => `(tactic| skip)
local macro_rules | `(tactic| walk_at "mine pad21") => `(tactic| skip)
local macro_rules | `(tactic| walk_at "mine pad22") => `(tactic| skip)
local macro_rules | `(tactic| walk_at "mine pad23") => `(tactic| skip)
local macro_rules | `(tactic| walk_at "mine pad24") => `(tactic| skip)
local macro_rules | `(tactic| walk_at "mine pad25") => `(tactic| skip)
local macro_rules | `(tactic| walk_at "mine pad26") => `(tactic| skip)
local macro_rules | `(tactic| walk_at "mine pad27") => `(tactic| skip)
local macro_rules | `(tactic| walk_at "mine pad28") => `(tactic| skip)
local macro_rules | `(tactic| walk_at "mine pad29") => `(tactic| skip)
local macro_rules | `(tactic| walk_at "mine pad30") => `(tactic| skip)
local macro_rules | `(tactic| walk_at "mine pad31") => `(tactic| skip)
local macro_rules | `(tactic| walk_at "mine pad32") => `(tactic| skip)
local macro_rules | `(tactic| walk_at "mine pad33") => `(tactic| skip)
local macro_rules | `(tactic| walk_at "mine pad34") => `(tactic| skip)
local macro_rules | `(tactic| walk_at "mine pad35") => `(tactic| skip)
local macro_rules | `(tactic| walk_at "mine pad36") => `(tactic| skip)
local macro_rules | `(tactic| walk_at "mine pad37") => `(tactic| skip)
local macro_rules | `(tactic| walk_at "mine pad38") => `(tactic| skip)
local macro_rules | `(tactic| walk_at "mine pad39") => `(tactic| skip)
local macro_rules | `(tactic| walk_at "mine pad40") => `(tactic| skip)
local macro_rules | `(tactic| walk_at "mine pad41") => `(tactic| skip)
local macro_rules | `(tactic| walk_at "mine pad42") => `(tactic| skip)
local macro_rules | `(tactic| walk_at "mine pad43") => `(tactic| skip)
local macro_rules | `(tactic| walk_at "mine pad44") => `(tactic| skip)
local macro_rules | `(tactic| walk_at "mine pad45") => `(tactic| skip)
local macro_rules | `(tactic| walk_at "mine pad46") => `(tactic| skip)
local macro_rules | `(tactic| walk_at "mine pad47") => `(tactic| skip)
local macro_rules | `(tactic| walk_at "mine pad48") => `(tactic| skip)
local macro_rules | `(tactic| walk_at "mine pad49") => `(tactic| skip)
theorem off_L6 : True := by
  w_top off
  trivial
local macro_rules | `(tactic| k_room) => `(tactic| ((try simp only [depth_under_make, depth_under_kw, depth_in1, depth_deeper, depth_caller, Ar] at *); omega))
local macro_rules | `(tactic| walk_at "mine enter") => `(tactic| (
  (case kG => assumption); (case k6 => k_is); (case k7 => k_is); (case k8 => k_room); (case k9 => exact BindsTo.of_eq rfl); (case c5 => decide); (case kB => exact locs rfl); (case c2 => exact rfl); (case c3 => exact rfl); (case c4 => exact rfl)))
local macro_rules | `(tactic| walk_at "eval Name") => `(tactic| (k_here; (with_reducible rename Fr _ _ _ _ => kF); k_dflt (first
  | (refine' nameG_L ?a ?b ?_ ?c ?d ?e; (case a => assumption); (case b => assumption); (case c => rfl); (case d => rfl); (case e => decide); k_whole)
  | (refine' nameG_K kF ?k1 ?k2 ?k3 ?_ ?k4 ?k5 ?k6 ?k7; (case k4 => rfl); (case k5 => rfl); (case k6 => rfl); (case k7 => decide); (case k1 => k_asm); (case k2 => k_asm); (case k3 => k_is); k_whole)
  | (refine' nameG_B kF ?k1 ?k2 ?k3 ?kv ?kn ?_ ?k4 ?k8 ?k5 ?k6 ?k7; (case k4 => rfl); (case k8 => rfl); (case k5 => rfl); (case k6 => rfl); (case k7 => decide); (case kn => decide); (case k1 => k_asm); (case k2 => k_asm); (case k3 => k_is); (case kv => boot_by_name); k_whole))))

/-- a Field of the heap -/
def IsField (P : Params) (h : Heap) (v : Value) (nm rw : List UInt8) : Prop :=
  ∃ (x dx : Addr) (t1 t2 t3 t4 : Tok), v = .ref x ∧ h.get? x = some (instObj 63 dx) ∧ h.get? dx = some (dictOf [⟨PyData.keyHash P (Str.ofString "name"), .str (Str.ofString "name") t1, .bytes nm.toArray t2⟩, ⟨PyData.keyHash P (Str.ofString "raw"), .str (Str.ofString "raw") t3, .bytes rw.toArray t4⟩] 2)
theorem IsField.keeps {P : Params} {h h' : Heap} {v : Value} {nm rw : List UInt8} (x : IsField P h v nm rw) (k : Ext h h') : IsField P h' v nm rw :=
  let ⟨a, d, t1, t2, t3, t4, e, h1, h2⟩ := x; ⟨a, d, t1, t2, t3, t4, e, k _ _ h1, k _ _ h2⟩
theorem inst_of {h₀ h : Heap} {x dx : Addr} {od : Obj} (h1 : h₀.get? x = some (instObj 63 dx)) (h2 : h₀.get? dx = some od) (k : Ext h₀ h) : InstAt h x (instObj 63 dx) 63 (some od) := ⟨k _ _ h1, rfl, rfl, k _ _ h2⟩

theorem lower_text_use {w : World} {mean : ExcName → Option Value} {mg mb : Str → Option Value} {A : Around} {s : Shared} {x : PySem.Str} {t : Tok} {Q E : Value → Shared → Prop} {h₀ : Heap} {L : Addr} {m : PySem.Str → Option Value} {news : List (Addr × Obj)}
    (X : (Mine.hd.heap_39 w.params).In h₀) (T : Top Mine.hd.view_39 Lo mean mg mb h₀) (F : Fr h₀ L s.heap m) (N : News h₀ L s.heap news) (hh : A.handled = none) (hd : A.depth + 2 < recursionLimit) (hz : x.length ≤ 100000) (ha : ∀ c ∈ x.cps, c < 256)
    (k : ∀ h' t' tk', Ext s.heap h' → Fr h₀ L h' m → News h₀ L h' news → Q (.str ⟨x.cps.map lowN⟩ t') { s with heap := h', toks := tk' }) :
    wpAny (model Pg w) A (call (.ref 33) [.str x t]) Q E s := by
  obtain ⟨hd', dp, fr, gd, un⟩ := A
  cases hh
  exact lower_text_spec ⟨X.keeps F.keep, T.keeps F.keep⟩ hd hz ha fun h' t' tk' x => k h' t' tk' x (F.keeps x) (N.grown x)

theorem strs_of_bytes : ∀ {vs ys : List Value} {l : List UInt8}, Paired (fun v y => ∃ (c : Nat) (t t' : Tok), v = Value.int (c : Int) t ∧ y = Value.str ⟨#[c]⟩ t') vs ys → vs.length = l.length →
    (∀ (j : Nat) (v : Value), vs[j]? = some v → ByteAt l j v) → StrsAre ys ((l.map UInt8.toNat).map fun c => (⟨#[c]⟩ : PySem.Str))
  | _, _, [], .nil, _, _ => .nil
  | _, _, _ :: _, .nil, h, _ => by simp at h
  | _, _, [], .cons _ _, h, _ => by simp at h
  | v :: vs, y :: ys, a :: l, .cons h1 h2, hl, hP => by
    obtain ⟨c, t, t', rfl, rfl⟩ := h1
    obtain ⟨c', u, e1, e2⟩ := hP 0 _ rfl
    simp at e1; subst e1
    have : c = a.toNat := by injection e2 with q _; exact Int.ofNat.inj q
    subst this
    exact .cons _ _ (strs_of_bytes h2 (by simpa using hl) fun j v hj => by
      obtain ⟨c, u, h1, h2⟩ := hP (j + 1) v (by simpa using hj)
      exact ⟨c, u, by simpa using h1, h2⟩)

/-- a name in small letters -/
def wordOf (nm : List UInt8) : PySem.Str := ⟨((nm.map UInt8.toNat).toArray.map lowN)⟩

section
local macro_rules | `(tactic| k_inst) => `(tactic| (refine' inst_of ?a ?b (Fr.keep (by assumption)); (case a => assumption); (case b => assumption)))
local macro_rules | `(tactic| walk_at "eval ListComp") => `(tactic| (k_here; refine comp_K (fun _ => true) (fun v y => ∃ (c : Nat) (t t' : Tok), v = Value.int (c : Int) t ∧ y = Value.str ⟨#[c]⟩ t') (by decide) (by decide) rfl (by decide) rfl ?_ (fun _ => rfl)))

set_option maxHeartbeats 4000000 in
theorem word_spec {w : World} {mean : ExcName → Option Value} {mg mb : Str → Option Value} {dp un : Nat} {fr : Option (List Env)} {gd : Option (List Code)} {s : Shared} {v : Value} {nm rw : List UInt8} {Q E : Value → Shared → Prop}
    (G : Gnd w mean mg mb s.heap) (hd : dp + 3 < recursionLimit) (hz : nm.length ≤ 100000) (hf : IsField w.params s.heap v nm rw)
    (k : ∀ h' t' tk', Ext s.heap h' → Q (.str (wordOf nm) t') { s with heap := h', toks := tk' }) :
    wpAny (model Pg w) (Ar dp un fr gd) (call (.ref 53) [v]) Q E s := by
  obtain ⟨x, dx, t1, t2, t3, t4, rfl, hx, hdx⟩ := hf
  refine wpAny_call ?_
  refine' enter [("self", .ref x)] ?kG ?k6 ?k7 ?k8 ?k9 ?kB ?_ ?c2 ?c3 ?c4 ?c5
  walk_at "mine enter"
  intro h' F' N' X' T'
  k_fold
  k_steps
  refine compK_bytes rfl (by rw [sizeLine_eq]; exact Nat.le_trans hz (by decide)) (tests_none fun C i v s₃ m₃ E' hP hn hm hk => ?elt) fun D h9 tk9 ys n vs hD hl hlen hP hR hk => ?fin
  case elt =>
    obtain ⟨c, u, hc, rfl⟩ := hP
    have F₃ := Fr.keeps (by assumption) hk
    have N₃ := N'.grown hk
    have h256 : c.toNat < 256 := c.toNat_lt
    k_steps
    exact ⟨s₃.heap, _, rfl, fun _ _ e => e⟩
  case fin =>
    rw [List.filter_eq_self.mpr (fun _ _ => rfl)] at hR
    have hi := strs_of_bytes hR (l := nm) hlen hP
    have hL : h9.IsList D ys := ⟨_, hl, rfl, n, rfl⟩
    have F₃ := Fr.keeps (by assumption) hk
    have N₃ := N'.grown hk
    k_steps
    refine join_listW (s := ⟨h9, _, _, _, _⟩) (x := PySem.Str.ofString "") hL hi (by decide) ?_ fun t' tk' => ?_
    · rw [sum_ones]
      simp only [List.length_map]
      omega
    · rw [join_signs]
      k_steps
      refine lower_text_use X' T' F₃ N₃ rfl (by k_room) ?_ ?_ fun h8 t8 k8 e8 F8 N8 => ?_
      · show (nm.map UInt8.toNat).toArray.size ≤ _
        simp only [List.size_toArray, List.length_map]; exact hz
      · intro c hc
        simp only [List.mem_toArray, List.mem_map] at hc
        obtain ⟨b, _, rfl⟩ := hc
        exact b.toNat_lt
      · exact k h8 t8 k8 F8.keep
end
end
section
/-! L7 -/
local macro_rules | `(tactic| walk_at "mine pad0") => `(tactic| skip)
local macro_rules | `(tactic| walk_at "mine pad1") => `(tactic| skip)
local macro_rules | `(tactic| walk_at "mine pad2") => `(tactic| skip)
local macro_rules | `(tactic| walk_at "mine pad3") => `(tactic| skip)
local macro_rules | `(tactic| walk_at "mine pad4") => `(tactic| skip)
local macro_rules | `(tactic| walk_at "mine pad5") => `(tactic| skip)
local macro_rules | `(tactic| walk_at "mine pad6") => `(tactic| skip)
local macro_rules | `(tactic| walk_at "mine pad7") => `(tactic| skip)
local macro_rules | `(tactic| walk_at "mine pad8") => `(tactic| skip)
local macro_rules | `(tactic| walk_at "mine pad9") => `(tactic| skip)
local macro_rules | `(tactic| walk_at "mine pad10") => `(tactic| skip)
local macro_rules | `(tactic| walk_at "mine pad11") => `(tactic| skip)
local macro_rules | `(tactic| walk_at "mine pad12") => `(tactic| skip)
local macro_rules | `(tactic| walk_at "mine pad13") => `(tactic| skip)
local macro_rules | `(tactic| walk_at "mine pad14") => `(tactic| skip)
local macro_rules | `(tactic| walk_at "mine pad15") => `(tactic| skip)
local macro_rules | `(tactic| walk_at "mine pad16") => `(tactic| skip)
local macro_rules | `(tactic| walk_at "mine pad17") => `(tactic| skip)
local macro_rules | `(tactic| walk_at "mine pad18") => `(tactic| skip)
local macro_rules | `(tactic| walk_at "mine pad19") => `(tactic| skip)
local macro_rules | `(tactic| walk_at "mine pad20") => `(tactic| skip)
local macro_rules | `(tactic| walk_at "mine pad21") => `(tactic| skip)
local macro_rules | `(tactic| walk_at "mine pad22") => `(tactic| skip)
local macro_rules | `(tactic| walk_at "mine pad23") => `(tactic| skip)
local macro_rules | `(tactic| walk_at "mine pad24") => `(tactic| skip)
local macro_rules | `(tactic| walk_at "mine pad25") => `(tactic| skip)
local macro_rules | `(tactic| walk_at "mine pad26") => `(tactic| skip)
local macro_rules | `(tactic| walk_at "mine pad27") => `(tactic| skip)
local macro_rules | `(tactic| walk_at "mine pad28") => `(tactic| skip)
local macro_rules | `(tactic| walk_at "mine pad29") => `(tactic| skip)
local macro_rules | `(tactic| walk_at "mine pad30") => `(tactic| skip)
local macro_rules | `(tactic| walk_at "mine pad31") => `(tactic| skip)
local macro_rules | `(tactic| walk_at "mine pad32") => `(tactic| skip)
local macro_rules | `(tactic| walk_at "mine pad33") => `(tactic| skip)
local macro_rules | `(tactic| walk_at "mine pad34") => `(tactic| skip)
local macro_rules | `(tactic| walk_at "mine pad35") => `(tactic| skip)
local macro_rules | `(tactic| walk_at "mine pad36") => `(tactic| skip)
local macro_rules | `(tactic| walk_at "mine pad37") => `(tactic| skip)
local macro_rules | `(tactic| walk_at "mine pad38") => `(tactic| skip)
local macro_rules | `(tactic| walk_at "mine pad39") => `(tactic| skip)
local macro_rules | `(tactic| walk_at "mine pad40") => `(tactic| skip)
local macro_rules | `(tactic| walk_at "mine pad41") => `(tactic| skip)
local macro_rules | `(tactic| walk_at "mine pad42") => `(tactic| skip)
local macro_rules | `(tactic| walk_at "mine pad43") => `(tactic| skip)
local macro_rules | `(tactic| walk_at "mine pad44") => `(tactic| skip)
local macro_rules | `(tactic| walk_at "mine pad45") => `(tactic| skip)
local macro_rules | `(tactic| walk_at "mine pad46") => `(tactic| skip)
local macro_rules | `(tactic| walk_at "mine pad47") => `(tactic| skip)
local macro_rules | `(tactic| walk_at "mine pad48") => `(tactic| skip)
local macro_rules | `(tactic| walk_at "mine pad49") => `(tactic| skip)
local macro_rules | `(tactic| walk_at "mine pad50") => `(tactic| skip)
local macro_rules | `(tactic| walk_at "mine pad51") => `(tactic| skip)
local macro_rules | `(tactic| walk_at "mine pad52") => `(tactic| skip)
theorem off_L7 : True := by
  w_top off
  trivial
local macro_rules | `(tactic| k_room) => `(tactic| ((try simp only [depth_under_make, depth_under_kw, depth_in1, depth_deeper, depth_caller, Ar] at *); omega))
local macro_rules | `(tactic| walk_at "eval Name") => `(tactic| (k_here; (with_reducible rename Fr _ _ _ _ => kF); k_dflt (first
  | (refine' nameG_L ?a ?b ?_ ?c ?d ?e; (case a => assumption); (case b => assumption); (case c => rfl); (case d => rfl); (case e => decide); k_whole)
  | (refine' nameG_K kF ?k1 ?k2 ?k3 ?_ ?k4 ?k5 ?k6 ?k7; (case k4 => rfl); (case k5 => rfl); (case k6 => rfl); (case k7 => decide); (case k1 => k_asm); (case k2 => k_asm); (case k3 => k_is); k_whole)
  | (refine' nameG_B kF ?k1 ?k2 ?k3 ?kv ?kn ?_ ?k4 ?k8 ?k5 ?k6 ?k7; (case k4 => rfl); (case k8 => rfl); (case k5 => rfl); (case k6 => rfl); (case k7 => decide); (case kn => decide); (case k1 => k_asm); (case k2 => k_asm); (case k3 => k_is); (case kv => boot_by_name); k_whole))))

/-- a turn's end -/
def Again (I : Nat → Shared → Prop) (n : Nat) (s : Shared) : Prop := ∃ n', n' < n ∧ I n' s
/-- a while by a statement of the state at each turn -/
theorem While_S {prog : Program} {w : World} {A : Around} {Q : Flow → Shared → Prop} {s : Shared} {env : Env} {test : Expr} {body : List Stmt} {pos : Pos} (I : Nat → Shared → Prop) (n₀ : Nat) (h0 : I n₀ s)
    (turn : ∀ n s₁, I n s₁ → wpAny (model prog w) A (isTrue test env (eval test env)) (fun b s₂ =>
        if b = true then wpAny (model prog w) A (execs body env) (fun f s₃ => match f with
          | .next | .cont => Again I n s₃
          | .brk => Q .next s₃
          | .ret v => Q (.ret v) s₃) (fun _ _ => False) s₂ else Q .next s₂) (fun _ _ => False) s₁) :
    wpAny (model prog w) A (exec (.While test body [] pos) env) Q (fun _ _ => False) s := by
  refine wpAny_While (codeAny_whileLoop I ?_ n₀ h0)
  intro n s₁ h₁
  refine wpAny_mono (turn n s₁ h₁) (fun b s₂ h₂ => ?_) (fun _ _ x => x.elim)
  cases b with
  | false =>
    simp only [Bool.false_eq_true, if_false] at h₂ ⊢
    exact wpAny_execs_nil h₂
  | true =>
    simp only [if_true] at h₂ ⊢
    refine wpAny_mono h₂ (fun f s₃ h₃ => ?_) (fun _ _ x => x.elim)
    cases f with
    | next => obtain ⟨n', hn, h⟩ := h₃; exact ⟨n', hn, h⟩
    | cont => obtain ⟨n', hn, h⟩ := h₃; exact ⟨n', hn, h⟩
    | brk => exact h₃
    | ret v => exact h₃

/-- an append that keeps the ledger -/
theorem append_L {prog : Program} {w : World} {A : Around} {E : Value → Shared → Prop} {s : Shared} {R : Addr} {its : Array Value} {n : Nat} {x : Value} {Q : Value → Shared → Prop} {h₀ : Heap} {L : Addr} {m : PySem.Str → Option Value} {news : List (Addr × Obj)}
    (F : Fr h₀ L s.heap m) (N : News h₀ L s.heap news) (hm : (R, listOf its n) ∈ news)
    (h : ∀ h', Fr h₀ L h' m → News h₀ L h' ((R, listOf (its.push x) (n + 1)) :: news.filter fun p => p.1 != R) → (∀ b o, b ≠ R → s.heap.get? b = some o → h'.get? b = some o) → Q .none { s with heap := h' }) (hsz : its.size ≤ 1000000) :
    wpAny (model prog w) A (call (.builtin "list.append") [.ref R, x]) Q E s := by
  obtain ⟨hl, hR, hn⟩ := N _ hm
  refine append_at (hsz := by rw [sizeLine_eq]; exact Nat.le_trans hsz (by decide)) hl fun h' hs ho' => ?_
  refine h h' (F.change hs hR hn) ?_ fun b _ hb e => (hs.2 b hb).trans e
  intro p hp
  rcases List.mem_cons.mp hp with rfl | hp
  · exact ⟨ho', hR, hn⟩
  · obtain ⟨hp1, hp2⟩ := List.mem_filter.mp hp
    obtain ⟨g1, g2, g3⟩ := N _ hp1
    exact ⟨(hs.2 _ (by simpa using hp2)).trans g1, g2, g3⟩

/-- a call over an elder base, with made objects on the ledger -/
theorem enterB {w : World} {mean : ExcName → Option Value} {mg mb : Str → Option Value} {A : Around} {s : Shared} {R : Result → Shared → Prop} {name qual : Str} {params : Arguments} {body : List Stmt} {scope : Scope} {dV kV doc pm cdv ct oc : Value} {an od : Option Addr} {osl : Array (Option Value)} {f : Addr} {args : Args} (binds : List (Str × Value))
    {h₀ : Heap} (news : List (Addr × Obj)) (X : (hd.heap_39 w.params).In h₀) (T : Top hd.view_39 Lo mean mg mb h₀) (kx : Ext h₀ s.heap) (hsz : h₀.objs.size ≤ s.heap.objs.size) (hnews : ∀ p ∈ news, s.heap.get? p.1 = some p.2 ∧ h₀.get? p.1 = none)
    (ho : (hd.heap_39 w.params).lookup f = some ⟨oc, od, .func (fnOf name qual params body scope dV kV doc pm an cdv ct), osl⟩) (hcd : codeIn (hd.heap_39 w.params) cdv qual = true) (hroom : A.depth < recursionLimit)
    (hbind : BindsTo s (fnOf name qual params body scope dV kV doc pm an cdv ct) args binds) (hloc : ∀ y ∈ binds, scope.names.lookup y.1 = some .local)
    (h : ∀ h₁, Fr h₀ s.heap.objs.size h₁ (fun y => binds.reverse.lookup y) → News h₀ s.heap.objs.size h₁ news → (∀ p ∈ news, p.1 < s.heap.objs.size) →
      wpAny (model Pg w) (A.deeper (envOf qual scope s.heap.objs.size f cdv)) (execs body (envOf qual scope s.heap.objs.size f cdv))
        (fun fl s' => R (.ok (.ret (match fl with | .ret v => v | _ => .none))) s') (fun _ _ => False)
        { s with heap := h₁, toks := s.toks + binds.length })
    (hco : scope.isCoroutine = false) (hgen : scope.isGenerator = false) (hk : scope.kind = .function)
    (hcell : ∀ x ∈ scope.names, x.2 ≠ .cell) : codeAny (model Pg w) A (.call (.ref f) args) R s :=
  codeAny_call_def hroom ((X.keeps kx) _ _ ho) rfl (T.keeps kx).nolimit (codeRec_of (X.keeps kx) hcd) rfl hbind hcell hloc (fun h₁ hns hk₁ =>
    wpAny_mono (h h₁ ⟨hns, fun b o e => hk₁ _ _ (kx _ _ e), hsz⟩ (fun p hp => ⟨hk₁ _ _ (hnews p hp).1, Nat.ne_of_lt (Heap.lt_size (hnews p hp).1), (hnews p hp).2⟩) (fun p hp => Heap.lt_size (hnews p hp).1)) (fun _ _ x => x) fun _ _ x => x.elim) hco hgen hk

theorem get_none_size {h : Heap} {a : Addr} (ha : h.objs.size ≤ a) : h.get? a = none := by
  cases q : h.get? a with
  | none => rfl
  | some o => exact absurd (Heap.lt_size q) (Nat.not_lt.mpr ha)

/-- a Field's dict -/
abbrev fieldD (P : Params) (nm rw' : List UInt8) (t1 t2 t3 t4 : Tok) : Obj := dictOf [⟨PyData.keyHash P (Str.ofString "name"), .str (Str.ofString "name") t1, .bytes nm.toArray t2⟩, ⟨PyData.keyHash P (Str.ofString "raw"), .str (Str.ofString "raw") t3, .bytes rw'.toArray t4⟩] 2

set_option maxHeartbeats 4000000 in
theorem field_spec {w : World} {mean : ExcName → Option Value} {mg mb : Str → Option Value} {dp un : Nat} {fr : Option (List Env)} {gd : Option (List Code)} {s : Shared} {nm rw' : List UInt8} {t1 t2 : Tok} {Q E : Value → Shared → Prop}
    (G : Gnd w mean mg mb s.heap) (hdp : dp + 2 < recursionLimit)
    (k : ∀ x dx t3 t4 t5 t6 h' tk', h'.get? x = some (instObj 63 dx) → h'.get? dx = some (fieldD w.params nm rw' t3 t4 t5 t6) → Ext s.heap h' → s.heap.get? x = none → s.heap.get? dx = none → Q (.ref x) { s with heap := h', toks := tk' }) :
    wpAny (model Pg w) (Ar dp un fr gd) (call (.ref 63) [.bytes nm.toArray t1, .bytes rw'.toArray t2]) Q E s := by
  have X := G.X
  have T := G.T
  have hm : makesIn (hd.heap_39 w.params) 63 = true := by k_is
  have hi : findIn (hd.heap_39 w.params) (.ref 63) "__init__" = some (some (.ref 48)) := by k_is
  have hf : isFn (hd.heap_39 w.params) (.ref 48) = true := by k_is
  refine wpAny_call ?_
  obtain ⟨hh, g, d, t, os⟩ := s
  refine make_core (makes_of X hm) (looks_findIn X hi) (fun self => bind_fn X self (beq_iff_eq.mp hf)) (.inl rfl) ?_
  have kx : Ext hh ((hh.push emptyDict).push (instObj 63 hh.objs.size)) := fun b o e => Heap.get?_push_of_some _ (Heap.get?_push_of_some _ e)
  have g1 : ((hh.push emptyDict).push (instObj 63 hh.objs.size)).get? (hh.objs.size + 1) = some (instObj 63 hh.objs.size) := by heap_get
  have g2 : ((hh.push emptyDict).push (instObj 63 hh.objs.size)).get? hh.objs.size = some (dictOf [] 0) := by heap_get
  refine' enterB (s := ⟨(hh.push emptyDict).push (instObj 63 hh.objs.size), g, d, t, os⟩) (h₀ := hh) [("self", .ref (hh.objs.size + 1)), ("name", .bytes nm.toArray t1), ("raw", .bytes rw'.toArray t2)] [(hh.objs.size + 1, instObj 63 hh.objs.size), (hh.objs.size, dictOf [] 0)] X T kx ?kS ?kN ?k6 ?k7 ?k8 ?k9 ?kB ?_ ?c2 ?c3 ?c4 ?c5
  case kS => simp only [Heap.size_push]; omega
  case kN =>
    intro p hp
    rcases List.mem_cons.mp hp with rfl | hp
    · exact ⟨g1, get_none_size (Nat.le_succ _)⟩
    · rw [List.mem_singleton.mp hp]; exact ⟨g2, get_none_size (Nat.le_refl _)⟩
  case k6 => k_is
  case k7 => k_is
  case k8 => k_room
  case k9 => exact BindsTo.of_eq rfl
  case kB => exact locs rfl
  case c2 => rfl
  case c3 => rfl
  case c4 => rfl
  case c5 => decide
  intro h' F' N' hlt
  k_fold
  k_steps
  rename News _ _ _ _ => N9
  rename Fr _ _ _ _ => F9
  exact ⟨rfl, k _ _ _ _ _ _ _ _ (N9 _ (.head _)).1 (N9 _ (.tail _ (.head _))).1 F9.keep (get_none_size (Nat.le_succ _)) (get_none_size (Nat.le_refl _))⟩
theorem field_use {w : World} {mean : ExcName → Option Value} {mg mb : Str → Option Value} {A : Around} {s : Shared} {nm rw' : List UInt8} {t1 t2 : Tok} {Q E : Value → Shared → Prop} {h₀ : Heap} {L : Addr} {m : PySem.Str → Option Value} {news : List (Addr × Obj)}
    (X : (Mine.hd.heap_39 w.params).In h₀) (T : Top Mine.hd.view_39 Lo mean mg mb h₀) (F : Fr h₀ L s.heap m) (N : News h₀ L s.heap news) (hh : A.handled = none) (hdp : A.depth + 2 < recursionLimit)
    (k : ∀ x dx t3 t4 t5 t6 h' tk', Ext s.heap h' → Fr h₀ L h' m → News h₀ L h' ((x, instObj 63 dx) :: (dx, fieldD w.params nm rw' t3 t4 t5 t6) :: news) → (∀ p ∈ news, p.1 ≠ x ∧ p.1 ≠ dx) → Q (.ref x) { s with heap := h', toks := tk' }) :
    wpAny (model Pg w) A (call (.ref 63) [.bytes nm.toArray t1, .bytes rw'.toArray t2]) Q E s := by
  obtain ⟨hd', dp, fr, gd, un⟩ := A
  cases hh
  refine field_spec ⟨X.keeps F.keep, T.keeps F.keep⟩ hdp fun x dx t3 t4 t5 t6 h' tk' h1 h2 h3 h4 h5 => k x dx t3 t4 t5 t6 h' tk' h3 (F.keeps h3) ?_ fun p hp => ⟨fun e => by (rw [← e, (N p hp).1] at h4; cases h4), fun e => by (rw [← e, (N p hp).1] at h5; cases h5)⟩
  intro p hp
  rcases List.mem_cons.mp hp with rfl | hp
  · exact onto F N h3 h4 h1 _ (.head _)
  · exact onto F N h3 h5 h2 p hp
end
section
/-! P1 -/
/-! plain functions: what the program reckons -/
theorem lineEnd_le (l : List UInt8) : (lineEnd l).1 ≤ (lineEnd l).2 ∧ (lineEnd l).2 ≤ l.length := by
  unfold lineEnd
  cases e : seek 10 0 l with
  | none => exact ⟨Nat.le_refl _, Nat.le_refl _⟩
  | some i =>
    have := seek_lt _ _ _ _ e
    dsimp only
    split <;> dsimp only <;> omega
theorem lineEnd_pos {l : List UInt8} (h : 0 < l.length) : 0 < (lineEnd l).2 := by
  unfold lineEnd
  cases e : seek 10 0 l with
  | none => exact h
  | some i =>
    dsimp only
    split <;> dsimp only <;> omega
/-- no row's end: both are the length -/
theorem lineEnd_done {l : List UInt8} (h : (lineEnd l).1 = l.length) : (lineEnd l).2 = l.length := by
  have := lineEnd_le l
  omega
theorem lineEnd_more {l : List UInt8} (h : (lineEnd l).1 ≠ l.length) : 0 < (lineEnd l).2 ∧ (lineEnd l).1 < l.length := by
  have := lineEnd_le l
  refine ⟨?_, by omega⟩
  rcases Nat.eq_zero_or_pos l.length with h0 | h0
  · omega
  · exact lineEnd_pos h0

/-- white stands at the text's begin -/
def whiteAt : List UInt8 → Bool
  | [] => false
  | c :: _ => c == 32 || c == 9

/-- the last row's end and the next field's begin -/
def cont (l : List UInt8) : Nat × Nat :=
  if h : whiteAt (l.drop (lineEnd l).2) = true then
    ((lineEnd l).2 + (cont (l.drop (lineEnd l).2)).1, (lineEnd l).2 + (cont (l.drop (lineEnd l).2)).2)
  else lineEnd l
termination_by l.length
decreasing_by all_goals (
  have h1 : l.drop (lineEnd l).2 ≠ [] := by intro e; rw [e] at h; cases h
  have h2 : 0 < l.length := by
    rcases l with _ | ⟨c, r⟩
    · simp at h1
    · simp
  have := lineEnd_pos h2
  rw [List.length_drop]; omega)
theorem cont_le (l : List UInt8) : (lineEnd l).1 ≤ (cont l).1 ∧ (cont l).1 ≤ (cont l).2 ∧ (cont l).2 ≤ l.length ∧ (lineEnd l).2 ≤ (cont l).2 := by
  have h0 := lineEnd_le l
  rw [cont]
  split
  · rename_i h
    have h1 : l.drop (lineEnd l).2 ≠ [] := by intro e; rw [e] at h; cases h
    have h2 : 0 < l.length := by
      rcases l with _ | ⟨c, r⟩
      · simp at h1
      · simp
    have := lineEnd_pos h2
    have ih := cont_le (l.drop (lineEnd l).2)
    rw [List.length_drop] at ih
    dsimp only; omega
  · omega
termination_by l.length
decreasing_by (rw [List.length_drop]; omega)

theorem colonAt_lt {l : List UInt8} {c : Nat} (h : colonAt l = some c) : c < l.length := by
  unfold colonAt at h
  cases e : seek 58 0 l with
  | none => rw [e] at h; cases h
  | some i =>
    rw [e] at h
    have := seek_lt _ _ _ _ e
    dsimp only at h
    split at h
    · cases h; omega
    · cases h

/-- the fields of a text -/
def spans (l : List UInt8) : List (List UInt8 × List UInt8) :=
  if h : (lineEnd l).1 = 0 then [] else
  match colonAt (l.take (lineEnd l).1) with
  | none => []
  | some c => (l.take c, (l.drop (c + 1)).take ((cont l).1 - (c + 1))) :: spans (l.drop (cont l).2)
termination_by l.length
decreasing_by (
  have := lineEnd_le l
  have := cont_le l
  rw [List.length_drop]; omega)

theorem spans_nil_of {l : List UInt8} (h : (lineEnd l).1 = 0) : spans l = [] := by rw [spans, dif_pos h]
theorem spans_none {l : List UInt8} (h : colonAt (l.take (lineEnd l).1) = none) : spans l = [] := by
  rw [spans]
  split
  · rfl
  · rw [h]
theorem spans_some {l : List UInt8} {c : Nat} (h0 : (lineEnd l).1 ≠ 0) (h : colonAt (l.take (lineEnd l).1) = some c) :
    spans l = (l.take c, (l.drop (c + 1)).take ((cont l).1 - (c + 1))) :: spans (l.drop (cont l).2) := by
  rw [spans, dif_neg h0, h]
theorem spans_end {l : List UInt8} (h : l.length = 0) : spans l = [] := by
  apply spans_nil_of
  have := lineEnd_le l
  omega
theorem cont_start {d : List UInt8} {p i j : Nat} (hi : i = p + (lineEnd (d.drop p)).1) (hj : j = p + (lineEnd (d.drop p)).2) :
    p + (cont (d.drop p)).1 = (if whiteAt (d.drop j) = true then j + (cont (d.drop j)).1 else i) ∧ p + (cont (d.drop p)).2 = (if whiteAt (d.drop j) = true then j + (cont (d.drop j)).2 else j) := by
  rw [cont]
  have e : (d.drop p).drop (lineEnd (d.drop p)).2 = d.drop j := by rw [List.drop_drop, hj]
  rw [e]
  by_cases h : whiteAt (d.drop j) = true
  · rw [dif_pos h, if_pos h, if_pos h]; dsimp only; omega
  · rw [dif_neg h, if_neg h, if_neg h]; omega
theorem white_of {d : List UInt8} {j : Nat} (h : j < d.length) : whiteAt (d.drop j) = true ↔ (((d.getD j 0).toNat : Int) = 32 ∨ ((d.getD j 0).toNat : Int) = 9) := by
  rw [List.drop_eq_getElem_cons h, List.getD_eq_getElem?_getD, List.getElem?_eq_getElem h, Option.getD_some]
  unfold whiteAt
  simp only [Bool.or_eq_true, beq_iff_eq]
  have e1 : (32 : UInt8).toNat = 32 := rfl
  have e2 : (9 : UInt8).toNat = 9 := rfl
  constructor
  · rintro (h | h) <;> rw [h]
    · exact .inl rfl
    · exact .inr rfl
  · rintro (h | h)
    · exact .inl (UInt8.toNat_inj.mp (by omega))
    · exact .inr (UInt8.toNat_inj.mp (by omega))
theorem white_end {d : List UInt8} {j : Nat} (h : ¬ j < d.length) : whiteAt (d.drop j) = false := by
  rw [List.drop_of_length_le (by omega)]; rfl

theorem span_step {d : List UInt8} {p c la lt : Nat} {r9 : Int} {x1 x2 : List UInt8} {fs : List (List UInt8 × List UInt8)}
    (hc : spans (d.drop p) = ((d.drop p).take c, ((d.drop p).drop (c + 1)).take ((cont (d.drop p)).1 - (c + 1))) :: spans ((d.drop p).drop (cont (d.drop p)).2)) (hr : r9 = (p : Int) + (c : Int))
    (h1 : p + (cont (d.drop p)).1 = la) (h2 : p + (cont (d.drop p)).2 = lt) (hx1 : x1 = List.take (r9.toNat - ((p : Nat) : Int).toNat) (List.drop ((p : Nat) : Int).toNat d)) (hx2 : x2 = List.take (((la : Nat) : Int).toNat - (r9 + 1).toNat) (List.drop (r9 + 1).toNat d))
    (hsp : fs ++ spans (d.drop p) = spans d) : (fs ++ [(x1, x2)]) ++ spans (d.drop lt) = spans d := by
  have e1 : r9.toNat - ((p : Nat) : Int).toNat = c := by omega
  have e2 : (r9 + 1).toNat = p + (c + 1) := by omega
  have e3 : ((la : Nat) : Int).toNat - (p + (c + 1)) = (cont (d.drop p)).1 - (c + 1) := by omega
  have k1 : x1 = (d.drop p).take c := by rw [hx1, e1, Int.toNat_natCast]
  have k2 : x2 = ((d.drop p).drop (c + 1)).take ((cont (d.drop p)).1 - (c + 1)) := by rw [hx2, e2, e3, List.drop_drop]
  have k3 : (d.drop p).drop (cont (d.drop p)).2 = d.drop lt := by rw [List.drop_drop, h2]
  rw [← hsp, hc, List.append_assoc, List.singleton_append, k1, k2, k3]

theorem spans_len (l : List UInt8) : (spans l).length ≤ l.length ∧ ∀ f ∈ spans l, f.1.length ≤ l.length ∧ f.2.length ≤ l.length := by
  rw [spans]
  split
  · exact ⟨Nat.zero_le _, fun _ h => nomatch h⟩
  · rename_i h0
    split
    · exact ⟨Nat.zero_le _, fun _ h => nomatch h⟩
    · rename_i c hc
      have h1 := lineEnd_le l
      have h2 := cont_le l
      have ih := spans_len (l.drop (cont l).2)
      rw [List.length_drop] at ih
      refine ⟨by rw [List.length_cons]; omega, fun f hf => ?_⟩
      rcases List.mem_cons.mp hf with rfl | hf
      · simp only [List.length_take, List.length_drop]; omega
      · have := ih.2 f hf; omega
termination_by l.length
decreasing_by (rw [List.length_drop]; omega)

/-- the rows of a text -/
def rowsP (l : List UInt8) : List (List UInt8) :=
  if h : (lineEnd l).1 = l.length then [l.take (lineEnd l).1] else l.take (lineEnd l).1 :: rowsP (l.drop (lineEnd l).2)
termination_by l.length
decreasing_by (
  have := lineEnd_more h
  have := lineEnd_le l
  rw [List.length_drop]; omega)
theorem rowsP_len (l : List UInt8) : ((rowsP l).map List.length).sum ≤ l.length ∧ (rowsP l).length ≤ l.length + 1 := by
  have h0 := lineEnd_le l
  rw [rowsP]
  split
  · simp; omega
  · rename_i h
    have h1 := lineEnd_more h
    have ih := rowsP_len (l.drop (lineEnd l).2)
    rw [List.length_drop] at ih
    simp only [List.map_cons, List.sum_cons, List.length_cons, List.length_take]
    omega
termination_by l.length
decreasing_by (rw [List.length_drop]; omega)
end
section
/-! L8 -/
local macro_rules | `(tactic| walk_at "mine pad0") => `(tactic| skip)
local macro_rules | `(tactic| walk_at "mine pad1") => `(tactic| skip)
local macro_rules | `(tactic| walk_at "mine pad2") => `(tactic| skip)
local macro_rules | `(tactic| walk_at "mine pad3") => `(tactic| skip)
local macro_rules | `(tactic| walk_at "mine pad4") => `(tactic| skip)
local macro_rules | `(tactic| walk_at "mine pad5") => `(tactic| skip)
local macro_rules | `(tactic| walk_at "mine pad6") => `(tactic| skip)
local macro_rules | `(tactic| walk_at "mine pad7") => `(tactic| skip)
local macro_rules | `(tactic| walk_at "mine pad8") => `(tactic| skip)
local macro_rules | `(tactic| walk_at "mine pad9") => `(tactic| skip)
local macro_rules | `(tactic| walk_at "mine pad10") => `(tactic| skip)
local macro_rules | `(tactic| walk_at "mine pad11") => `(tactic| skip)
local macro_rules | `(tactic| walk_at "mine pad12") => `(tactic| skip)
local macro_rules | `(tactic| walk_at "mine pad13") => `(tactic| skip)
local macro_rules | `(tactic| walk_at "mine pad14") => `(tactic| skip)
local macro_rules | `(tactic| walk_at "mine pad15") => `(tactic| skip)
local macro_rules | `(tactic| walk_at "mine pad16") => `(tactic| skip)
local macro_rules | `(tactic| walk_at "mine pad17") => `(tactic| skip)
local macro_rules | `(tactic| walk_at "mine pad18") => `(tactic| skip)
local macro_rules | `(tactic| walk_at "mine pad19") => `(tactic| skip)
local macro_rules | `(tactic| walk_at "mine pad20") => `(tactic| skip)
local macro_rules | `(tactic| walk_at "mine pad21") => `(tactic| skip)
local macro_rules | `(tactic| walk_at "mine pad22") => `(tactic| skip)
local macro_rules | `(tactic| walk_at "mine pad23") => `(tactic| skip)
local macro_rules | `(tactic| walk_at "mine pad24") => `(tactic| skip)
local macro_rules | `(tactic| walk_at "mine pad25") => `(tactic| skip)
local macro_rules | `(tactic| walk_at "mine pad26") => `(tactic| skip)
local macro_rules | `(tactic| walk_at "mine pad27") => `(tactic| skip)
local macro_rules | `(tactic| walk_at "mine pad28") => `(tactic| skip)
local macro_rules | `(tactic| walk_at "mine pad29") => `(tactic| skip)
local macro_rules | `(tactic| walk_at "mine pad30") => `(tactic| skip)
local macro_rules | `(tactic| walk_at "mine pad31") => `(tactic| skip)
local macro_rules | `(tactic| walk_at "mine pad32") => `(tactic| skip)
local macro_rules | `(tactic| walk_at "mine pad33") => `(tactic| skip)
local macro_rules | `(tactic| walk_at "mine pad34") => `(tactic| skip)
local macro_rules | `(tactic| walk_at "mine pad35") => `(tactic| skip)
local macro_rules | `(tactic| walk_at "mine pad36") => `(tactic| skip)
local macro_rules | `(tactic| walk_at "mine pad37") => `(tactic| skip)
local macro_rules | `(tactic| walk_at "mine pad38") => `(tactic| skip)
local macro_rules | `(tactic| walk_at "mine pad39") => `(tactic| skip)
local macro_rules | `(tactic| walk_at "mine pad40") => `(tactic| skip)
local macro_rules | `(tactic| walk_at "mine pad41") => `(tactic| skip)
local macro_rules | `(tactic| walk_at "mine pad42") => `(tactic| skip)
local macro_rules | `(tactic| walk_at "mine pad43") => `(tactic| skip)
local macro_rules | `(tactic| walk_at "mine pad44") => `(tactic| skip)
theorem off_L8 : True := by
  w_top off
  trivial
local macro_rules | `(tactic| k_room) => `(tactic| ((try simp only [depth_under_make, depth_under_kw, depth_in1, depth_deeper, depth_caller, Ar] at *); omega))
local macro_rules | `(tactic| walk_at "mine enter") => `(tactic| (
  (case kG => assumption); (case k6 => k_is); (case k7 => k_is); (case k8 => k_room); (case k9 => exact BindsTo.of_eq rfl); (case c5 => decide); (case kB => exact locs rfl); (case c2 => exact rfl); (case c3 => exact rfl); (case c4 => exact rfl)))
local macro_rules | `(tactic| walk_at "eval Name") => `(tactic| (k_here; (with_reducible rename Fr _ _ _ _ => kF); k_dflt (first
  | (refine' nameG_L ?a ?b ?_ ?c ?d ?e; (case a => assumption); (case b => assumption); (case c => rfl); (case d => rfl); (case e => decide); k_whole)
  | (refine' nameG_K kF ?k1 ?k2 ?k3 ?_ ?k4 ?k5 ?k6 ?k7; (case k4 => rfl); (case k5 => rfl); (case k6 => rfl); (case k7 => decide); (case k1 => k_asm); (case k2 => k_asm); (case k3 => k_is); k_whole)
  | (refine' nameG_B kF ?k1 ?k2 ?k3 ?kv ?kn ?_ ?k4 ?k8 ?k5 ?k6 ?k7; (case k4 => rfl); (case k8 => rfl); (case k5 => rfl); (case k6 => rfl); (case k7 => decide); (case kn => decide); (case k1 => k_asm); (case k2 => k_asm); (case k3 => k_is); (case kv => boot_by_name); k_whole))))

/-- here the walk rests -/
def Halt (P : Prop) : Prop := P
theorem Halt.of {P : Prop} (h : Halt P) : P := h
local macro_rules | `(tactic| walk_at "exec While Compare cons nil") => `(tactic| (k_here; refine Halt.of ?_))
local macro_rules | `(tactic| walk_at "exec While BoolOp cons nil") => `(tactic| (k_here; refine Halt.of ?_))

theorem line_at_use {w : World} {mean : ExcName → Option Value} {mg mb : Str → Option Value} {A : Around} {s : Shared} {d : List UInt8} {at' : Nat} {t t1 t2 : Tok} {Q E : Value → Shared → Prop} {h₀ : Heap} {L : Addr} {m : PySem.Str → Option Value} {news : List (Addr × Obj)}
    (X : (Mine.hd.heap_39 w.params).In h₀) (T : Top Mine.hd.view_39 Lo mean mg mb h₀) (F : Fr h₀ L s.heap m) (N : News h₀ L s.heap news) (hh : A.handled = none) (hd : A.depth + 1 < recursionLimit) (h1 : at' ≤ d.length) (hz : d.length ≤ 1000000)
    (k : ∀ (a : Addr) h' (i j : Nat) t3 t4 n tk', i = at' + (lineEnd (d.drop at')).1 → j = at' + (lineEnd (d.drop at')).2 → i ≤ j → j ≤ d.length → Ext s.heap h' → Fr h₀ L h' m → News h₀ L h' ((a, ⟨.type "tuple", none, .seq #[.int (i : Int) t3, .int (j : Int) t4] n, #[]⟩) :: news) → Q (.ref a) { s with heap := h', toks := tk' }) :
    wpAny (model Pg w) A (call (.ref 74) [.bytes d.toArray t, .int (at' : Int) t1, .int (d.length : Int) t2]) Q E s := by
  obtain ⟨hd', dp, fr, gd, un⟩ := A
  cases hh
  refine line_at_spec ⟨X.keeps F.keep, T.keeps F.keep⟩ hd h1 hz fun a h' i j t3 t4 n tk' e1 e2 e3 e4 e5 => ?_
  have hl := lineEnd_le (d.drop at')
  rw [List.length_drop] at hl
  refine k a h' (at' + (lineEnd (d.drop at')).1) (at' + (lineEnd (d.drop at')).2) t3 t4 n tk' rfl rfl (by omega) (by omega) e3 (F.keeps e3) (onto F N e3 e4 ?_)
  rw [e1, e2] at e5
  rw [Int.natCast_add, Int.natCast_add]; exact e5

theorem colon_in_use {w : World} {mean : ExcName → Option Value} {mg mb : Str → Option Value} {A : Around} {s : Shared} {d : List UInt8} {at' en : Nat} {t t1 t2 : Tok} {Q E : Value → Shared → Prop} {h₀ : Heap} {L : Addr} {m : PySem.Str → Option Value} {news : List (Addr × Obj)}
    (X : (Mine.hd.heap_39 w.params).In h₀) (T : Top Mine.hd.view_39 Lo mean mg mb h₀) (F : Fr h₀ L s.heap m) (N : News h₀ L s.heap news) (hh : A.handled = none) (hd : A.depth + 2 < recursionLimit) (h1 : at' ≤ en) (h2 : en ≤ d.length) (hz : d.length ≤ 1000000)
    (k : ∀ h' r t' tk', r = (match colonAt ((d.take en).drop at') with | some i => (at' : Int) + i | none => -1) → Ext s.heap h' → Fr h₀ L h' m → News h₀ L h' news → Q (.int r t') { s with heap := h', toks := tk' }) :
    wpAny (model Pg w) A (call (.ref 88) [.bytes d.toArray t, .int (at' : Int) t1, .int (en : Int) t2]) Q E s := by
  obtain ⟨hd', dp, fr, gd, un⟩ := A
  cases hh
  exact colon_in_spec ⟨X.keeps F.keep, T.keeps F.keep⟩ hd h1 h2 hz fun h' r t' tk' e1 e2 => k h' r t' tk' e1 e2 (F.keeps e2) (N.grown e2)

/-- a row of spans on the ledger: (field, from, to) -/
def RowOn (P : Params) (rest : List (Addr × Obj)) (v : Value) (f : List UInt8 × List UInt8) : Prop :=
  ∃ (a x dx : Addr) (i j : Int) (t t' t1 t2 t3 t4 : Tok) (n : Nat), v = .ref a ∧ (a, (⟨.type "tuple", none, .seq #[.ref x, .int i t, .int j t'] n, #[]⟩ : Obj)) ∈ rest ∧ (x, instObj 63 dx) ∈ rest ∧ (dx, fieldD P f.1 f.2 t1 t2 t3 t4) ∈ rest
theorem RowOn.more {P : Params} {r r' : List (Addr × Obj)} {v : Value} {f : List UInt8 × List UInt8} {its : Array Value} {n : Nat} (x : RowOn P r v f) (k : ∀ p ∈ r, p.2 ≠ listOf its n → p ∈ r') : RowOn P r' v f := by
  obtain ⟨a, x, dx, i, j, t, t', t1, t2, t3, t4, n', e, h1, h2, h3⟩ := x
  refine ⟨a, x, dx, i, j, t, t', t1, t2, t3, t4, n', e, k _ h1 ?_, k _ h2 ?_, k _ h3 ?_⟩
  · intro h; injection h with h; revert h; decide
  · intro h; injection h with h; cases h
  · intro h; injection h with h; revert h; decide
/-- a row of spans: (field, from, to) -/
def RowIs (P : Params) (h : Heap) (v : Value) (f : List UInt8 × List UInt8) : Prop :=
  ∃ (a : Addr) (x : Value) (i j : Int) (t t' : Tok) (n : Nat), v = .ref a ∧ h.get? a = some ⟨.type "tuple", none, .seq #[x, .int i t, .int j t'] n, #[]⟩ ∧ IsField P h x f.1 f.2
theorem RowIs.keeps {P : Params} {h h' : Heap} {v : Value} {f : List UInt8 × List UInt8} (x : RowIs P h v f) (k : Ext h h') : RowIs P h' v f :=
  let ⟨a, x, i, j, t, t', n, e, h1, h2⟩ := x; ⟨a, x, i, j, t, t', n, e, k _ _ h1, h2.keeps k⟩
theorem RowOn.is {P : Params} {h₀ h : Heap} {L : Addr} {r : List (Addr × Obj)} {v : Value} {f : List UInt8 × List UInt8} (x : RowOn P r v f) (N : ∀ p ∈ r, h.get? p.1 = some p.2) : RowIs P h v f := by
  obtain ⟨a, x, dx, i, j, t, t', t1, t2, t3, t4, n', e, h1, h2, h3⟩ := x
  exact ⟨a, .ref x, i, j, t, t', n', e, N _ h1, x, dx, t1, t2, t3, t4, rfl, N _ h2, N _ h3⟩

inductive AllAre {β : Type} (T : Value → β → Prop) : List Value → List β → Prop where
  | nil : AllAre T [] []
  | cons {v : Value} {f : β} {vs : List Value} {fs : List β} : T v f → AllAre T vs fs → AllAre T (v :: vs) (f :: fs)
theorem AllAre.imp {β : Type} {T U : Value → β → Prop} (k : ∀ v f, T v f → U v f) {vs : List Value} {fs : List β} (h : AllAre T vs fs) : AllAre U vs fs := by
  induction h with
  | nil => exact .nil
  | cons h _ ih => exact .cons (k _ _ h) ih
theorem AllAre.snoc {β : Type} {T : Value → β → Prop} {vs : List Value} {fs : List β} {v : Value} {f : β} (h : AllAre T vs fs) (x : T v f) : AllAre T (vs ++ [v]) (fs ++ [f]) := by
  induction h with
  | nil => exact .cons x .nil
  | cons h _ ih => exact .cons h ih
theorem AllAre.length {β : Type} {T : Value → β → Prop} {vs : List Value} {fs : List β} (h : AllAre T vs fs) : vs.length = fs.length := by
  induction h with
  | nil => rfl
  | cons _ _ ih => simp [ih]
theorem AllAre.at {β : Type} {T : Value → β → Prop} {vs : List Value} {fs : List β} (h : AllAre T vs fs) : ∀ (i : Nat) (v : Value), vs[i]? = some v → ∃ f, fs[i]? = some f ∧ T v f := by
  induction h with
  | nil => intro i f e; simp at e
  | cons h _ ih => intro i f e; cases i with
    | zero => simp at e; subst e; exact ⟨_, rfl, h⟩
    | succ i => simpa using ih i f (by simpa using e)
theorem AllAre.get {β : Type} {T : Value → β → Prop} {vs : List Value} {fs : List β} (h : AllAre T vs fs) : ∀ (i : Nat) (f : β), fs[i]? = some f → ∃ v, vs[i]? = some v ∧ T v f := by
  induction h with
  | nil => intro i f e; simp at e
  | cons h _ ih => intro i f e; cases i with
    | zero => simp at e; subst e; exact ⟨_, rfl, h⟩
    | succ i => simpa using ih i f (by simpa using e)

local macro_rules | `(tactic| walk_at "subscriptTail") => `(tactic| (k_here; (with_reducible show wpAny _ _ (subscriptTail _ _ (Value.bytes (List.toArray _) _) (Value.int _ _)) _ _ _); (refine item_B (by omega) (by omega) (by omega) ?_); intro v9 u9 n9 hv9))
local macro_rules | `(tactic| walk_at "subscriptTail") => `(tactic| (k_here; (with_reducible show wpAny _ _ (subscriptTail _ (Expr.Slice _ _ none _) (Value.bytes _ _) (Value.ref _)) _ _ _); (with_reducible rename Fr _ _ _ _ => F'); (with_reducible rename News _ _ _ _ => N'); (refine slice_B (s := ⟨_, _, _, _, _⟩) F' N' (by omega) (by omega) (by omega) (by omega) ?_); intro x9 h9 t9 k9 hx9 F9 N9))
/-- white is one of two -/
theorem white_tup {w : World} {h₀ : Heap} (X : (Mine.hd.heap_39 w.params).In h₀) : IsTup h₀ 34 #[.int 32 211, .int 9 212] := by
  refine ⟨_, X 34 ⟨.type "tuple", none, .seq #[.int 32 211, .int 9 212] 0, #[]⟩ ?_, rfl, _, rfl⟩
  k_is
theorem in_white {w : World} {A : Around} {E : Value → Shared → Prop} {s : Shared} {h₀ : Heap} {L : Addr} {m : PySem.Str → Option Value} {prog : Program} {x : Int} {u : Tok} {Q : Value → Shared → Prop}
    (X : (Mine.hd.heap_39 w.params).In h₀) (F : Fr h₀ L s.heap m) (h : Q (.bool (decide (x = 32 ∨ x = 9))) s) : wpAny (model prog w) A (compareOp .In (.int x u) (.ref 34)) Q E s := by
  refine in_tuple_ints (F.tup (white_tup X)) (.cons _ _ (.cons _ _ .nil)) ?_
  have e : ([32, 9] : List Int).any (· == x) = decide (x = 32 ∨ x = 9) := by
    by_cases h1 : x = 32
    · subst h1; rfl
    · by_cases h2 : x = 9
      · subst h2; rfl
      · rw [decide_eq_false (by rintro (h | h) <;> contradiction)]
        show ((32 == x) || ((9 == x) || false)) = false
        rw [beq_false_of_ne (Ne.symm h1), beq_false_of_ne (Ne.symm h2)]; rfl
  rw [e]; exact h
local macro_rules | `(tactic| walk_at "compareOp In int ref") => `(tactic| (k_here; (with_reducible show wpAny _ _ (compareOp _ _ (Value.ref 34)) _ _ _); k_dflt (refine' in_white ?k1 ?k2 ?_; (case k1 => k_asm); (case k2 => k_asm))))
local macro_rules | `(tactic| walk_at "call ref") => `(tactic| (k_here; (with_reducible show wpAny _ _ (call (Value.ref 74) _) _ _ _); k_dflt (refine' line_at_use ?k1 ?k2 ?k3 ?k4 ?k5 ?k6 ?k7 ?k8 ?_; (case k1 => k_asm); (case k2 => k_asm); (case k3 => k_asm); (case k4 => k_asm); (case k5 => exact rfl); (case k6 => k_room); (case k7 => omega); (case k8 => omega)); intro a9 h9 i9 j9 t9 u9 n9 k9 hi9 hj9 hij9 hjd9 e9 F9 N9))
local macro_rules | `(tactic| walk_at "call ref") => `(tactic| (k_here; (with_reducible show wpAny _ _ (call (Value.ref 88) _) _ _ _); k_dflt (refine' colon_in_use ?k1 ?k2 ?k3 ?k4 ?k5 ?k6 ?k7 ?k8 ?k9 ?_; (case k1 => k_asm); (case k2 => k_asm); (case k3 => k_asm); (case k4 => k_asm); (case k5 => exact rfl); (case k6 => k_room); (case k7 => omega); (case k8 => omega); (case k9 => omega)); intro h9 r9 t9 k9 hr9 e9 F9 N9))
local macro_rules | `(tactic| walk_at "call ref") => `(tactic| (k_here; (with_reducible show wpAny _ _ (call (Value.ref 63) _) _ _ _); k_dflt (refine' field_use ?k1 ?k2 ?k3 ?k4 ?k5 ?k6 ?_; (case k1 => k_asm); (case k2 => k_asm); (case k3 => k_asm); (case k4 => k_asm); (case k5 => exact rfl); (case k6 => k_room)); intro x9 dx9 t5 t6 t7 t8 h9 k9 e9 F9 N9 hne9))
local macro_rules | `(tactic| walk_at "call builtin:list.append") => `(tactic| (k_here; (with_reducible rename Fr _ _ _ _ => F'); (with_reducible rename News _ _ _ _ => N'); k_dflt (refine' append_L F' N' ?km ?_ ?kz; (case km => k_mem); (case kz => omega)); intro h9 F9 N9 e9))

/-- the frame's names in read_spans -/
def mSp (v1 v2 v3 v4 : Value) (u : PySem.Str → Option Value) : PySem.Str → Option Value := fun z =>
  if z = Str.ofString "data" then some v1 else if z = Str.ofString "stop" then some v2 else if z = Str.ofString "rows" then some v3 else if z = Str.ofString "here" then some v4 else u z
theorem mSp_of {v1 v2 v3 v4 : Value} {m : PySem.Str → Option Value} (h1 : m (Str.ofString "data") = some v1) (h2 : m (Str.ofString "stop") = some v2) (h3 : m (Str.ofString "rows") = some v3) (h4 : m (Str.ofString "here") = some v4) : m = mSp v1 v2 v3 v4 m := by
  funext z
  unfold mSp
  split
  · rename_i e; rw [e, h1]
  · split
    · rename_i e; rw [e, h2]
    · split
      · rename_i e; rw [e, h3]
      · split
        · rename_i e; rw [e, h4]
        · rfl

def mSp2 (v1 v2 v3 v4 v5 v6 v7 : Value) (u : PySem.Str → Option Value) : PySem.Str → Option Value := fun z =>
  if z = Str.ofString "last" then some v6 else if z = Str.ofString "later" then some v7 else if z = Str.ofString "colon" then some v5 else mSp v1 v2 v3 v4 u z
theorem mSp2_of {v1 v2 v3 v4 v5 v6 v7 : Value} {m : PySem.Str → Option Value} (h1 : m (Str.ofString "data") = some v1) (h2 : m (Str.ofString "stop") = some v2) (h3 : m (Str.ofString "rows") = some v3) (h4 : m (Str.ofString "here") = some v4)
    (h5 : m (Str.ofString "colon") = some v5) (h6 : m (Str.ofString "last") = some v6) (h7 : m (Str.ofString "later") = some v7) : m = mSp2 v1 v2 v3 v4 v5 v6 v7 m := by
  funext z
  unfold mSp2
  rw [← mSp_of h1 h2 h3 h4]
  split
  · rename_i e; rw [e, h6]
  · split
    · rename_i e; rw [e, h7]
    · split
      · rename_i e; rw [e, h5]
      · rfl
theorem Fr.at1 {h₀ h : Heap} {L : Addr} {v1 v2 v3 v4 : Value} {m : PySem.Str → Option Value} (F : Fr h₀ L h m) (h1 : m (Str.ofString "data") = some v1) (h2 : m (Str.ofString "stop") = some v2) (h3 : m (Str.ofString "rows") = some v3) (h4 : m (Str.ofString "here") = some v4) : Fr h₀ L h (mSp v1 v2 v3 v4 m) := by
  rw [← mSp_of h1 h2 h3 h4]; exact F
theorem Fr.at2 {h₀ h : Heap} {L : Addr} {v1 v2 v3 v4 v5 v6 v7 : Value} {m : PySem.Str → Option Value} (F : Fr h₀ L h m) (h1 : m (Str.ofString "data") = some v1) (h2 : m (Str.ofString "stop") = some v2) (h3 : m (Str.ofString "rows") = some v3) (h4 : m (Str.ofString "here") = some v4)
    (h5 : m (Str.ofString "colon") = some v5) (h6 : m (Str.ofString "last") = some v6) (h7 : m (Str.ofString "later") = some v7) : Fr h₀ L h (mSp2 v1 v2 v3 v4 v5 v6 v7 m) := by
  rw [← mSp2_of h1 h2 h3 h4 h5 h6 h7]; exact F

set_option maxHeartbeats 4000000 in
theorem read_spans_spec {w : World} {mean : ExcName → Option Value} {mg mb : Str → Option Value} {dp un : Nat} {fr : Option (List Env)} {gd : Option (List Code)} {s : Shared} {d : List UInt8} {t t1 t2 : Tok} {Q E : Value → Shared → Prop}
    (G : Gnd w mean mg mb s.heap) (hdp : dp + 3 < recursionLimit) (hz : d.length ≤ 100000)
    (k : ∀ a h' R its n i t3 n2 rest tk', Ext s.heap h' → AllAre (RowOn w.params rest) its.toList (spans d) →
      (∀ p ∈ (a, (⟨.type "tuple", none, .seq #[.ref R, .int i t3] n, #[]⟩ : Obj)) :: (R, listOf its n2) :: rest, h'.get? p.1 = some p.2 ∧ s.heap.get? p.1 = none) → Q (.ref a) { s with heap := h', toks := tk' }) :
    wpAny (model Pg w) (Ar dp un fr gd) (call (.ref 96) [.bytes d.toArray t, .int 0 t1, .int (d.length : Int) t2]) Q E s := by
  refine wpAny_call ?_
  refine' enter [("data", .bytes d.toArray t), ("at", .int 0 t1), ("end", .int (d.length : Int) t2)] ?kG ?k6 ?k7 ?k8 ?k9 ?kB ?_ ?c2 ?c3 ?c4 ?c5
  case kG => assumption
  case k6 => k_is
  case k7 => k_is
  case k9 => exact binds_K (K := hd.heap_39 w.params) G.X rfl (by k_is) rfl rfl rfl
  case k8 => k_room
  case c5 => decide
  case kB => exact locs rfl
  case c2 => exact rfl
  case c3 => exact rfl
  case c4 => exact rfl
  intro h' F' N' X' T'
  k_fold
  k_steps
  rename_i _ _ R _ _ _ h1 F1 N1
  show wpAny _ _ _ _ _ _
  refine While_S (fun n s₁ => ∃ (h₁ : Heap) (tk₁ : Nat) (u : PySem.Str → Option Value) (p : Nat) (tp : Tok) (its : Array Value) (n2 : Nat) (rest : List (Addr × Obj)) (fs : List (List UInt8 × List UInt8)),
    s₁ = { s with heap := h₁, toks := tk₁ } ∧ Fr s.heap s.heap.objs.size h₁ (mSp (.bytes d.toArray t) (.int (d.length : Int) t2) (.ref R) (.int (p : Int) tp) u) ∧ News s.heap s.heap.objs.size h₁ ((R, listOf its n2) :: rest) ∧
    p ≤ d.length ∧ its.size ≤ p ∧ n = d.length - p ∧ AllAre (RowOn w.params rest) its.toList fs ∧ fs ++ spans (d.drop p) = spans d) d.length ?h0 ?turn
  case h0 =>
    exact ⟨h1, _, _, 0, t1, #[], 0, [], [], rfl, Fr.at1 F1 rfl rfl rfl rfl, N1, Nat.zero_le _, Nat.le_refl _, rfl, .nil, rfl⟩
  case turn =>
    have fin : ∀ (h₂ : Heap) (tk₂ : Nat) (D : Addr) (its : Array Value) (n2 n : Nat) (i : Int) (ti : Tok) (rest more : List (Addr × Obj)) (fs : List (List UInt8 × List UInt8)) (m : PySem.Str → Option Value), Fr s.heap s.heap.objs.size h₂ m →
        News s.heap s.heap.objs.size h₂ ((D, ⟨.type "tuple", none, .seq #[.ref R, .int i ti] n, #[]⟩) :: more) → (∀ p ∈ (R, listOf its n2) :: rest, p ∈ more) → AllAre (RowOn w.params rest) its.toList fs → fs = spans d →
        Q (.ref D) { s with heap := h₂, toks := tk₂ } := by
      intro h₂ tk₂ D its n2 n i ti rest more fs m F₂ N₂ hsub hf hfs
      subst hfs
      refine k D h₂ R its n i ti n2 rest tk₂ F₂.keep hf fun p hp => ?_
      rcases List.mem_cons.mp hp with rfl | hp
      · exact ⟨(N₂ _ (.head _)).1, (N₂ _ (.head _)).2.2⟩
      · exact ⟨(N₂ _ (.tail _ (hsub _ hp))).1, (N₂ _ (.tail _ (hsub _ hp))).2.2⟩
    rintro n s₁ ⟨h₁, tk₁, u, p, tp, its, n2, rest, fs, rfl, F₁, N₁, hp, hs, rfl, hf, hsp⟩
    k_fold
    k_steps
    · rename_i D h' F' N' l1
      refine fin _ _ D its n2 _ _ _ rest _ fs _ F' N' (fun p hp => .tail _ hp) hf ?_
      rw [← hsp, spans_nil_of (by omega), List.append_nil]
    · rename_i r9 t9 k9 hr9 e9 hx tkx hneg D h' F' N' l1
      refine fin _ _ D its n2 _ _ _ rest _ fs _ F' N' (fun p hp => .tail _ hp) hf ?_
      rename (_ = p + (lineEnd _).1) => hi9
      rw [← hsp, spans_none, List.append_nil]
      rw [List.drop_take] at hr9
      rw [hi9, Nat.add_sub_cancel_left] at hr9
      cases e : colonAt ((d.drop p).take (lineEnd (d.drop p)).1) with
      | none => rfl
      | some c => rw [e] at hr9; have h2 : r9 = (p : Int) + (c : Int) := hr9; omega
    · rename_i hpl a9 h9a i9 j9 t9a u9 n9 k9a hi9 hj9 hij9 hjd9 e9a hx1 hx2 hx3 tk1 hne h9 r9 t9 k9 hr9 e9 hx F2 N2 tk2 hnn
      obtain ⟨c, hc, hrc⟩ : ∃ c, colonAt ((d.drop p).take (lineEnd (d.drop p)).1) = some c ∧ r9 = (p : Int) + c := by
        rw [List.drop_take, hi9, Nat.add_sub_cancel_left] at hr9
        cases e : colonAt ((d.drop p).take (lineEnd (d.drop p)).1) with
        | none => rw [e] at hr9; dsimp only at hr9; omega
        | some c => rw [e] at hr9; exact ⟨c, rfl, hr9⟩
      have hcl := colonAt_lt hc
      rw [List.length_take, List.length_drop] at hcl
      have hsome := spans_some (by omega) hc
      have hcont := cont_le (d.drop p)
      rw [List.length_drop] at hcont
      have hst := cont_start hi9 hj9
      clear hr9
      show wpAny _ _ _ _ _ _
      refine While_S (fun n s₁ => ∃ (h₁ : Heap) (tk₁ : Nat) (u : PySem.Str → Option Value) (la lt : Nat) (ta tl : Tok),
        s₁ = { s with heap := h₁, toks := tk₁ } ∧ Fr s.heap s.heap.objs.size h₁ (mSp2 (.bytes d.toArray t) (.int (d.length : Int) t2) (.ref R) (.int (p : Int) tp) (.int r9 t9) (.int (la : Int) ta) (.int (lt : Int) tl) u) ∧
        News s.heap s.heap.objs.size h₁ ((R, listOf its n2) :: rest) ∧ i9 ≤ la ∧ la ≤ lt ∧ lt ≤ d.length ∧ n = d.length - lt ∧
        p + (cont (d.drop p)).1 = (if whiteAt (d.drop lt) = true then lt + (cont (d.drop lt)).1 else la) ∧ p + (cont (d.drop p)).2 = (if whiteAt (d.drop lt) = true then lt + (cont (d.drop lt)).2 else lt)) (d.length - j9) ?h0 ?turn
      case h0 => exact ⟨_, _, _, i9, j9, t9a, u9, rfl, Fr.at2 F2 rfl rfl rfl rfl rfl rfl rfl, KStt.news_of N2 (fun p hp => .tail _ hp), Nat.le_refl _, hij9, hjd9, rfl, hst.1, hst.2⟩
      case turn =>
        rintro n s₁ ⟨h₂, tk₃, u₂, la, lt, ta, tl, rfl, F₂, N₂, hila, hlalt, hltd, rfl, hc1, hc2⟩
        clear F2 N2
        have hold : ∀ q ∈ rest, q.2 ≠ listOf its n2 → q.1 ≠ R := by
          intro q hq h e
          have g1 := (N₂ _ (.tail _ hq)).1
          have g2 := (N₂ _ (.head _)).1
          rw [e, g2] at g1
          exact h (Option.some.inj g1).symm
        have last : ∀ (D x9 dx9 : Addr) (x1 x2 : List UInt8) (t5 t6 t7 t8 : Tok) (h₃ : Heap) (tk₃ : Nat) (m : PySem.Str → Option Value), whiteAt (d.drop lt) = false → x1 = List.take (r9.toNat - ((p : Nat) : Int).toNat) (List.drop ((p : Nat) : Int).toNat d) → x2 = List.take (((la : Nat) : Int).toNat - (r9 + 1).toNat) (List.drop (r9 + 1).toNat d) →
            D ≠ R → x9 ≠ R → dx9 ≠ R → Fr s.heap s.heap.objs.size h₃ m →
            m (Str.ofString "data") = some (.bytes d.toArray t) → m (Str.ofString "stop") = some (.int (d.length : Int) t2) → m (Str.ofString "rows") = some (.ref R) → m (Str.ofString "here") = some (.int (lt : Int) tl) →
            News s.heap s.heap.objs.size h₃ ((R, listOf (its.push (.ref D)) (n2 + 1)) :: List.filter (fun p => p.1 != R) ((D, ⟨.type "tuple", none, .seq #[.ref x9, .int (p : Int) tp, .int (lt : Int) tl] 0, #[]⟩) :: (x9, instObj 63 dx9) :: (dx9, fieldD w.params x1 x2 t5 t6 t7 t8) :: (R, listOf its n2) :: rest)) →
            Again (fun n s₁ => ∃ (h₁ : Heap) (tk₁ : Nat) (u : PySem.Str → Option Value) (p : Nat) (tp : Tok) (its : Array Value) (n2 : Nat) (rest : List (Addr × Obj)) (fs : List (List UInt8 × List UInt8)),
              s₁ = { s with heap := h₁, toks := tk₁ } ∧ Fr s.heap s.heap.objs.size h₁ (mSp (.bytes d.toArray t) (.int (d.length : Int) t2) (.ref R) (.int (p : Int) tp) u) ∧ News s.heap s.heap.objs.size h₁ ((R, listOf its n2) :: rest) ∧
              p ≤ d.length ∧ its.size ≤ p ∧ n = d.length - p ∧ AllAre (RowOn w.params rest) its.toList fs ∧ fs ++ spans (d.drop p) = spans d) (d.length - p) { s with heap := h₃, toks := tk₃ } := by
          intro D x9 dx9 x1 x2 t5 t6 t7 t8 h₃ tk₃ m hw hx1 hx2 hD hx hdx F₃ m1 m2 m3 m4 N₃
          rw [hw, if_neg Bool.false_ne_true] at hc1 hc2
          have hkeep : ∀ q ∈ rest, q.2 ≠ listOf its n2 → q ∈ List.filter (fun p => p.1 != R) ((D, (⟨.type "tuple", none, .seq #[.ref x9, .int (p : Int) tp, .int (lt : Int) tl] 0, #[]⟩ : Obj)) :: (x9, instObj 63 dx9) :: (dx9, fieldD w.params x1 x2 t5 t6 t7 t8) :: (R, listOf its n2) :: rest) := fun q hq h =>
            List.mem_filter.mpr ⟨.tail _ (.tail _ (.tail _ (.tail _ hq))), bne_iff_ne.mpr (hold q hq h)⟩
          refine ⟨d.length - lt, by omega, h₃, tk₃, m, lt, tl, its.push (.ref D), n2 + 1, _, fs ++ [(x1, x2)], rfl, Fr.at1 F₃ m1 m2 m3 m4, N₃, hltd, ?_, rfl, ?_, span_step hsome hrc hc1 hc2 hx1 hx2 hsp⟩
          · rw [Array.size_push]; omega
          · rw [Array.toList_push]
            refine (hf.imp fun v f x => x.more hkeep).snoc ⟨D, x9, dx9, (p : Int), (lt : Int), tp, tl, t5, t6, t7, t8, 0, rfl, ?_, ?_, ?_⟩
            · exact List.mem_filter.mpr ⟨.head _, bne_iff_ne.mpr hD⟩
            · exact List.mem_filter.mpr ⟨.tail _ (.head _), bne_iff_ne.mpr hx⟩
            · exact List.mem_filter.mpr ⟨.tail _ (.tail _ (.head _)), bne_iff_ne.mpr hdx⟩
        show wpAny _ _ _ _ _ _
        k_fold
        k_steps
        · rename_i hltp v9 u9 n9 hv9 hw a9 h9 i8 j8 t8 u8 n8 k8 hi8 hj8 hij8 hjd8 e8 _ _ h' F' N'
          show Again _ _ _
          have hw' : whiteAt (d.drop lt) = true := (white_of (by omega)).mpr (by rw [hv9, Int.toNat_natCast] at hw; exact hw)
          rw [hw', if_pos rfl] at hc1 hc2
          have hpos := lineEnd_pos (l := d.drop lt) (by rw [List.length_drop]; omega)
          have hst' := cont_start hi8 hj8
          refine ⟨d.length - j8, by omega, h', _, _, i8, j8, t8, u8, rfl, Fr.at2 F' rfl rfl rfl rfl rfl rfl rfl, KStt.news_of N' (fun p hp => .tail _ hp), by omega, hij8, hjd8, rfl, hc1.trans hst'.1, hc2.trans hst'.2⟩
        · rename_i hltp v9 u9 n9 hv9 hw x1 h8 t8 k8 hx1 x2 h7 t7 k7 hx2 x9 dx9 t5 t6 t7 t8 h6 k6 e6 hne9 D h5 l1 h4 e4 h' F' N'
          refine last D x9 dx9 x1 x2 _ _ _ _ _ _ _ ?_ hx1 hx2 ?_ (Ne.symm (hne9 (R, listOf its n2) (by first | exact .head _ | exact .tail _ (.head _))).1) (Ne.symm (hne9 (R, listOf its n2) (by first | exact .head _ | exact .tail _ (.head _))).2) F' rfl rfl rfl rfl N'
          · cases h : whiteAt (d.drop lt) with
            | false => rfl
            | true => exact absurd ((white_of (by omega)).mp h) (by rw [hv9, Int.toNat_natCast] at hw; exact hw)
          · exact Nat.ne_of_gt l1.2.2.1
        · rename_i hltp x1 h8 t8 k8 hx1 x2 h7 t7 k7 hx2 x9 dx9 t5 t6 t7 t8 h6 k6 e6 hne9 D h5 l1 h4 e4 h' F' N'
          refine last D x9 dx9 x1 x2 _ _ _ _ _ _ _ (white_end (by omega)) hx1 hx2 ?_ (Ne.symm (hne9 (R, listOf its n2) (by first | exact .head _ | exact .tail _ (.head _))).1) (Ne.symm (hne9 (R, listOf its n2) (by first | exact .head _ | exact .tail _ (.head _))).2) F' rfl rfl rfl rfl N'
          exact Nat.ne_of_gt l1.2.2.1
    · rename_i D h' F' N' l1
      refine fin _ _ D its n2 _ _ _ rest _ fs _ F' N' (fun p hp => hp) hf ?_
      rw [← hsp, spans_end (by rw [List.length_drop]; omega), List.append_nil]
end
section
/-! L9 -/
local macro_rules | `(tactic| walk_at "mine pad0") => `(tactic| skip)
local macro_rules | `(tactic| walk_at "mine pad1") => `(tactic| skip)
local macro_rules | `(tactic| walk_at "mine pad2") => `(tactic| skip)
local macro_rules | `(tactic| walk_at "mine pad3") => `(tactic| skip)
local macro_rules | `(tactic| walk_at "mine pad4") => `(tactic| skip)
local macro_rules | `(tactic| walk_at "mine pad5") => `(tactic| skip)
local macro_rules | `(tactic| walk_at "mine pad6") => `(tactic| skip)
local macro_rules | `(tactic| walk_at "mine pad7") => `(tactic| skip)
local macro_rules | `(tactic| walk_at "mine pad8") => `(tactic| skip)
local macro_rules | `(tactic| walk_at "mine pad9") => `(tactic| skip)
local macro_rules | `(tactic| walk_at "mine pad10") => `(tactic| skip)
local macro_rules | `(tactic| walk_at "mine pad11") => `(tactic| skip)
local macro_rules | `(tactic| walk_at "mine pad12") => `(tactic| skip)
local macro_rules | `(tactic| walk_at "mine pad13") => `(tactic| skip)
local macro_rules | `(tactic| walk_at "mine pad14") => `(tactic| skip)
local macro_rules | `(tactic| walk_at "mine pad15") => `(tactic| skip)
local macro_rules | `(tactic| walk_at "mine pad16") => `(tactic| skip)
local macro_rules | `(tactic| walk_at "mine pad17") => `(tactic| skip)
local macro_rules | `(tactic| walk_at "mine pad18") => `(tactic| skip)
local macro_rules | `(tactic| walk_at "mine pad19") => `(tactic| skip)
local macro_rules | `(tactic| walk_at "mine pad20") => `(tactic| skip)
local macro_rules | `(tactic| walk_at "mine pad21") => `(tactic| skip)
local macro_rules | `(tactic| walk_at "mine pad22") => `(tactic| skip)
local macro_rules | `(tactic| walk_at "mine pad23") => `(tactic| skip)
local macro_rules | `(tactic| walk_at "mine pad24") => `(tactic| skip)
local macro_rules | `(tactic| walk_at "mine pad25") => `(tactic| skip)
local macro_rules | `(tactic| walk_at "mine pad26") => `(tactic| skip)
local macro_rules | `(tactic| walk_at "mine pad27") => `(tactic| skip)
local macro_rules | `(tactic| walk_at "mine pad28") => `(tactic| skip)
local macro_rules | `(tactic| walk_at "mine pad29") => `(tactic| skip)
local macro_rules | `(tactic| walk_at "mine pad30") => `(tactic| skip)
local macro_rules | `(tactic| walk_at "mine pad31") => `(tactic| skip)
local macro_rules | `(tactic| walk_at "mine pad32") => `(tactic| skip)
local macro_rules | `(tactic| walk_at "mine pad33") => `(tactic| skip)
local macro_rules | `(tactic| walk_at "mine pad34") => `(tactic| skip)
local macro_rules | `(tactic| walk_at "mine pad35") => `(tactic| skip)
local macro_rules | `(tactic| walk_at "mine pad36") => `(tactic| skip)
local macro_rules | `(tactic| walk_at "mine pad37") => `(tactic| skip)
local macro_rules | `(tactic| walk_at "mine pad38") => `(tactic| skip)
local macro_rules | `(tactic| walk_at "mine pad39") => `(tactic| skip)
local macro_rules | `(tactic| walk_at "mine pad40") => `(tactic| skip)
local macro_rules | `(tactic| walk_at "mine pad41") => `(tactic| skip)
local macro_rules | `(tactic| walk_at "mine pad42") => `(tactic| skip)
local macro_rules | `(tactic| walk_at "mine pad43") => `(tactic| skip)
local macro_rules | `(tactic| walk_at "mine pad44") => `(tactic| skip)
local macro_rules | `(tactic| walk_at "mine pad45") => `(tactic| skip)
local macro_rules | `(tactic| walk_at "mine pad46") => `(tactic| skip)
local macro_rules | `(tactic| walk_at "mine pad47") => `(tactic| skip)
local macro_rules | `(tactic| walk_at "mine pad48") => `(tactic| skip)
local macro_rules | `(tactic| walk_at "mine pad49") => `(tactic| skip)
local macro_rules | `(tactic| walk_at "mine pad50") => `(tactic| skip)
theorem off_L9 : True := by
  w_top off
  trivial
section
/-- new things onto the ledger, at its end -/
theorem onto_all {h₀ h h' : Heap} {L : Addr} {m : PySem.Str → Option Value} {news all : List (Addr × Obj)} (F : Fr h₀ L h m) (N : News h₀ L h news) (k : Ext h h') (hn : ∀ p ∈ all, h'.get? p.1 = some p.2 ∧ h.get? p.1 = none) :
    ∀ p ∈ all, h'.get? p.1 = some p.2 ∧ p.1 ≠ L ∧ h₀.get? p.1 = none := fun p hp => onto F N k (hn p hp).2 (hn p hp).1 _ (.head _)
theorem read_spans_use {w : World} {mean : ExcName → Option Value} {mg mb : Str → Option Value} {A : Around} {s : Shared} {d : List UInt8} {t t1 t2 : Tok} {Q E : Value → Shared → Prop} {h₀ : Heap} {L : Addr} {m : PySem.Str → Option Value} {news : List (Addr × Obj)}
    (X : (Mine.hd.heap_39 w.params).In h₀) (T : Top Mine.hd.view_39 Lo mean mg mb h₀) (F : Fr h₀ L s.heap m) (N : News h₀ L s.heap news) (hh : A.handled = none) (hdp : A.depth + 3 < recursionLimit) (hz : d.length ≤ 100000)
    (k : ∀ a h' R its n i t3 n2 rest tk', Ext s.heap h' → AllAre (RowOn w.params rest) its.toList (spans d) → Fr h₀ L h' m →
      News h₀ L h' ((a, ⟨.type "tuple", none, .seq #[.ref R, .int i t3] n, #[]⟩) :: (R, listOf its n2) :: (news ++ rest)) → Q (.ref a) { s with heap := h', toks := tk' }) :
    wpAny (model Pg w) A (call (.ref 96) [.bytes d.toArray t, .int 0 t1, .int (d.length : Int) t2]) Q E s := by
  obtain ⟨hd', dp, fr, gd, un⟩ := A
  cases hh
  refine read_spans_spec ⟨X.keeps F.keep, T.keeps F.keep⟩ hdp hz fun a h' R its n i t3 n2 rest tk' e1 e2 e3 => k a h' R its n i t3 n2 rest tk' e1 e2 (F.keeps e1) ?_
  have h3 := onto_all F N e1 e3
  intro p hp
  rcases List.mem_cons.mp hp with rfl | hp
  · exact h3 _ (.head _)
  · rcases List.mem_cons.mp hp with rfl | hp
    · exact h3 _ (.tail _ (.head _))
    · rcases List.mem_append.mp hp with hp | hp
      · exact N.grown e1 p hp
      · exact h3 _ (.tail _ (.tail _ hp))

/-- a Field on the ledger -/
def FieldOn (P : Params) (rest : List (Addr × Obj)) (v : Value) (f : List UInt8 × List UInt8) : Prop :=
  ∃ (x dx : Addr) (t1 t2 t3 t4 : Tok), v = .ref x ∧ (x, instObj 63 dx) ∈ rest ∧ (dx, fieldD P f.1 f.2 t1 t2 t3 t4) ∈ rest
theorem FieldOn.is {P : Params} {h : Heap} {r : List (Addr × Obj)} {v : Value} {f : List UInt8 × List UInt8} (x : FieldOn P r v f) (N : ∀ p ∈ r, h.get? p.1 = some p.2) : IsField P h v f.1 f.2 :=
  let ⟨x, dx, t1, t2, t3, t4, e, h1, h2⟩ := x; ⟨x, dx, t1, t2, t3, t4, e, N _ h1, N _ h2⟩
/-- a tuple's first item -/
def FirstOn (rest : List (Addr × Obj)) (v y : Value) : Prop := ∃ (a : Addr) (i j : Int) (t t' : Tok) (n : Nat), v = .ref a ∧ (a, (⟨.type "tuple", none, .seq #[y, .int i t, .int j t'] n, #[]⟩ : Obj)) ∈ rest
theorem firsts {P : Params} {h : Heap} {r : List (Addr × Obj)} (N : ∀ p ∈ r, h.get? p.1 = some p.2) : ∀ {vs ys : List Value} {fs : List (List UInt8 × List UInt8)}, Paired (FirstOn r) vs ys → AllAre (RowOn P r) vs fs → AllAre (FieldOn P r) ys fs
  | _, _, _, .nil, .nil => .nil
  | _, _, _, .cons h1 h2, .cons g1 g2 => by
    refine .cons ?_ (firsts N h2 g2)
    obtain ⟨a, i, j, t, t', n, e1, e2⟩ := h1
    obtain ⟨b, x, dx, i2, j2, u, u', t1, t2, t3, t4, n2, e3, e4, e5, e6⟩ := g1
    have hab : a = b := by rw [e1] at e3; injection e3
    subst hab
    have q1 := N _ e2
    have q2 := N _ e4
    have q3 := Option.some.inj (q1.symm.trans q2)
    injection q3 with _ _ q3 _
    injection q3 with q3 _
    have q4 : _ = Value.ref x := congrArg (fun z : Array Value => z[0]!) q3
    exact ⟨x, dx, t1, t2, t3, t4, q4, e5, e6⟩

local macro_rules | `(tactic| k_room) => `(tactic| ((try simp only [depth_under_make, depth_under_kw, depth_in1, depth_deeper, depth_caller, Ar] at *); omega))
local macro_rules | `(tactic| walk_at "mine enter") => `(tactic| (
  (case kG => assumption); (case k6 => k_is); (case k7 => k_is); (case k8 => k_room); (case k9 => exact BindsTo.of_eq rfl); (case c5 => decide); (case kB => exact locs rfl); (case c2 => exact rfl); (case c3 => exact rfl); (case c4 => exact rfl)))
local macro_rules | `(tactic| walk_at "mine enterK") => `(tactic| (
  (case kG => assumption); (case k6 => k_is); (case k7 => k_is); (case k8 => k_room); (case k9 => exact binds_K (by with_reducible assumption) rfl (by k_is) rfl rfl rfl); (case c5 => decide); (case kB => exact locs rfl); (case c2 => exact rfl); (case c3 => exact rfl); (case c4 => exact rfl)))
local macro_rules | `(tactic| walk_at "eval Name") => `(tactic| (k_here; (with_reducible rename Fr _ _ _ _ => kF); k_dflt (first
  | (refine' nameG_L ?a ?b ?_ ?c ?d ?e; (case a => assumption); (case b => assumption); (case c => rfl); (case d => rfl); (case e => decide); k_whole)
  | (refine' nameG_K kF ?k1 ?k2 ?k3 ?_ ?k4 ?k5 ?k6 ?k7; (case k4 => rfl); (case k5 => rfl); (case k6 => rfl); (case k7 => decide); (case k1 => k_asm); (case k2 => k_asm); (case k3 => k_is); k_whole)
  | (refine' nameG_B kF ?k1 ?k2 ?k3 ?kv ?kn ?_ ?k4 ?k8 ?k5 ?k6 ?k7; (case k4 => rfl); (case k8 => rfl); (case k5 => rfl); (case k6 => rfl); (case k7 => decide); (case kn => decide); (case k1 => k_asm); (case k2 => k_asm); (case k3 => k_is); (case kv => boot_by_name); k_whole))))
local macro_rules | `(tactic| walk_at "call ref") => `(tactic| (k_here; (with_reducible show wpAny _ _ (call (Value.ref 96) _) _ _ _); k_dflt (refine' read_spans_use ?k1 ?k2 ?k3 ?k4 ?k5 ?k6 ?k7 ?_; (case k1 => k_asm); (case k2 => k_asm); (case k3 => k_asm); (case k4 => k_asm); (case k5 => exact rfl); (case k6 => k_room); (case k7 => omega)); intro a9 h9 R9 its9 n9 i9 t9 m9 rest9 k9 e9 hA9 F9 N9; (try simp only [List.cons_append, List.nil_append, List.append_nil] at N9)))
local macro_rules | `(tactic| walk_at "subscriptTail") => `(tactic| (k_here; (with_reducible show wpAny _ _ (subscriptTail _ _ (Value.ref _) (Value.int _ _)) _ _ _); (with_unfolding_all refine' item_tupleT ?k1 ?k2 ?k3 ?k4 ?k5 ?_ ?k6; (case k1 => with_reducible assumption); (case k2 => decide); (case k3 => decide); (case k4 => rfl); (case k5 => rfl); (case k6 => with_unfolding_all rfl); k_whole)))
local macro_rules | `(tactic| walk_at "eval ListComp") => `(tactic| (k_here; refine Halt.of ?_))
set_option maxHeartbeats 4000000 in
theorem read_fields_spec {w : World} {mean : ExcName → Option Value} {mg mb : Str → Option Value} {dp un : Nat} {fr : Option (List Env)} {gd : Option (List Code)} {s : Shared} {d : List UInt8} {t t1 t2 : Tok} {Q E : Value → Shared → Prop}
    (G : Gnd w mean mg mb s.heap) (hdp : dp + 4 < recursionLimit) (hz : d.length ≤ 100000)
    (k : ∀ a h' R its n i t3 n2 rest tk', Ext s.heap h' → AllAre (FieldOn w.params rest) its.toList (spans d) →
      (∀ p ∈ (a, (⟨.type "tuple", none, .seq #[.ref R, .int i t3] n, #[]⟩ : Obj)) :: (R, listOf its n2) :: rest, h'.get? p.1 = some p.2 ∧ s.heap.get? p.1 = none) → Q (.ref a) { s with heap := h', toks := tk' }) :
    wpAny (model Pg w) (Ar dp un fr gd) (call (.ref 102) [.bytes d.toArray t, .int 0 t1, .int (d.length : Int) t2]) Q E s := by
  have X := G.X
  refine wpAny_call ?_
  refine' enter [("data", .bytes d.toArray t), ("at", .int 0 t1), ("end", .int (d.length : Int) t2)] ?kG ?k6 ?k7 ?k8 ?k9 ?kB ?_ ?c2 ?c3 ?c4 ?c5
  walk_at "mine enterK"
  intro h' F' N' X' T'
  k_fold
  k_steps
  rename_i a9 h9 R9 its9 n9 i9 t9 m9 rest k9 e9 hA9 h8 h7 h6 F6 N6
  have hrest : ∀ p ∈ rest, h6.get? p.1 = some p.2 := fun p hp => (N6 _ (.tail _ (.tail _ hp))).1
  show wpAny _ _ _ _ _ _
  refine comp_K (fun _ => true) (FirstOn rest) (by decide) (by decide) rfl (by decide) rfl ?_ (fun _ => rfl)
  k_steps
  have hlen : its9.toList.length ≤ 100000 := by rw [hA9.length]; exact Nat.le_trans (spans_len d).1 hz
  refine compK_list (its := its9.toList) rfl ⟨_, (N6 _ (.tail _ (.head _))).1, rfl, m9, rfl⟩ (by rw [sizeLine_eq]; exact Nat.le_trans hlen (by decide)) (tests_none fun C i v s₃ m₃ E' hP hn hm hk => ?elt) fun D h5 tk5 ys n hD hl hR hk => ?fin
  case elt =>
    obtain ⟨f, _, a, x, dx, i1, j1, t1, t2, t3, t4, t5, t6, n1, rfl, e1, e2, e3⟩ := hA9.at i v hP
    have F₃ := F6.keeps hk
    have N₃ := N6.grown hk
    have ht : IsTup s₃.heap a [Value.ref x, .int i1 t1, .int j1 t2].toArray := ⟨_, hk _ _ (hrest _ e1), rfl, _, rfl⟩
    k_steps
    · exact ⟨a, i1, j1, t1, t2, n1, rfl, e1⟩
    · exact ⟨s₃.heap, _, rfl, fun _ _ e => e⟩
  case fin =>
    rw [List.filter_eq_self.mpr (fun _ _ => rfl)] at hR
    have hF := firsts hrest hR hA9
    have F₃ := F6.keeps hk
    have N₃ := onto F6 (KStt.news_of N6 (b := (R9, listOf its9 m9) :: rest) (fun p hp => .tail _ hp)) hk hD hl
    clear N6
    k_steps
    rename_i D2 h4 F4 N4 l4
    refine k D2 h4 D ys 0 i9 t9 n rest _ F4.keep hF ?_
    intro p hp
    rcases List.mem_cons.mp hp with rfl | hp
    · exact ⟨(N4 _ (.head _)).1, (N4 _ (.head _)).2.2⟩
    · rcases List.mem_cons.mp hp with rfl | hp
      · exact ⟨(N4 _ (.tail _ (.head _))).1, (N4 _ (.tail _ (.head _))).2.2⟩
      · exact ⟨(N4 _ (.tail _ (.tail _ (.tail _ hp)))).1, (N4 _ (.tail _ (.tail _ (.tail _ hp)))).2.2⟩
theorem read_fields_use {w : World} {mean : ExcName → Option Value} {mg mb : Str → Option Value} {A : Around} {s : Shared} {d : List UInt8} {t t1 t2 : Tok} {Q E : Value → Shared → Prop} {h₀ : Heap} {L : Addr} {m : PySem.Str → Option Value} {news : List (Addr × Obj)}
    (X : (Mine.hd.heap_39 w.params).In h₀) (T : Top Mine.hd.view_39 Lo mean mg mb h₀) (F : Fr h₀ L s.heap m) (N : News h₀ L s.heap news) (hh : A.handled = none) (hdp : A.depth + 4 < recursionLimit) (hz : d.length ≤ 100000)
    (k : ∀ a h' R its n i t3 n2 rest tk', Ext s.heap h' → AllAre (FieldOn w.params rest) its.toList (spans d) → Fr h₀ L h' m →
      News h₀ L h' ((a, ⟨.type "tuple", none, .seq #[.ref R, .int i t3] n, #[]⟩) :: (R, listOf its n2) :: (news ++ rest)) → Q (.ref a) { s with heap := h', toks := tk' }) :
    wpAny (model Pg w) A (call (.ref 102) [.bytes d.toArray t, .int 0 t1, .int (d.length : Int) t2]) Q E s := by
  obtain ⟨hd', dp, fr, gd, un⟩ := A
  cases hh
  refine read_fields_spec ⟨X.keeps F.keep, T.keeps F.keep⟩ hdp hz fun a h' R its n i t3 n2 rest tk' e1 e2 e3 => k a h' R its n i t3 n2 rest tk' e1 e2 (F.keeps e1) ?_
  have h3 := onto_all F N e1 e3
  intro p hp
  rcases List.mem_cons.mp hp with rfl | hp
  · exact h3 _ (.head _)
  · rcases List.mem_cons.mp hp with rfl | hp
    · exact h3 _ (.tail _ (.head _))
    · rcases List.mem_append.mp hp with hp | hp
      · exact N.grown e1 p hp
      · exact h3 _ (.tail _ (.tail _ hp))
end
end
section
/-! L10 -/
local macro_rules | `(tactic| walk_at "mine pad0") => `(tactic| skip)
local macro_rules | `(tactic| walk_at "mine pad1") => `(tactic| skip)
local macro_rules | `(tactic| walk_at "mine pad2") => `(tactic| skip)
local macro_rules | `(tactic| walk_at "mine pad3") => `(tactic| skip)
local macro_rules | `(tactic| walk_at "mine pad4") => `(tactic| skip)
local macro_rules | `(tactic| walk_at "mine pad5") => `(tactic| skip)
local macro_rules | `(tactic| walk_at "mine pad6") => `(tactic| skip)
local macro_rules | `(tactic| walk_at "mine pad7") => `(tactic| skip)
local macro_rules | `(tactic| walk_at "mine pad8") => `(tactic| skip)
local macro_rules | `(tactic| walk_at "mine pad9") => `(tactic| skip)
local macro_rules | `(tactic| walk_at "mine pad10") => `(tactic| skip)
local macro_rules | `(tactic| walk_at "mine pad11") => `(tactic| skip)
local macro_rules | `(tactic| walk_at "mine pad12") => `(tactic| skip)
local macro_rules | `(tactic| walk_at "mine pad13") => `(tactic| skip)
local macro_rules | `(tactic| walk_at "mine pad14") => `(tactic| skip)
local macro_rules | `(tactic| walk_at "mine pad15") => `(tactic| skip)
local macro_rules | `(tactic| walk_at "mine pad16") => `(tactic| skip)
local macro_rules | `(tactic| walk_at "mine pad17") => `(tactic| skip)
local macro_rules | `(tactic| walk_at "mine pad18") => `(tactic| skip)
local macro_rules | `(tactic| walk_at "mine pad19") => `(tactic| skip)
local macro_rules | `(tactic| walk_at "mine pad20") => `(tactic| skip)
local macro_rules | `(tactic| walk_at "mine pad21") => `(tactic| skip)
local macro_rules | `(tactic| walk_at "mine pad22") => `(tactic| skip)
local macro_rules | `(tactic| walk_at "mine pad23") => `(tactic| skip)
local macro_rules | `(tactic| walk_at "mine pad24") => `(tactic| skip)
local macro_rules | `(tactic| walk_at "mine pad25") => `(tactic| skip)
local macro_rules | `(tactic| walk_at "mine pad26") => `(tactic| skip)
local macro_rules | `(tactic| walk_at "mine pad27") => `(tactic| skip)
local macro_rules | `(tactic| walk_at "mine pad28") => `(tactic| skip)
local macro_rules | `(tactic| walk_at "mine pad29") => `(tactic| skip)
local macro_rules | `(tactic| walk_at "mine pad30") => `(tactic| skip)
local macro_rules | `(tactic| walk_at "mine pad31") => `(tactic| skip)
local macro_rules | `(tactic| walk_at "mine pad32") => `(tactic| skip)
local macro_rules | `(tactic| walk_at "mine pad33") => `(tactic| skip)
local macro_rules | `(tactic| walk_at "mine pad34") => `(tactic| skip)
local macro_rules | `(tactic| walk_at "mine pad35") => `(tactic| skip)
local macro_rules | `(tactic| walk_at "mine pad36") => `(tactic| skip)
local macro_rules | `(tactic| walk_at "mine pad37") => `(tactic| skip)
local macro_rules | `(tactic| walk_at "mine pad38") => `(tactic| skip)
local macro_rules | `(tactic| walk_at "mine pad39") => `(tactic| skip)
local macro_rules | `(tactic| walk_at "mine pad40") => `(tactic| skip)
local macro_rules | `(tactic| walk_at "mine pad41") => `(tactic| skip)
local macro_rules | `(tactic| walk_at "mine pad42") => `(tactic| skip)
local macro_rules | `(tactic| walk_at "mine pad43") => `(tactic| skip)
local macro_rules | `(tactic| walk_at "mine pad44") => `(tactic| skip)
local macro_rules | `(tactic| walk_at "mine pad45") => `(tactic| skip)
local macro_rules | `(tactic| walk_at "mine pad46") => `(tactic| skip)
local macro_rules | `(tactic| walk_at "mine pad47") => `(tactic| skip)
theorem off_L10 : True := by
  w_top off
  trivial
section
def mRo (v1 v2 v3 : Value) (u : PySem.Str → Option Value) : PySem.Str → Option Value := fun z =>
  if z = Str.ofString "raw" then some v1 else if z = Str.ofString "rows" then some v2 else if z = Str.ofString "at" then some v3 else u z
theorem Fr.at3 {h₀ h : Heap} {L : Addr} {v1 v2 v3 : Value} {m : PySem.Str → Option Value} (F : Fr h₀ L h m) (h1 : m (Str.ofString "raw") = some v1) (h2 : m (Str.ofString "rows") = some v2) (h3 : m (Str.ofString "at") = some v3) : Fr h₀ L h (mRo v1 v2 v3 m) := by
  have e : m = mRo v1 v2 v3 m := by
    funext z
    unfold mRo
    split
    · rename_i e; rw [e, h1]
    · split
      · rename_i e; rw [e, h2]
      · split
        · rename_i e; rw [e, h3]
        · rfl
  rw [← e]; exact F
theorem rows_done {l : List UInt8} (h : (lineEnd l).1 = l.length) : rowsP l = [l.take (lineEnd l).1] := by rw [rowsP, dif_pos h]
theorem rows_more {l : List UInt8} (h : (lineEnd l).1 ≠ l.length) : rowsP l = l.take (lineEnd l).1 :: rowsP (l.drop (lineEnd l).2) := by rw [rowsP, dif_neg h]

local macro_rules | `(tactic| k_room) => `(tactic| ((try simp only [depth_under_make, depth_under_kw, depth_in1, depth_deeper, depth_caller, Ar] at *); omega))
local macro_rules | `(tactic| walk_at "mine enter") => `(tactic| (
  (case kG => assumption); (case k6 => k_is); (case k7 => k_is); (case k8 => k_room); (case k9 => exact BindsTo.of_eq rfl); (case c5 => decide); (case kB => exact locs rfl); (case c2 => exact rfl); (case c3 => exact rfl); (case c4 => exact rfl)))
local macro_rules | `(tactic| walk_at "mine enterK") => `(tactic| (
  (case kG => assumption); (case k6 => k_is); (case k7 => k_is); (case k8 => k_room); (case k9 => exact binds_K (by with_reducible assumption) rfl (by k_is) rfl rfl rfl); (case c5 => decide); (case kB => exact locs rfl); (case c2 => exact rfl); (case c3 => exact rfl); (case c4 => exact rfl)))
local macro_rules | `(tactic| walk_at "eval Name") => `(tactic| (k_here; (with_reducible rename Fr _ _ _ _ => kF); k_dflt (first
  | (refine' nameG_L ?a ?b ?_ ?c ?d ?e; (case a => assumption); (case b => assumption); (case c => rfl); (case d => rfl); (case e => decide); k_whole)
  | (refine' nameG_K kF ?k1 ?k2 ?k3 ?_ ?k4 ?k5 ?k6 ?k7; (case k4 => rfl); (case k5 => rfl); (case k6 => rfl); (case k7 => decide); (case k1 => k_asm); (case k2 => k_asm); (case k3 => k_is); k_whole)
  | (refine' nameG_B kF ?k1 ?k2 ?k3 ?kv ?kn ?_ ?k4 ?k8 ?k5 ?k6 ?k7; (case k4 => rfl); (case k8 => rfl); (case k5 => rfl); (case k6 => rfl); (case k7 => decide); (case kn => decide); (case k1 => k_asm); (case k2 => k_asm); (case k3 => k_is); (case kv => boot_by_name); k_whole))))
local macro_rules | `(tactic| walk_at "exec While Compare cons nil") => `(tactic| (k_here; refine Halt.of ?_))
local macro_rules | `(tactic| walk_at "exec While Constant cons nil") => `(tactic| (k_here; refine Halt.of ?_))
local macro_rules | `(tactic| walk_at "exec While BoolOp cons nil") => `(tactic| (k_here; refine Halt.of ?_))
local macro_rules | `(tactic| walk_at "subscriptTail") => `(tactic| (k_here; (with_reducible show wpAny _ _ (subscriptTail _ _ (Value.bytes (List.toArray _) _) (Value.int _ _)) _ _ _); (refine item_B (by omega) (by omega) (by omega) ?_); intro v9 u9 n9 hv9))
local macro_rules | `(tactic| walk_at "subscriptTail") => `(tactic| (k_here; (with_reducible show wpAny _ _ (subscriptTail _ (Expr.Slice _ _ none _) (Value.bytes _ _) (Value.ref _)) _ _ _); (with_reducible rename Fr _ _ _ _ => F'); (with_reducible rename News _ _ _ _ => N'); (refine slice_B (s := ⟨_, _, _, _, _⟩) F' N' (by omega) (by omega) (by omega) (by omega) ?_); intro x9 h9 t9 k9 hx9 F9 N9))
local macro_rules | `(tactic| walk_at "call ref") => `(tactic| (k_here; (with_reducible show wpAny _ _ (call (Value.ref 74) _) _ _ _); k_dflt (refine' line_at_use ?k1 ?k2 ?k3 ?k4 ?k5 ?k6 ?k7 ?k8 ?_; (case k1 => k_asm); (case k2 => k_asm); (case k3 => k_asm); (case k4 => k_asm); (case k5 => exact rfl); (case k6 => k_room); (case k7 => omega); (case k8 => omega)); intro a9 h9 i9 j9 t9 u9 n9 k9 hi9 hj9 hij9 hjd9 e9 F9 N9))
local macro_rules | `(tactic| walk_at "call builtin:list.append") => `(tactic| (k_here; (with_reducible rename Fr _ _ _ _ => F'); (with_reducible rename News _ _ _ _ => N'); k_dflt (refine' append_L F' N' ?km ?_ ?kz; (case km => k_mem); (case kz => omega)); intro h9 F9 N9 e9))
set_option maxHeartbeats 4000000 in
theorem rows_of_spec {w : World} {mean : ExcName → Option Value} {mg mb : Str → Option Value} {dp un : Nat} {fr : Option (List Env)} {gd : Option (List Code)} {s : Shared} {d : List UInt8} {t : Tok} {Q E : Value → Shared → Prop}
    (G : Gnd w mean mg mb s.heap) (hdp : dp + 2 < recursionLimit) (hz : d.length ≤ 100000)
    (k : ∀ R h' its n tk', Ext s.heap h' → BytesAre its.toList (rowsP d) → h'.get? R = some (listOf its n) → s.heap.get? R = none → Q (.ref R) { s with heap := h', toks := tk' }) :
    wpAny (model Pg w) (Ar dp un fr gd) (call (.ref 109) [.bytes d.toArray t]) Q E s := by
  refine wpAny_call ?_
  refine' enter [("raw", .bytes d.toArray t)] ?kG ?k6 ?k7 ?k8 ?k9 ?kB ?_ ?c2 ?c3 ?c4 ?c5
  walk_at "mine enter"
  intro h' F' N' X' T'
  k_fold
  k_steps
  rename_i h1 R h2 l1 h3 h4 F1 N1
  show wpAny _ _ _ _ _ _
  refine While_S (fun n s₁ => ∃ (h₁ : Heap) (tk₁ : Nat) (u : PySem.Str → Option Value) (p : Nat) (tp : Tok) (its : Array Value) (n2 : Nat) (ps : List (List UInt8)),
    s₁ = { s with heap := h₁, toks := tk₁ } ∧ Fr s.heap s.heap.objs.size h₁ (mRo (.bytes d.toArray t) (.ref R) (.int (p : Int) tp) u) ∧ News s.heap s.heap.objs.size h₁ [(R, listOf its n2)] ∧
    p ≤ d.length ∧ its.size ≤ p ∧ n = d.length - p ∧ BytesAre its.toList ps ∧ ps ++ rowsP (d.drop p) = rowsP d) d.length ?h0 ?turn
  case h0 =>
    exact ⟨_, _, _, 0, _, #[], 0, [], rfl, Fr.at3 F1 rfl rfl rfl, N1, Nat.zero_le _, Nat.le_refl _, rfl, .nil, rfl⟩
  case turn =>
    rintro n s₁ ⟨h₁, tk₁, u, p, tp, its, n2, ps, rfl, F₁, N₁, hp, hs, rfl, hf, hsp⟩
    clear F1 N1
    show wpAny _ _ _ _ _ _
    k_fold
    k_steps
    · rename_i a9 h9a i9 j9 t9a u9 n9 k9a hi9 hj9 hij9 hjd9 e9a hx1 hx2 hx3 F2 N2 tk2 x9 h9b t9 k9 hx9 F3 N3 h9 F4 N4 e9 tk3 hlast
      rw [List.size_toArray] at hlast
      have hll : (lineEnd (d.drop p)).1 = (d.drop p).length := by rw [List.length_drop]; omega
      have hx : x9 = (d.drop p).take (lineEnd (d.drop p)).1 := by
        rw [hx9, Int.toNat_natCast, Int.toNat_natCast, hi9, Nat.add_sub_cancel_left]
      refine k R h9 (its.push (.bytes x9.toArray t9)) _ _ F4.keep ?_ (N4 _ (.head _)).1 (N4 _ (.head _)).2.2
      rw [Array.toList_push, ← hsp, rows_done hll, ← hx]
      exact hf.snoc
    · rename_i a9 h9a i9 j9 t9a u9 n9 k9a hi9 hj9 hij9 hjd9 e9a hx1 hx2 hx3 tk2 x9 h9b t9 k9 hx9 h9 e9 tk3 hlast h' F4 N4
      rw [List.size_toArray] at hlast
      show Again _ _ _
      have hll : (lineEnd (d.drop p)).1 ≠ (d.drop p).length := by
        rw [List.length_drop]
        have := (lineEnd_le (d.drop p))
        rw [List.length_drop] at this
        omega
      have hm := lineEnd_more hll
      rw [List.length_drop] at hm
      have hx : x9 = (d.drop p).take (lineEnd (d.drop p)).1 := by
        rw [hx9, Int.toNat_natCast, Int.toNat_natCast, hi9, Nat.add_sub_cancel_left]
      refine ⟨d.length - j9, by omega, h', _, _, j9, u9, its.push (.bytes x9.toArray t9), n2 + 1, ps ++ [x9], rfl, Fr.at3 F4 rfl rfl rfl, KStt.news_of N4 (b := [(R, listOf (its.push (.bytes x9.toArray t9)) (n2 + 1))]) (fun p hp => by rw [List.mem_singleton.mp hp]; exact .head _), hjd9, ?_, rfl, ?_, ?_⟩
      · rw [Array.size_push]; omega
      · rw [Array.toList_push]; exact hf.snoc
      · have e : (d.drop p).drop (lineEnd (d.drop p)).2 = d.drop j9 := by rw [List.drop_drop, hj9]
        rw [← hsp, rows_more hll, e, ← hx, List.append_assoc]; rfl
theorem rows_of_use {w : World} {mean : ExcName → Option Value} {mg mb : Str → Option Value} {A : Around} {s : Shared} {d : List UInt8} {t : Tok} {Q E : Value → Shared → Prop} {h₀ : Heap} {L : Addr} {m : PySem.Str → Option Value} {news : List (Addr × Obj)}
    (X : (Mine.hd.heap_39 w.params).In h₀) (T : Top Mine.hd.view_39 Lo mean mg mb h₀) (F : Fr h₀ L s.heap m) (N : News h₀ L s.heap news) (hh : A.handled = none) (hdp : A.depth + 2 < recursionLimit) (hz : d.length ≤ 100000)
    (k : ∀ R h' its n tk', Ext s.heap h' → BytesAre its.toList (rowsP d) → Fr h₀ L h' m → News h₀ L h' ((R, listOf its n) :: news) → Q (.ref R) { s with heap := h', toks := tk' }) :
    wpAny (model Pg w) A (call (.ref 109) [.bytes d.toArray t]) Q E s := by
  obtain ⟨hd', dp, fr, gd, un⟩ := A
  cases hh
  exact rows_of_spec ⟨X.keeps F.keep, T.keeps F.keep⟩ hdp hz fun R h' its n tk' e1 e2 e3 e4 => k R h' its n tk' e1 e2 (F.keeps e1) (onto F N e1 e4 e3)
end
end
section
/-! L11 -/
local macro_rules | `(tactic| walk_at "mine pad0") => `(tactic| skip)
local macro_rules | `(tactic| walk_at "mine pad1") => `(tactic| skip)
local macro_rules | `(tactic| walk_at "mine pad2") => `(tactic| skip)
local macro_rules | `(tactic| walk_at "mine pad3") => `(tactic| skip)
local macro_rules | `(tactic| walk_at "mine pad4") => `(tactic| skip)
local macro_rules | `(tactic| walk_at "mine pad5") => `(tactic| skip)
local macro_rules | `(tactic| walk_at "mine pad6") => `(tactic| skip)
local macro_rules | `(tactic| walk_at "mine pad7") => `(tactic| skip)
local macro_rules | `(tactic| walk_at "mine pad8") => `(tactic| skip)
local macro_rules | `(tactic| walk_at "mine pad9") => `(tactic| skip)
local macro_rules | `(tactic| walk_at "mine pad10") => `(tactic| skip)
local macro_rules | `(tactic| walk_at "mine pad11") => `(tactic| skip)
local macro_rules | `(tactic| walk_at "mine pad12") => `(tactic| skip)
local macro_rules | `(tactic| walk_at "mine pad13") => `(tactic| skip)
local macro_rules | `(tactic| walk_at "mine pad14") => `(tactic| skip)
local macro_rules | `(tactic| walk_at "mine pad15") => `(tactic| skip)
local macro_rules | `(tactic| walk_at "mine pad16") => `(tactic| skip)
local macro_rules | `(tactic| walk_at "mine pad17") => `(tactic| skip)
local macro_rules | `(tactic| walk_at "mine pad18") => `(tactic| skip)
local macro_rules | `(tactic| walk_at "mine pad19") => `(tactic| skip)
local macro_rules | `(tactic| walk_at "mine pad20") => `(tactic| skip)
local macro_rules | `(tactic| walk_at "mine pad21") => `(tactic| skip)
local macro_rules | `(tactic| walk_at "mine pad22") => `(tactic| skip)
local macro_rules | `(tactic| walk_at "mine pad23") => `(tactic| skip)
local macro_rules | `(tactic| walk_at "mine pad24") => `(tactic| skip)
local macro_rules | `(tactic| walk_at "mine pad25") => `(tactic| skip)
local macro_rules | `(tactic| walk_at "mine pad26") => `(tactic| skip)
local macro_rules | `(tactic| walk_at "mine pad27") => `(tactic| skip)
local macro_rules | `(tactic| walk_at "mine pad28") => `(tactic| skip)
local macro_rules | `(tactic| walk_at "mine pad29") => `(tactic| skip)
local macro_rules | `(tactic| walk_at "mine pad30") => `(tactic| skip)
local macro_rules | `(tactic| walk_at "mine pad31") => `(tactic| skip)
local macro_rules | `(tactic| walk_at "mine pad32") => `(tactic| skip)
local macro_rules | `(tactic| walk_at "mine pad33") => `(tactic| skip)
local macro_rules | `(tactic| walk_at "mine pad34") => `(tactic| skip)
local macro_rules | `(tactic| walk_at "mine pad35") => `(tactic| skip)
local macro_rules | `(tactic| walk_at "mine pad36") => `(tactic| skip)
local macro_rules | `(tactic| walk_at "mine pad37") => `(tactic| skip)
local macro_rules | `(tactic| walk_at "mine pad38") => `(tactic| skip)
local macro_rules | `(tactic| walk_at "mine pad39") => `(tactic| skip)
local macro_rules | `(tactic| walk_at "mine pad40") => `(tactic| skip)
local macro_rules | `(tactic| walk_at "mine pad41") => `(tactic| skip)
local macro_rules | `(tactic| walk_at "mine pad42") => `(tactic| skip)
local macro_rules | `(tactic| walk_at "mine pad43") => `(tactic| skip)
local macro_rules | `(tactic| walk_at "mine pad44") => `(tactic| skip)
local macro_rules | `(tactic| walk_at "mine pad45") => `(tactic| skip)
local macro_rules | `(tactic| walk_at "mine pad46") => `(tactic| skip)
theorem off_L11 : True := by
  w_top off
  trivial
section
/-- a field's body -/
def bodyP (d : List UInt8) : List UInt8 := stripL (rowsP d).flatten
local macro_rules | `(tactic| k_room) => `(tactic| ((try simp only [depth_under_make, depth_under_kw, depth_in1, depth_deeper, depth_caller, Ar] at *); omega))
local macro_rules | `(tactic| walk_at "mine enter") => `(tactic| (
  (case kG => assumption); (case k6 => k_is); (case k7 => k_is); (case k8 => k_room); (case k9 => exact BindsTo.of_eq rfl); (case c5 => decide); (case kB => exact locs rfl); (case c2 => exact rfl); (case c3 => exact rfl); (case c4 => exact rfl)))
local macro_rules | `(tactic| walk_at "mine enterK") => `(tactic| (
  (case kG => assumption); (case k6 => k_is); (case k7 => k_is); (case k8 => k_room); (case k9 => exact binds_K (by with_reducible assumption) rfl (by k_is) rfl rfl rfl); (case c5 => decide); (case kB => exact locs rfl); (case c2 => exact rfl); (case c3 => exact rfl); (case c4 => exact rfl)))
local macro_rules | `(tactic| walk_at "eval Name") => `(tactic| (k_here; (with_reducible rename Fr _ _ _ _ => kF); k_dflt (first
  | (refine' nameG_L ?a ?b ?_ ?c ?d ?e; (case a => assumption); (case b => assumption); (case c => rfl); (case d => rfl); (case e => decide); k_whole)
  | (refine' nameG_K kF ?k1 ?k2 ?k3 ?_ ?k4 ?k5 ?k6 ?k7; (case k4 => rfl); (case k5 => rfl); (case k6 => rfl); (case k7 => decide); (case k1 => k_asm); (case k2 => k_asm); (case k3 => k_is); k_whole)
  | (refine' nameG_B kF ?k1 ?k2 ?k3 ?kv ?kn ?_ ?k4 ?k8 ?k5 ?k6 ?k7; (case k4 => rfl); (case k8 => rfl); (case k5 => rfl); (case k6 => rfl); (case k7 => decide); (case kn => decide); (case k1 => k_asm); (case k2 => k_asm); (case k3 => k_is); (case kv => boot_by_name); k_whole))))
local macro_rules | `(tactic| walk_at "getMethod bytes") => `(tactic| (k_here; (with_reducible refine meth_find ?_)))
local macro_rules | `(tactic| walk_at "getMethod bytes") => `(tactic| (k_here; (with_reducible refine meth_strip ?_)))
local macro_rules | `(tactic| walk_at "getMethod bytes") => `(tactic| (k_here; (with_reducible refine meth_split ?_)))
local macro_rules | `(tactic| walk_at "getMethod bytes") => `(tactic| (k_here; (with_reducible refine meth_join ?_)))
local macro_rules | `(tactic| walk_at "call builtin:bytes.find") => `(tactic| (k_here; (refine find_L (by omega) (by omega) ?_); intro r9 t9 k9 hr9 hr8 hr7))
local macro_rules | `(tactic| walk_at "call builtin:bytes.strip") => `(tactic| (k_here; refine Halt.of ?_))
local macro_rules | `(tactic| walk_at "call builtin:bytes.split") => `(tactic| (k_here; refine Halt.of ?_))
local macro_rules | `(tactic| walk_at "call builtin:bytes.join") => `(tactic| (k_here; refine Halt.of ?_))
local macro_rules | `(tactic| walk_at "call ref") => `(tactic| (k_here; (with_reducible show wpAny _ _ (call (Value.ref 109) _) _ _ _); k_dflt (refine' rows_of_use ?k1 ?k2 ?k3 ?k4 ?k5 ?k6 ?k7 ?_; (case k1 => k_asm); (case k2 => k_asm); (case k3 => k_asm); (case k4 => k_asm); (case k5 => exact rfl); (case k6 => k_room); (case k7 => omega)); intro R9 h9 its9 n9 k9 e9 hA9 F9 N9))
set_option maxHeartbeats 4000000 in
theorem unfolded_spec {w : World} {mean : ExcName → Option Value} {mg mb : Str → Option Value} {dp un : Nat} {fr : Option (List Env)} {gd : Option (List Code)} {s : Shared} {d : List UInt8} {t : Tok} {Q E : Value → Shared → Prop}
    (G : Gnd w mean mg mb s.heap) (hdp : dp + 3 < recursionLimit) (hz : d.length ≤ 100000)
    (k : ∀ h' t' tk', Ext s.heap h' → Q (.bytes (bodyP d).toArray t') { s with heap := h', toks := tk' }) :
    wpAny (model Pg w) (Ar dp un fr gd) (call (.ref 116) [.bytes d.toArray t]) Q E s := by
  refine wpAny_call ?_
  refine' enter [("raw", .bytes d.toArray t)] ?kG ?k6 ?k7 ?k8 ?k9 ?kB ?_ ?c2 ?c3 ?c4 ?c5
  walk_at "mine enter"
  intro h' F' N' X' T'
  k_fold
  k_steps
  rename_i R9 h9 its9 n9 k9 e9 hA9 F9 N9
  show wpAny _ _ _ _ _ _
  have hl := rowsP_len d
  have hfl : (rowsP d).flatten.length ≤ d.length := by rw [List.length_flatten]; exact hl.1
  refine call_join (sep := []) (vs := its9.toList) (ps := rowsP d) ⟨_, (N9 _ (.head _)).1, rfl, n9, rfl⟩ hA9 (by rw [List.length_nil, Nat.zero_mul]; omega) fun t9 k8 => ?_
  rw [glue_nil]
  k_steps
  show wpAny _ _ _ _ _ _
  refine call_strip (by rw [List.size_toArray]; omega) fun t8 k7 => ?_
  k_steps
  exact k h9 t8 k7 F9.keep
theorem unfolded_use {w : World} {mean : ExcName → Option Value} {mg mb : Str → Option Value} {A : Around} {s : Shared} {d : List UInt8} {t : Tok} {Q E : Value → Shared → Prop} {h₀ : Heap} {L : Addr} {m : PySem.Str → Option Value} {news : List (Addr × Obj)}
    (X : (Mine.hd.heap_39 w.params).In h₀) (T : Top Mine.hd.view_39 Lo mean mg mb h₀) (F : Fr h₀ L s.heap m) (N : News h₀ L s.heap news) (hh : A.handled = none) (hdp : A.depth + 3 < recursionLimit) (hz : d.length ≤ 100000)
    (k : ∀ h' t' tk', Ext s.heap h' → Fr h₀ L h' m → News h₀ L h' news → Q (.bytes (bodyP d).toArray t') { s with heap := h', toks := tk' }) :
    wpAny (model Pg w) A (call (.ref 116) [.bytes d.toArray t]) Q E s := by
  obtain ⟨hd', dp, fr, gd, un⟩ := A
  cases hh
  exact unfolded_spec ⟨X.keeps F.keep, T.keeps F.keep⟩ hdp hz fun h' t' tk' e1 => k h' t' tk' e1 (F.keeps e1) (N.grown e1)
end
end
section
/-! L12 -/
local macro_rules | `(tactic| walk_at "mine pad0") => `(tactic| skip)
local macro_rules | `(tactic| walk_at "mine pad1") => `(tactic| skip)
local macro_rules | `(tactic| walk_at "mine pad2") => `(tactic| skip)
local macro_rules | `(tactic| walk_at "mine pad3") => `(tactic| skip)
local macro_rules | `(tactic| walk_at "mine pad4") => `(tactic| skip)
local macro_rules | `(tactic| walk_at "mine pad5") => `(tactic| skip)
local macro_rules | `(tactic| walk_at "mine pad6") => `(tactic| skip)
local macro_rules | `(tactic| walk_at "mine pad7") => `(tactic| skip)
local macro_rules | `(tactic| walk_at "mine pad8") => `(tactic| skip)
local macro_rules | `(tactic| walk_at "mine pad9") => `(tactic| skip)
local macro_rules | `(tactic| walk_at "mine pad10") => `(tactic| skip)
local macro_rules | `(tactic| walk_at "mine pad11") => `(tactic| skip)
local macro_rules | `(tactic| walk_at "mine pad12") => `(tactic| skip)
local macro_rules | `(tactic| walk_at "mine pad13") => `(tactic| skip)
local macro_rules | `(tactic| walk_at "mine pad14") => `(tactic| skip)
local macro_rules | `(tactic| walk_at "mine pad15") => `(tactic| skip)
local macro_rules | `(tactic| walk_at "mine pad16") => `(tactic| skip)
local macro_rules | `(tactic| walk_at "mine pad17") => `(tactic| skip)
local macro_rules | `(tactic| walk_at "mine pad18") => `(tactic| skip)
local macro_rules | `(tactic| walk_at "mine pad19") => `(tactic| skip)
local macro_rules | `(tactic| walk_at "mine pad20") => `(tactic| skip)
local macro_rules | `(tactic| walk_at "mine pad21") => `(tactic| skip)
local macro_rules | `(tactic| walk_at "mine pad22") => `(tactic| skip)
local macro_rules | `(tactic| walk_at "mine pad23") => `(tactic| skip)
local macro_rules | `(tactic| walk_at "mine pad24") => `(tactic| skip)
local macro_rules | `(tactic| walk_at "mine pad25") => `(tactic| skip)
local macro_rules | `(tactic| walk_at "mine pad26") => `(tactic| skip)
local macro_rules | `(tactic| walk_at "mine pad27") => `(tactic| skip)
local macro_rules | `(tactic| walk_at "mine pad28") => `(tactic| skip)
local macro_rules | `(tactic| walk_at "mine pad29") => `(tactic| skip)
local macro_rules | `(tactic| walk_at "mine pad30") => `(tactic| skip)
local macro_rules | `(tactic| walk_at "mine pad31") => `(tactic| skip)
local macro_rules | `(tactic| walk_at "mine pad32") => `(tactic| skip)
local macro_rules | `(tactic| walk_at "mine pad33") => `(tactic| skip)
local macro_rules | `(tactic| walk_at "mine pad34") => `(tactic| skip)
local macro_rules | `(tactic| walk_at "mine pad35") => `(tactic| skip)
local macro_rules | `(tactic| walk_at "mine pad36") => `(tactic| skip)
local macro_rules | `(tactic| walk_at "mine pad37") => `(tactic| skip)
local macro_rules | `(tactic| walk_at "mine pad38") => `(tactic| skip)
local macro_rules | `(tactic| walk_at "mine pad39") => `(tactic| skip)
local macro_rules | `(tactic| walk_at "mine pad40") => `(tactic| skip)
local macro_rules | `(tactic| walk_at "mine pad41") => `(tactic| skip)
local macro_rules | `(tactic| walk_at "mine pad42") => `(tactic| skip)
local macro_rules | `(tactic| walk_at "mine pad43") => `(tactic| skip)
local macro_rules | `(tactic| walk_at "mine pad44") => `(tactic| skip)
local macro_rules | `(tactic| walk_at "mine pad45") => `(tactic| skip)
local macro_rules | `(tactic| walk_at "mine pad46") => `(tactic| skip)
local macro_rules | `(tactic| walk_at "mine pad47") => `(tactic| skip)
local macro_rules | `(tactic| walk_at "mine pad48") => `(tactic| skip)
local macro_rules | `(tactic| walk_at "mine pad49") => `(tactic| skip)
local macro_rules | `(tactic| walk_at "mine pad50") => `(tactic| skip)
local macro_rules | `(tactic| walk_at "mine pad51") => `(tactic| skip)
local macro_rules | `(tactic| walk_at "mine pad52") => `(tactic| skip)
theorem off_L12 : True := by
  w_top off
  trivial
section
theorem word_use {w : World} {mean : ExcName → Option Value} {mg mb : Str → Option Value} {A : Around} {s : Shared} {v : Value} {nm rw' : List UInt8} {Q E : Value → Shared → Prop} {h₀ : Heap} {L : Addr} {m : PySem.Str → Option Value} {news : List (Addr × Obj)}
    (X : (Mine.hd.heap_39 w.params).In h₀) (T : Top Mine.hd.view_39 Lo mean mg mb h₀) (F : Fr h₀ L s.heap m) (N : News h₀ L s.heap news) (hh : A.handled = none) (hdp : A.depth + 3 < recursionLimit) (hz : nm.length ≤ 100000) (hf : IsField w.params h₀ v nm rw')
    (k : ∀ h' t' tk', Ext s.heap h' → Fr h₀ L h' m → News h₀ L h' news → Q (.str (wordOf nm) t') { s with heap := h', toks := tk' }) :
    wpAny (model Pg w) A (call (.ref 53) [v]) Q E s := by
  obtain ⟨hd', dp, fr, gd, un⟩ := A
  cases hh
  exact word_spec ⟨X.keeps F.keep, T.keeps F.keep⟩ hdp hz (hf.keeps F.keep) fun h' t' tk' e1 => k h' t' tk' e1 (F.keeps e1) (N.grown e1)

section
variable {prog : Program} {w : World} {A : Around} {E : Value → Shared → Prop} {s : Shared} {env : Env} {h₀ : Heap} {x : PySem.Str} {body : List Stmt} {Q : Flow → Shared → Prop} {m₀ : PySem.Str → Option Value}
/-- a for over a list that stood ahead of the call -/
theorem iter_vals {l : Addr} {vs : List Value} (J : Nat → (PySem.Str → Option Value) → Prop) (hh : A.handled = none) (hl : h₀.IsList l vs.toArray) (F : Fr h₀ env.locals s.heap m₀) (hj : J 0 m₀)
    (turn : ∀ i v m₁ h tk own, vs[i]? = some v → J i m₁ → Fr h₀ env.locals h (fun y => if y = x then some v else m₁ y) → News h₀ env.locals h own →
      wpAny (model prog w) A (execs body env) (InvPostN h₀ env.locals (fun m nx => nx = [] ∧ J (i + 1) m) own [] { s with heap := h, toks := tk } Q) E { s with heap := h, toks := tk })
    (done : ∀ m₁ h tk, J vs.length m₁ → Fr h₀ env.locals h m₁ → News h₀ env.locals h [] → Q .next { s with heap := h, toks := tk }) :
    wpAny (model prog w) A (pyIter (.ref l)) (fun it s₂ => LoopAtV prog w A h₀ env x body Q E it s₂) E s := by
  have now := hl.at (F.keep l)
  -- the list lies below the frame, the frame below what is made next
  have low : l < env.locals := by
    obtain ⟨_, e, _⟩ := hl
    exact Nat.lt_of_lt_of_le (Heap.lt_size e) F.above
  have top := F.ns.lt
  have steps := Walks.list (prog := prog) (w := w) hh s.heap.objs.size l (Nat.ne_of_lt (Nat.lt_trans low top)) vs.toArray
  rw [List.size_toArray] at steps
  refine wpAny_pyIter_list now ?_
  refine loop_invN (news := []) (fun i m nx => nx = [] ∧ J i m) steps ?_ ?_ (fun _ h => nomatch h) (fun _ h => nomatch h) ⟨⟨_, Heap.get?_push_size _ rfl, rfl, rfl⟩, now.push _⟩ (F.push _) News.nil ⟨rfl, hj⟩ ?_ ?_
  · rw [List.mem_cons, List.mem_singleton]
    exact fun e => e.elim (Nat.ne_of_lt top) (Nat.ne_of_gt low)
  · intro b hb
    rw [List.mem_singleton.mp hb]
    exact next_is_new F
  · rintro i v m₁ nx h tk own hi hP _ _ ⟨rfl, hJ⟩ F₁ N₁
    exact turn i v m₁ h tk own (by simpa using hP) hJ F₁ N₁
  · rintro m₁ nx h tk ⟨rfl, hJ⟩ F₁ N₁
    exact done m₁ h tk hJ F₁ N₁
end

/-- the first field of a name -/
def firstP (W : PySem.Str) (fs : List (List UInt8 × List UInt8)) : Option (List UInt8) := (fs.find? fun f => wordOf f.1 == ⟨W.cps.map lowN⟩).map fun f => bodyP f.2

theorem find_at {β : Type} {p : β → Bool} {f : β} : ∀ (l : List β) (i : Nat), l[i]? = some f → ∀ _ : p f = true, (∀ j g, j < i → l[j]? = some g → p g = false) → l.find? p = some f
  | [], i, h, _, _ => by simp at h
  | x :: r, 0, h, hp, _ => by
    simp at h; subst h
    rw [List.find?_cons, hp]
  | x :: r, i + 1, h, hp, hno => by
    have h0 := hno 0 x (Nat.succ_pos _) rfl
    rw [List.find?_cons, h0]
    exact find_at r i (by simpa using h) hp fun j g hj hg => hno (j + 1) g (Nat.succ_lt_succ hj) (by simpa using hg)
theorem find_no {β : Type} {p : β → Bool} : ∀ (l : List β) (n : Nat), (∀ j g, j < n → l[j]? = some g → p g = false) → l.length ≤ n → l.find? p = none
  | [], _, _, _ => rfl
  | x :: r, n, hno, hn => by
    simp at hn
    have h0 := hno 0 x (by omega) rfl
    rw [List.find?_cons, h0]
    exact find_no r (n - 1) (fun j g hj hg => hno (j + 1) g (by omega) (by simpa using hg)) (by omega)
theorem str_len {x : PySem.Str} : x.length = x.cps.size := rfl
local macro_rules | `(tactic| k_room) => `(tactic| ((try simp only [depth_under_make, depth_under_kw, depth_in1, depth_deeper, depth_caller, Ar] at *); omega))
local macro_rules | `(tactic| walk_at "mine enter") => `(tactic| (
  (case kG => assumption); (case k6 => k_is); (case k7 => k_is); (case k8 => k_room); (case k9 => exact BindsTo.of_eq rfl); (case c5 => decide); (case kB => exact locs rfl); (case c2 => exact rfl); (case c3 => exact rfl); (case c4 => exact rfl)))
local macro_rules | `(tactic| walk_at "mine enterK") => `(tactic| (
  (case kG => assumption); (case k6 => k_is); (case k7 => k_is); (case k8 => k_room); (case k9 => exact binds_K (by with_reducible assumption) rfl (by k_is) rfl rfl rfl); (case c5 => decide); (case kB => exact locs rfl); (case c2 => exact rfl); (case c3 => exact rfl); (case c4 => exact rfl)))
local macro_rules | `(tactic| walk_at "eval Name") => `(tactic| (k_here; (with_reducible rename Fr _ _ _ _ => kF); k_dflt (first
  | (refine' nameG_L ?a ?b ?_ ?c ?d ?e; (case a => assumption); (case b => assumption); (case c => rfl); (case d => rfl); (case e => decide); k_whole)
  | (refine' nameG_K kF ?k1 ?k2 ?k3 ?_ ?k4 ?k5 ?k6 ?k7; (case k4 => rfl); (case k5 => rfl); (case k6 => rfl); (case k7 => decide); (case k1 => k_asm); (case k2 => k_asm); (case k3 => k_is); k_whole)
  | (refine' nameG_B kF ?k1 ?k2 ?k3 ?kv ?kn ?_ ?k4 ?k8 ?k5 ?k6 ?k7; (case k4 => rfl); (case k8 => rfl); (case k5 => rfl); (case k6 => rfl); (case k7 => decide); (case kn => decide); (case k1 => k_asm); (case k2 => k_asm); (case k3 => k_is); (case kv => boot_by_name); k_whole))))
local macro_rules | `(tactic| walk_at "exec For Name Name cons nil") => `(tactic| (k_here; refine Halt.of ?_))
local macro_rules | `(tactic| k_inst) => `(tactic| (refine' inst_of ?a ?b (Fr.keep (by assumption)); (case a => assumption); (case b => assumption)))
local macro_rules | `(tactic| walk_at "call ref") => `(tactic| (k_here; (with_reducible show wpAny _ _ (call (Value.ref 33) _) _ _ _); k_dflt (refine' lower_text_use ?k1 ?k2 ?k3 ?k4 ?k5 ?k6 ?k7 ?k8 ?_; (case k1 => k_asm); (case k2 => k_asm); (case k3 => k_asm); (case k4 => k_asm); (case k5 => exact rfl); (case k6 => k_room); (case k7 => (rw [str_len]; omega)); (case k8 => assumption)); intro h9 t9 k9 e9 F9 N9))
local macro_rules | `(tactic| walk_at "call ref") => `(tactic| (k_here; (show wpAny _ _ (call (Value.ref 53) [_]) _ _ _); k_dflt (refine' word_use ?k1 ?k2 ?k3 ?k4 ?k5 ?k6 ?k7 ?k8 ?_; (case k1 => k_asm); (case k2 => k_asm); (case k3 => k_asm); (case k4 => k_asm); (case k5 => exact rfl); (case k6 => k_room); (case k8 => with_reducible assumption); (case k7 => omega)); intro h9 t9 k9 e9 F9 N9))
local macro_rules | `(tactic| walk_at "call ref") => `(tactic| (k_here; (with_reducible show wpAny _ _ (call (Value.ref 116) _) _ _ _); k_dflt (refine' unfolded_use ?k1 ?k2 ?k3 ?k4 ?k5 ?k6 ?k7 ?_; (case k1 => k_asm); (case k2 => k_asm); (case k3 => k_asm); (case k4 => k_asm); (case k5 => exact rfl); (case k6 => k_room); (case k7 => omega)); intro h9 t9 k9 e9 F9 N9))
set_option maxHeartbeats 4000000 in
theorem first_body_spec {w : World} {mean : ExcName → Option Value} {mg mb : Str → Option Value} {dp un : Nat} {fr : Option (List Env)} {gd : Option (List Code)} {s : Shared} {l : Addr} {its : List Value} {fs : List (List UInt8 × List UInt8)} {W : PySem.Str} {t : Tok} {Q E : Value → Shared → Prop}
    (G : Gnd w mean mg mb s.heap) (hdp : dp + 4 < recursionLimit) (hl : s.heap.IsList l its.toArray) (hf : AllAre (fun v f => IsField w.params s.heap v f.1 f.2) its fs) (hz : ∀ f ∈ fs, f.1.length ≤ 100000 ∧ f.2.length ≤ 100000) (hW : W.cps.size ≤ 1000) (hW2 : ∀ c ∈ W.cps, c < 256)
    (k1 : firstP W fs = none → ∀ h' tk', Ext s.heap h' → Q .none { s with heap := h', toks := tk' })
    (k2 : ∀ b, firstP W fs = some b → ∀ h' t' tk', Ext s.heap h' → Q (.bytes b.toArray t') { s with heap := h', toks := tk' }) :
    wpAny (model Pg w) (Ar dp un fr gd) (call (.ref 123) [.ref l, .str W t]) Q E s := by
  refine wpAny_call ?_
  refine' enter [("fields", .ref l), ("word", .str W t)] ?kG ?k6 ?k7 ?k8 ?k9 ?kB ?_ ?c2 ?c3 ?c4 ?c5
  walk_at "mine enter"
  intro h' F' N' X' T'
  k_fold
  k_steps
  show wpAny _ _ _ _ _ _
  rename_i tk1 h9 t9 k9 e9 h8 F1 N1
  refine For_invV s.heap rfl rfl ?_ (fun _ => rfl)
  k_steps
  refine iter_vals (fun i m => (∀ z, z ≠ Str.ofString "field" → m z = if z = Str.ofString "wanted" then some (Value.str ⟨W.cps.map lowN⟩ t9) else List.lookup z [(Str.ofString "fields", Value.ref l), (Str.ofString "word", Value.str W t)].reverse) ∧ ∀ j f, j < i → fs[j]? = some f → (wordOf f.1 == (⟨W.cps.map lowN⟩ : PySem.Str)) = false) rfl hl F1 ⟨fun _ _ => rfl, fun _ _ h => absurd h (Nat.not_lt_zero _)⟩ ?turn ?done
  case turn =>
    rintro i v m₁ h₁ tk₁ own hv ⟨hm, hno⟩ F₁ N₁
    obtain ⟨f, hfi, hfv⟩ := hf.at i v hv
    obtain ⟨hz1, hz2⟩ := hz f (List.mem_of_getElem? hfi)
    have hfv : IsField w.params s.heap v f.1 f.2 := hfv
    have hfv' := hfv
    obtain ⟨x, dx, t1, t2, t3, t4, rfl, hx, hdx⟩ := hfv'
    have e : (fun y => if y = Str.ofString "field" then some (Value.ref x) else m₁ y) = (fun y => if y = Str.ofString "field" then some (Value.ref x) else (if y = Str.ofString "wanted" then some (Value.str ⟨W.cps.map lowN⟩ t9) else List.lookup y [(Str.ofString "fields", Value.ref l), (Str.ofString "word", Value.str W t)].reverse)) := by
      funext z
      by_cases hz : z = Str.ofString "field"
      · rw [if_pos hz, if_pos hz]
      · rw [if_neg hz, if_neg hz]; exact hm z hz
    rw [e] at F₁
    show wpAny _ _ _ _ _ _
    k_fold
    k_steps
    · exact k2 (bodyP f.2) (by unfold firstP; rw [find_at (p := fun f => wordOf f.1 == ⟨W.cps.map lowN⟩) fs i hfi (by assumption) hno]; rfl) _ _ _ (Fr.keep (by assumption))
    · rename_i h9 t9 k9 e9 F9 N9 hne
      refine InvEndN.intro (nx := []) F9 N9 ⟨rfl, ?_, ?_⟩ rfl (fun _ h => nomatch h) (fun p hp => hp)
      · intro z hz
        show (if z = Str.ofString "field" then _ else _) = _
        rw [if_neg hz]
      · intro j g hj hg
        rcases Nat.lt_or_ge j i with h | h
        · exact hno j g h hg
        · have : j = i := by omega
          subst this
          rw [hfi] at hg
          cases hg
          exact hne
  case done =>
    rintro m₁ h₁ tk₁ ⟨hm, hno⟩ F₁ N₁
    k_steps
    exact k1 (by unfold firstP; rw [find_no (p := fun f => wordOf f.1 == ⟨W.cps.map lowN⟩) fs its.length hno (Nat.le_of_eq hf.length.symm)]; rfl) _ _ F₁.keep
theorem first_body_use {w : World} {mean : ExcName → Option Value} {mg mb : Str → Option Value} {A : Around} {s : Shared} {l : Addr} {its : List Value} {fs : List (List UInt8 × List UInt8)} {W : PySem.Str} {t : Tok} {Q E : Value → Shared → Prop} {h₀ : Heap} {L : Addr} {m : PySem.Str → Option Value} {news : List (Addr × Obj)}
    (X : (Mine.hd.heap_39 w.params).In h₀) (T : Top Mine.hd.view_39 Lo mean mg mb h₀) (F : Fr h₀ L s.heap m) (N : News h₀ L s.heap news) (hh : A.handled = none) (hdp : A.depth + 4 < recursionLimit)
    (hl : s.heap.IsList l its.toArray) (hf : AllAre (fun v f => IsField w.params s.heap v f.1 f.2) its fs) (hz : ∀ f ∈ fs, f.1.length ≤ 100000 ∧ f.2.length ≤ 100000) (hW : W.cps.size ≤ 1000) (hW2 : ∀ c ∈ W.cps, c < 256)
    (k1 : firstP W fs = none → ∀ h' tk', Ext s.heap h' → Fr h₀ L h' m → News h₀ L h' news → Q .none { s with heap := h', toks := tk' })
    (k2 : ∀ b, firstP W fs = some b → ∀ h' t' tk', Ext s.heap h' → Fr h₀ L h' m → News h₀ L h' news → Q (.bytes b.toArray t') { s with heap := h', toks := tk' }) :
    wpAny (model Pg w) A (call (.ref 123) [.ref l, .str W t]) Q E s := by
  obtain ⟨hd', dp, fr, gd, un⟩ := A
  cases hh
  exact first_body_spec ⟨X.keeps F.keep, T.keeps F.keep⟩ hdp hl hf hz hW hW2 (fun e h' tk' x => k1 e h' tk' x (F.keeps x) (N.grown x)) fun b e h' t' tk' x => k2 b e h' t' tk' x (F.keeps x) (N.grown x)
end
end
section
/-! C1 -/
/-- a comprehension that is stored at once: what its source must bring -/
def CompA (prog : Program) (w : World) (A : Around) (env : Env) (scope : Scope) (x y : PySem.Str) (ifs : List Expr) (elt : Expr) (p : Value → Bool) (R : Value → Value → Prop) (Q : Flow → Shared → Prop) (E : Value → Shared → Prop) (xv : Value) (s₁ : Shared) : Prop :=
  wpAny (model prog w) A (pyIter xv) (fun it s₂ => ∃ I fp wr n P St m, it = .ref I ∧ Walks prog w A I fp wr n P St ∧ n ≤ sizeLine ∧ St 0 s₂.heap ∧ (∀ b ∈ fp, b < s₂.heap.objs.size) ∧
      env.locals ∉ wr ∧ s₂.heap.Ns env.locals m ∧ QuietOn prog w A env scope x ifs elt wr P p R s₂ ∧
      (∀ D h' tk ys (vs : List Value), s₂.heap.get? D = none → h'.IsList D ys → h'.PlainList D ys → vs.length = n → (∀ j v, vs[j]? = some v → P j v) → Paired R (vs.filter p) ys.toList →
        h'.Ns env.locals (fun z => if z = y then some (.ref D) else m z) → (∀ b o, b ≠ env.locals → b ∉ wr → s₂.heap.get? b = some o → h'.get? b = some o) → Q .next { s₂ with heap := h', toks := tk })) E s₁

section
variable {prog : Program} {w : World} {A : Around} {E : Value → Shared → Prop} {env : Env} {s : Shared}
theorem comp_A {elt iter : Expr} {x y : PySem.Str} {px py : Pos} {ifs : List Expr} {scope : Scope} {pos spos : Pos} {Q : Flow → Shared → Prop} (p : Value → Bool) (R : Value → Value → Prop)
    (hsw : swapsWith (.ListComp elt [⟨.Name x px, iter, ifs, 0⟩] scope pos) (some (.Name y py)) spos.line env = pure true)
    (hfree : ∀ z ∈ scope.names, z.2 ≠ .free) (hcell : ∀ z ∈ scope.names, z.2 ≠ .cell) (hkind : scope.kind = .function)
    (hnames : ∀ z ∈ scope.names, z.2 = .local → scope.names.lookup z.1 = some .local) (hx : scope.names.lookup x = some .local)
    (hy : env.kindOf y = some .local) (hp : (env.scope.kind == .class || (env.scope.kind == .module && env.locals != env.globals)) = false)
    (h : wpAny (model prog w) A (eval iter env) (CompA prog w A env scope x y ifs elt p R Q E) E s)
    (hs : ∀ x, foldedSetIterable iter env x = pure x) :
    wpAny (model prog w) A (exec (.Assign [.Name y py] (.ListComp elt [⟨.Name x px, iter, ifs, 0⟩] scope pos) spos) env) Q E s := wpAny_Assign_ListComp_walk p R hsw hfree hcell hkind hnames hx hy hp h hs

theorem compA_list {scope : Scope} {v y : PySem.Str} {ifs : List Expr} {elt : Expr} {p : Value → Bool} {R : Value → Value → Prop} {Q : Flow → Shared → Prop} {a : Addr} {its : List Value} {h₀ : Heap} {m : PySem.Str → Option Value} (hh : A.handled = none) (hF : Fr h₀ env.locals s.heap m) (hl : s.heap.IsList a its.toArray) (hz : its.length ≤ sizeLine)
    (he : EltOn prog w A env scope v ifs elt (fun i y => its[i]? = some y) p R s)
    (hQ : ∀ D h' tk ys n, s.heap.get? D = none → h'.get? D = some { cls := .type "list", data := .seq ys n } → Paired R (its.filter p) ys.toList → Fr h₀ env.locals h' (fun z => if z = y then some (.ref D) else m z) →
      (∀ b o, b ≠ env.locals → s.heap.get? b = some o → h'.get? b = some o) → Q .next { s with heap := h', toks := tk }) :
    CompA prog w A env scope v y ifs elt p R Q E (.ref a) s := by
  refine wpAny_pyIter_list hl ?_
  have hlt : a < s.heap.objs.size := by obtain ⟨_, e, _⟩ := hl; exact Heap.lt_size e
  have W0 := Walks.list (prog := prog) (w := w) hh s.heap.objs.size a (Nat.ne_of_lt hlt) its.toArray
  have W : Walks prog w A s.heap.objs.size [s.heap.objs.size, a] [s.heap.objs.size] its.length (fun i y => its[i]? = some y) (fun i h => h.IsListIter s.heap.objs.size a i ∧ h.IsList a its.toArray) :=
    { sub := W0.sub, frame := W0.frame, self := W0.self, done := (by simpa using W0.done),
      item := fun i s Q E hi st hQ => W0.item i s Q E (by simpa using hi) st fun v h' tk hP => hQ v h' tk (by simpa using hP) }
  refine ⟨_, _, _, _, _, _, m, rfl, W, hz, ⟨⟨_, Heap.get?_push_size _ rfl, rfl, rfl⟩, hl.push _⟩, ?_, ?_, (hF.push _).ns, quiet_of he, ?_⟩
  · intro b hb
    show b < (s.heap.push _).objs.size
    rw [Heap.size_push]
    rcases List.mem_cons.mp hb with rfl | hb
    · exact Nat.lt_succ_self _
    · rw [List.mem_singleton.mp hb]; exact Nat.lt_succ_of_lt hlt
  · intro hm
    exact absurd hF.ns.lt ((List.mem_singleton.mp hm) ▸ Nat.lt_irrefl _)
  · rintro D h' tk ys vs hD _ ⟨n, hl'⟩ hlen hP hR hns hk
    have e : vs = its := by
      apply List.ext_getElem?
      intro i
      rcases Nat.lt_or_ge i vs.length with h | h
      · have h1 := hP i vs[i] (by simp [h])
        rw [h1]; simp [h]
      · rw [List.getElem?_eq_none h, List.getElem?_eq_none (by rw [← hlen]; exact h)]
    subst e
    have hk' : ∀ b o, b ≠ env.locals → s.heap.get? b = some o → h'.get? b = some o := fun b o hb e => hk b o hb (fun hb => absurd (Heap.lt_size e) (by rw [List.mem_singleton.mp hb]; exact Nat.lt_irrefl _)) (Heap.get?_push_of_some _ e)
    exact hQ D h' tk ys n (fresh_push hD) hl' hR ⟨hns, fun b o e => hk' b o (Nat.ne_of_lt (Nat.lt_of_lt_of_le (Heap.lt_size e) hF.above)) (hF.keep _ _ e), hF.above⟩ hk'
/-- one test -/
theorem tests_one {scope : Scope} {x : PySem.Str} {ct elt : Expr} {P : Nat → Value → Prop} {p : Value → Bool} {R : Value → Value → Prop} {s₁ : Shared}
    (ht : ∀ C i v s₃ m₃ E', P i v → s₃.heap.Ns C m₃ → m₃ x = some v → (∀ b o, s₁.heap.get? b = some o → s₃.heap.get? b = some o) →
      wpAny (model prog w) A (isTrue ct (compEnv scope C env) (eval ct (compEnv scope C env))) (fun ok s₄ => ok = p v ∧ Keeps s₃ s₄) E' s₃)
    (h : ∀ C i v s₃ m₃ E', P i v → p v = true → s₃.heap.Ns C m₃ → m₃ x = some v → (∀ b o, s₁.heap.get? b = some o → s₃.heap.get? b = some o) →
      wpAny (model prog w) A (eval elt (compEnv scope C env)) (fun y s₄ => R v y ∧ Keeps s₃ s₄) E' s₃) : EltOn prog w A env scope x [ct] elt P p R s₁ where
  tests := fun C i v s₃ m₃ E' hP hn hm hk => by
    rw [List.forIn_cons]
    rw [if_pos rfl]
    refine wpAny_bind (wpAny_bind (wpAny_mono (ht C i v s₃ m₃ E' hP hn hm hk) (fun ok s₄ q => ?_) fun _ _ e => e))
    refine wpAny_pure ?_
    dsimp only
    rw [List.forIn_nil]
    exact wpAny_pure q
  elt := h
end
end
section
/-! C2 -/
open PySem.SeqAt
theorem all_same {β : Type} [DecidableEq β] {xs ys : List β} (h : xs.length = ys.length) : (List.range xs.length).all (fun j => decide (xs[j]? = ys[j]?)) = decide (xs = ys) := by
  rw [Bool.eq_iff_iff, List.all_eq_true, decide_eq_true_iff]
  constructor
  · intro hj
    apply List.ext_getElem?
    intro i
    rcases Nat.lt_or_ge i xs.length with hi | hi
    · exact of_decide_eq_true (hj i (List.mem_range.mpr hi))
    · rw [List.getElem?_eq_none hi, List.getElem?_eq_none (by omega)]
  · intro e j _
    exact decide_eq_true (by rw [e])
section
variable {prog : Program} {w : World} {A : Around} {E : Value → Shared → Prop} {s : Shared}
/-- two lists of bytes compared -/
theorem eq_lists {a b : Addr} {vs ws : List Value} {xs ys : List (List UInt8)} {Q : Value → Shared → Prop} (ha : s.heap.IsList a vs.toArray) (hb : s.heap.IsList b ws.toArray) (hv : BytesAre vs xs) (hw : BytesAre ws ys) (hu : A.units < cLine)
    (h : Q (.bool (decide (xs = ys))) s) : wpAny (model prog w) A (compareOp .Eq (.ref a) (.ref b)) Q E s := by
  refine cmp_ofEq ?_
  by_cases hl : xs.length = ys.length
  · have hl' : vs.toArray.size = ws.toArray.size := by rw [List.size_toArray, List.size_toArray, hv.length, hw.length, hl]
    refine RcAt.lists (e := fun j => decide (xs[j]? = ys[j]?)) ha hb hl' hu ?_ prog w E Q ?_
    · intro j h1 h2
      rw [List.size_toArray] at h1 h2
      have h1' : j < xs.length := by rw [← hv.length]; exact h1
      have h2' : j < ys.length := by rw [← hw.length]; exact h2
      obtain ⟨t, ht⟩ := hv.get j xs[j] (List.getElem?_eq_getElem h1')
      obtain ⟨u, hu'⟩ := hw.get j ys[j] (List.getElem?_eq_getElem h2')
      have e1 : vs.toArray[j] = .bytes xs[j].toArray t := by
        rw [List.getElem_toArray]
        rw [List.getElem?_eq_getElem h1] at ht
        exact Option.some.inj ht
      have e2 : ws.toArray[j] = .bytes ys[j].toArray u := by
        rw [List.getElem_toArray]
        rw [List.getElem?_eq_getElem h2] at hu'
        exact Option.some.inj hu'
      rw [e1, e2]
      intro prog w E Q hq
      refine eqBool_bytes ?_
      have e3 : decide (xs[j]? = ys[j]?) = decide (xs[j].toArray.toList = ys[j].toArray.toList) := by
        rw [List.getElem?_eq_getElem h1', List.getElem?_eq_getElem h2']
        simp
      rw [e3] at hq; exact hq
    · rw [List.size_toArray, hv.length, all_same hl]; exact h
  · refine RcAt.lists_lengths ha hb ?_ hu prog w E Q ?_
    · rw [List.size_toArray, List.size_toArray, hv.length, hw.length]; simpa using hl
    · rw [decide_eq_false (fun e => hl (by rw [e]))] at h; exact h
end
end
section
/-! L13 -/
local macro_rules | `(tactic| walk_at "mine pad0") => `(tactic| skip)
local macro_rules | `(tactic| walk_at "mine pad1") => `(tactic| skip)
local macro_rules | `(tactic| walk_at "mine pad2") => `(tactic| skip)
local macro_rules | `(tactic| walk_at "mine pad3") => `(tactic| skip)
local macro_rules | `(tactic| walk_at "mine pad4") => `(tactic| skip)
local macro_rules | `(tactic| walk_at "mine pad5") => `(tactic| skip)
local macro_rules | `(tactic| walk_at "mine pad6") => `(tactic| skip)
local macro_rules | `(tactic| walk_at "mine pad7") => `(tactic| skip)
local macro_rules | `(tactic| walk_at "mine pad8") => `(tactic| skip)
local macro_rules | `(tactic| walk_at "mine pad9") => `(tactic| skip)
local macro_rules | `(tactic| walk_at "mine pad10") => `(tactic| skip)
local macro_rules | `(tactic| walk_at "mine pad11") => `(tactic| skip)
local macro_rules | `(tactic| walk_at "mine pad12") => `(tactic| skip)
local macro_rules | `(tactic| walk_at "mine pad13") => `(tactic| skip)
local macro_rules | `(tactic| walk_at "mine pad14") => `(tactic| skip)
local macro_rules | `(tactic| walk_at "mine pad15") => `(tactic| skip)
local macro_rules | `(tactic| walk_at "mine pad16") => `(tactic| skip)
local macro_rules | `(tactic| walk_at "mine pad17") => `(tactic| skip)
local macro_rules | `(tactic| walk_at "mine pad18") => `(tactic| skip)
local macro_rules | `(tactic| walk_at "mine pad19") => `(tactic| skip)
local macro_rules | `(tactic| walk_at "mine pad20") => `(tactic| skip)
local macro_rules | `(tactic| walk_at "mine pad21") => `(tactic| skip)
local macro_rules | `(tactic| walk_at "mine pad22") => `(tactic| skip)
local macro_rules | `(tactic| walk_at "mine pad23") => `(tactic| skip)
local macro_rules | `(tactic| walk_at "mine pad24") => `(tactic| skip)
local macro_rules | `(tactic| walk_at "mine pad25") => `(tactic| skip)
local macro_rules | `(tactic| walk_at "mine pad26") => `(tactic| skip)
local macro_rules | `(tactic| walk_at "mine pad27") => `(tactic| skip)
local macro_rules | `(tactic| walk_at "mine pad28") => `(tactic| skip)
local macro_rules | `(tactic| walk_at "mine pad29") => `(tactic| skip)
local macro_rules | `(tactic| walk_at "mine pad30") => `(tactic| skip)
local macro_rules | `(tactic| walk_at "mine pad31") => `(tactic| skip)
local macro_rules | `(tactic| walk_at "mine pad32") => `(tactic| skip)
local macro_rules | `(tactic| walk_at "mine pad33") => `(tactic| skip)
local macro_rules | `(tactic| walk_at "mine pad34") => `(tactic| skip)
local macro_rules | `(tactic| walk_at "mine pad35") => `(tactic| skip)
local macro_rules | `(tactic| walk_at "mine pad36") => `(tactic| skip)
local macro_rules | `(tactic| walk_at "mine pad37") => `(tactic| skip)
local macro_rules | `(tactic| walk_at "mine pad38") => `(tactic| skip)
local macro_rules | `(tactic| walk_at "mine pad39") => `(tactic| skip)
local macro_rules | `(tactic| walk_at "mine pad40") => `(tactic| skip)
local macro_rules | `(tactic| walk_at "mine pad41") => `(tactic| skip)
local macro_rules | `(tactic| walk_at "mine pad42") => `(tactic| skip)
local macro_rules | `(tactic| walk_at "mine pad43") => `(tactic| skip)
local macro_rules | `(tactic| walk_at "mine pad44") => `(tactic| skip)
local macro_rules | `(tactic| walk_at "mine pad45") => `(tactic| skip)
local macro_rules | `(tactic| walk_at "mine pad46") => `(tactic| skip)
local macro_rules | `(tactic| walk_at "mine pad47") => `(tactic| skip)
local macro_rules | `(tactic| walk_at "mine pad48") => `(tactic| skip)
theorem off_L13 : True := by
  w_top off
  trivial
section
def cl : PySem.Str := Str.ofString "content-language"
/-- the words that a value tells -/
def wordsIn (b : List UInt8) : List (List UInt8) := ((cutAt 44 b).map stripL).filter fun x => x != []
def foundP (fs : List (List UInt8 × List UInt8)) : List (List UInt8) := match firstP cl fs with
  | none => []
  | some b => wordsIn b
/-- what language_value hands back -/
def Tells (h : Heap) (v : Value) : List (List UInt8) → Prop
  | [] => v = .none
  | [x] => ∃ t, v = .bytes x.toArray t
  | ws => ∃ R its n, v = .ref R ∧ h.get? R = some (listOf its n) ∧ BytesAre its.toList ws
/-- a word that is kept -/
def keepW : Value → Bool
  | .bytes x _ => stripL x.toList != []
  | _ => false
def StripsTo (v y : Value) : Prop := ∃ (x : List UInt8) (t t' : Tok), v = .bytes x.toArray t ∧ y = .bytes (stripL x).toArray t'
theorem strips {vs : List Value} {bs : List (List UInt8)} (h : BytesAre vs bs) : ∀ {ys : List Value}, Paired StripsTo (vs.filter keepW) ys → BytesAre ys ((bs.map stripL).filter fun x => x != []) := by
  induction h with
  | nil => intro ys hp; rw [List.filter_nil] at hp; cases hp; exact .nil
  | cons hr ih =>
    rename_i x t vs xs
    intro ys hp
    have e : keepW (Value.bytes x.toArray t) = (stripL x != []) := rfl
    rw [List.filter_cons, e] at hp
    rw [List.map_cons, List.filter_cons]
    cases h : (stripL x != []) with
    | false => rw [h] at hp; exact ih hp
    | true =>
      rw [h] at hp
      cases hp with
      | cons h1 h2 =>
        obtain ⟨x', u, u', e1, rfl⟩ := h1
        injection e1 with e1 _
        have e2 : x = x' := congrArg Array.toList e1
        subst e2
        exact .cons (ih h2)
local macro_rules | `(tactic| k_room) => `(tactic| ((try simp only [depth_under_make, depth_under_kw, depth_in1, depth_deeper, depth_caller, Ar] at *); omega))
local macro_rules | `(tactic| walk_at "mine enter") => `(tactic| (
  (case kG => assumption); (case k6 => k_is); (case k7 => k_is); (case k8 => k_room); (case k9 => exact BindsTo.of_eq rfl); (case c5 => decide); (case kB => exact locs rfl); (case c2 => exact rfl); (case c3 => exact rfl); (case c4 => exact rfl)))
local macro_rules | `(tactic| walk_at "mine enterK") => `(tactic| (
  (case kG => assumption); (case k6 => k_is); (case k7 => k_is); (case k8 => k_room); (case k9 => exact binds_K (by with_reducible assumption) rfl (by k_is) rfl rfl rfl); (case c5 => decide); (case kB => exact locs rfl); (case c2 => exact rfl); (case c3 => exact rfl); (case c4 => exact rfl)))
local macro_rules | `(tactic| walk_at "eval Name") => `(tactic| (k_here; (with_reducible rename Fr _ _ _ _ => kF); k_dflt (first
  | (refine' nameG_L ?a ?b ?_ ?c ?d ?e; (case a => assumption); (case b => assumption); (case c => rfl); (case d => rfl); (case e => decide); k_whole)
  | (refine' nameG_K kF ?k1 ?k2 ?k3 ?_ ?k4 ?k5 ?k6 ?k7; (case k4 => rfl); (case k5 => rfl); (case k6 => rfl); (case k7 => decide); (case k1 => k_asm); (case k2 => k_asm); (case k3 => k_is); k_whole)
  | (refine' nameG_B kF ?k1 ?k2 ?k3 ?kv ?kn ?_ ?k4 ?k8 ?k5 ?k6 ?k7; (case k4 => rfl); (case k8 => rfl); (case k5 => rfl); (case k6 => rfl); (case k7 => decide); (case kn => decide); (case k1 => k_asm); (case k2 => k_asm); (case k3 => k_is); (case kv => boot_by_name); k_whole))))
local macro_rules | `(tactic| walk_at "getMethod bytes") => `(tactic| (k_here; (with_reducible refine meth_find ?_)))
local macro_rules | `(tactic| walk_at "getMethod bytes") => `(tactic| (k_here; (with_reducible refine meth_strip ?_)))
local macro_rules | `(tactic| walk_at "getMethod bytes") => `(tactic| (k_here; (with_reducible refine meth_split ?_)))
local macro_rules | `(tactic| walk_at "getMethod bytes") => `(tactic| (k_here; (with_reducible refine meth_join ?_)))
local macro_rules | `(tactic| walk_at "call builtin:bytes.find") => `(tactic| (k_here; (refine find_L (by omega) (by omega) ?_); intro r9 t9 k9 hr9 hr8 hr7))
local macro_rules | `(tactic| walk_at "call builtin:bytes.strip") => `(tactic| (k_here; refine Halt.of ?_))
local macro_rules | `(tactic| walk_at "call builtin:bytes.split") => `(tactic| (k_here; refine Halt.of ?_))
local macro_rules | `(tactic| walk_at "call builtin:bytes.join") => `(tactic| (k_here; refine Halt.of ?_))
local macro_rules | `(tactic| walk_at "exec Assign cons ListComp") => `(tactic| (k_here; refine Halt.of ?_))
local macro_rules | `(tactic| walk_at "eval ListComp") => `(tactic| (k_here; refine Halt.of ?_))
local macro_rules | `(tactic| walk_at "call ref") => `(tactic| (k_here; (with_reducible show wpAny _ _ (call (Value.ref 123) _) _ _ _); refine Halt.of ?_))
set_option maxHeartbeats 4000000 in
theorem language_value_spec {w : World} {mean : ExcName → Option Value} {mg mb : Str → Option Value} {dp un : Nat} {fr : Option (List Env)} {gd : Option (List Code)} {s : Shared} {l : Addr} {its : List Value} {fs : List (List UInt8 × List UInt8)} {Q E : Value → Shared → Prop}
    (G : Gnd w mean mg mb s.heap) (hdp : dp + 5 < recursionLimit) (hun : un + 100 < cLine) (hl : s.heap.IsList l its.toArray) (hf : AllAre (fun v f => IsField w.params s.heap v f.1 f.2) its fs) (hz : ∀ f ∈ fs, f.1.length ≤ 100000 ∧ f.2.length ≤ 100000)
    (k : ∀ v h' tk', Ext s.heap h' → Tells h' v (foundP fs) → Q v { s with heap := h', toks := tk' }) :
    wpAny (model Pg w) (Ar dp un fr gd) (call (.ref 128) [.ref l]) Q E s := by
  refine wpAny_call ?_
  refine' enter [("fields", .ref l)] ?kG ?k6 ?k7 ?k8 ?k9 ?kB ?_ ?c2 ?c3 ?c4 ?c5
  walk_at "mine enter"
  intro h' F' N' X' T'
  k_fold
  k_steps
  show wpAny _ _ _ _ _ _
  rename Fr _ _ _ _ => F'
  have hl' : h'.IsList l its.toArray := hl.at fun o e => F'.keep l o e
  refine first_body_use X' T' F' N' rfl (by k_room) hl' (hf.imp fun v f x => x.keeps F'.keep) hz (by decide) (by decide) (fun hn h₁ tk₁ e₁ F₁ N₁ => ?no) fun b hb h₁ t₁ tk₁ e₁ F₁ N₁ => ?yes
  case no =>
    clear F' N'
    k_steps
    refine k _ _ _ (Fr.keep (by assumption)) ?_
    rw [show foundP fs = [] from by unfold foundP cl; rw [hn]]
    rfl
  case yes =>
    clear F' N'
    k_steps
    rename_i h₂ F₂ N₂
    show wpAny _ _ _ _ _ _
    have hbz : b.length ≤ 200000 := by
      unfold firstP at hb
      cases hfi : fs.find? (fun f => wordOf f.1 == ⟨(Str.ofString "content-language").cps.map lowN⟩) with
      | none => rw [hfi] at hb; cases hb
      | some f =>
        rw [hfi] at hb
        cases hb
        have := (hz f (List.mem_of_find?_eq_some hfi)).2
        have h2 := rowsP_len f.2
        have h3 := stripL_length (rowsP f.2).flatten
        rw [List.length_flatten] at h3
        show (stripL (rowsP f.2).flatten).length ≤ _
        omega
    refine comp_A keepW StripsTo (by with_unfolding_all rfl) (by decide) (by decide) rfl (by decide) rfl rfl rfl ?_ (fun _ => rfl)
    k_steps
    show wpAny _ _ _ _ _ _
    refine call_split (by omega) fun vs k3 hvs => ?_
    have N₃ := N₂.push F₂ { cls := .type "list", data := .seq vs.toArray }
    have F₃ := F₂.push { cls := .type "list", data := .seq vs.toArray }
    have hvl : vs.length ≤ 1000000 := by
      rw [hvs.length]
      have := cutAt_count 44 b
      omega
    have hat : ∀ (i : Nat) (v : Value), vs[i]? = some v → ∃ (x : List UInt8) (t : Tok), v = .bytes x.toArray t ∧ x.length ≤ 200000 := by
      intro i v hv
      have hlt : i < (cutAt 44 b).length := by
        rw [← hvs.length]
        exact (List.getElem?_eq_some_iff.mp hv).1
      obtain ⟨t, ht⟩ := hvs.get i _ (List.getElem?_eq_getElem hlt)
      rw [hv] at ht
      exact ⟨_, t, Option.some.inj ht, Nat.le_trans (cutAt_len 44 b _ (List.getElem_mem hlt)) hbz⟩
    clear F₂ N₂
    k_steps
    refine compA_list (its := vs) rfl F₃ ⟨_, (N₃ _ (.head _)).1, rfl, 0, rfl⟩ (by rw [sizeLine_eq]; exact Nat.le_trans hvl (by decide)) (tests_one (fun C i v s₃ m₃ E' hP hn hm hk => ?tst) fun C i v s₃ m₃ E' hP hp hn hm hk => ?elt) fun D h5 tk5 ys n hD hl hR F₅ hk => ?fin
    case tst =>
      obtain ⟨x, t, rfl, hx⟩ := hat i v hP
      have F₄ := F₃.keeps hk
      have N₄ := N₃.grown hk
      clear F₃ N₃
      k_steps
      show wpAny _ _ _ _ _ _
      refine call_strip (by rw [List.size_toArray]; omega) fun t8 k8 => ?_
      k_steps
      exact ⟨s₃.heap, _, rfl, fun _ _ e => e⟩
    case elt =>
      obtain ⟨x, t, rfl, hx⟩ := hat i v hP
      have F₄ := F₃.keeps hk
      have N₄ := N₃.grown hk
      clear F₃ N₃
      k_steps
      show wpAny _ _ _ _ _ _
      refine call_strip (by rw [List.size_toArray]; omega) fun t8 k8 => ?_
      k_steps
      · exact ⟨x, t, t8, rfl, rfl⟩
      · exact ⟨s₃.heap, _, rfl, fun _ _ e => e⟩
    case fin =>
      have hB : BytesAre ys.toList (wordsIn b) := strips hvs hR
      have hfnd : foundP fs = wordsIn b := by unfold foundP cl; rw [hb]
      have N₅ : News s.heap s.heap.objs.size h5 [(D, listOf ys n)] := by
        intro p hp
        rw [List.mem_singleton.mp hp]
        refine ⟨hl, ?_, ?_⟩
        · intro e
          obtain ⟨oL, _, _, hL, _⟩ := F₃.ns
          have hD' : (h₂.push { cls := .type "list", data := .seq vs.toArray }).get? D = none := hD
          rw [show D = s.heap.objs.size from e, hL] at hD'; cases hD'
        · cases q : s.heap.get? D with
          | none => rfl
          | some o =>
            have := F₃.keep _ _ q
            have hD' : (h₂.push { cls := .type "list", data := .seq vs.toArray }).get? D = none := hD
            rw [hD'] at this; cases this
      clear F₃ N₃ hk hD hl hR
      obtain ⟨l₁, rfl⟩ : ∃ l₁ : List Value, ys = l₁.toArray := ⟨ys.toList, by simp⟩
      have hB' : BytesAre l₁ (wordsIn b) := by simpa using hB
      clear hB
      rw [hfnd] at k
      have hwl : (wordsIn b).length ≤ 1000000 := by
        have h1 := cutAt_count 44 b
        have h2 := List.length_filter_le (fun x => x != []) ((cutAt 44 b).map stripL)
        rw [List.length_map] at h2
        show (((cutAt 44 b).map stripL).filter fun x => x != []).length ≤ _
        omega
      clear hfnd
      generalize wordsIn b = ws at hB' k hwl
      show wpAny _ _ _ _ _ _
      cases hB' with
      | nil =>
        k_steps
        rename_i l8 h8 F8 N8 l1
        exact k _ _ _ F8.keep rfl
      | cons hB' =>
        cases hB' with
        | nil =>
          k_steps
          rename_i x t l8 h8 F8 N8 l1
          show wpAny _ _ _ _ _ _
          refine eq_lists (vs := [_]) (ws := []) ⟨_, (N8 _ (.tail _ (.head _))).1, rfl, _, rfl⟩ ⟨_, (N8 _ (.head _)).1, rfl, _, rfl⟩ (.cons .nil) .nil (by show un + 3 < cLine; omega) ?_
          k_steps
          · exact absurd (show decide ([x] = []) = true by assumption) (by simp)
          · exact k _ _ _ F8.keep ⟨t, rfl⟩
        | cons hB' =>
          rename_i x t x' t' vs' xs'
          k_steps
          show wpAny _ _ _ _ _ _
          have hz : ((Value.bytes x.toArray t :: Value.bytes x'.toArray t' :: vs').toArray.size : Int) < 2 ^ 63 := by
            have := hB'.length
            simp only [List.length_cons] at hwl
            simp only [List.size_toArray, List.length_cons]
            omega
          have hD9 : h5.get? D = some (listOf (Value.bytes x.toArray t :: Value.bytes x'.toArray t' :: vs').toArray n) := (N₅ _ (.head _)).1
          have hIL : h5.IsList D (Value.bytes x.toArray t :: Value.bytes x'.toArray t' :: vs').toArray := ⟨_, hD9, rfl, n, rfl⟩
          refine len_list (s := ⟨h5, _, _, _, _⟩) hIL hz ?_
          have hz2 : ¬ ((Value.bytes x.toArray t :: Value.bytes x'.toArray t' :: vs').toArray.size : Int) < 2 := by
            simp only [List.size_toArray, List.length_cons]
            omega
          generalize ((Value.bytes x.toArray t :: Value.bytes x'.toArray t' :: vs').toArray.size : Int) = zz at hz hz2
          k_steps
          refine k _ _ _ (Fr.keep (by assumption)) ⟨D, _, n, rfl, hD9, ?_⟩
          simpa using BytesAre.cons (BytesAre.cons hB')
end
end
section
/-! L14 -/
local macro_rules | `(tactic| walk_at "mine pad0") => `(tactic| skip)
local macro_rules | `(tactic| walk_at "mine pad1") => `(tactic| skip)
local macro_rules | `(tactic| walk_at "mine pad2") => `(tactic| skip)
local macro_rules | `(tactic| walk_at "mine pad3") => `(tactic| skip)
local macro_rules | `(tactic| walk_at "mine pad4") => `(tactic| skip)
local macro_rules | `(tactic| walk_at "mine pad5") => `(tactic| skip)
local macro_rules | `(tactic| walk_at "mine pad6") => `(tactic| skip)
local macro_rules | `(tactic| walk_at "mine pad7") => `(tactic| skip)
local macro_rules | `(tactic| walk_at "mine pad8") => `(tactic| skip)
local macro_rules | `(tactic| walk_at "mine pad9") => `(tactic| skip)
local macro_rules | `(tactic| walk_at "mine pad10") => `(tactic| skip)
local macro_rules | `(tactic| walk_at "mine pad11") => `(tactic| skip)
local macro_rules | `(tactic| walk_at "mine pad12") => `(tactic| skip)
local macro_rules | `(tactic| walk_at "mine pad13") => `(tactic| skip)
local macro_rules | `(tactic| walk_at "mine pad14") => `(tactic| skip)
local macro_rules | `(tactic| walk_at "mine pad15") => `(tactic| skip)
local macro_rules | `(tactic| walk_at "mine pad16") => `(tactic| skip)
local macro_rules | `(tactic| walk_at "mine pad17") => `(tactic| skip)
local macro_rules | `(tactic| walk_at "mine pad18") => `(tactic| skip)
local macro_rules | `(tactic| walk_at "mine pad19") => `(tactic| skip)
local macro_rules | `(tactic| walk_at "mine pad20") => `(tactic| skip)
local macro_rules | `(tactic| walk_at "mine pad21") => `(tactic| skip)
local macro_rules | `(tactic| walk_at "mine pad22") => `(tactic| skip)
local macro_rules | `(tactic| walk_at "mine pad23") => `(tactic| skip)
local macro_rules | `(tactic| walk_at "mine pad24") => `(tactic| skip)
local macro_rules | `(tactic| walk_at "mine pad25") => `(tactic| skip)
local macro_rules | `(tactic| walk_at "mine pad26") => `(tactic| skip)
local macro_rules | `(tactic| walk_at "mine pad27") => `(tactic| skip)
local macro_rules | `(tactic| walk_at "mine pad28") => `(tactic| skip)
local macro_rules | `(tactic| walk_at "mine pad29") => `(tactic| skip)
local macro_rules | `(tactic| walk_at "mine pad30") => `(tactic| skip)
local macro_rules | `(tactic| walk_at "mine pad31") => `(tactic| skip)
local macro_rules | `(tactic| walk_at "mine pad32") => `(tactic| skip)
local macro_rules | `(tactic| walk_at "mine pad33") => `(tactic| skip)
local macro_rules | `(tactic| walk_at "mine pad34") => `(tactic| skip)
local macro_rules | `(tactic| walk_at "mine pad35") => `(tactic| skip)
local macro_rules | `(tactic| walk_at "mine pad36") => `(tactic| skip)
local macro_rules | `(tactic| walk_at "mine pad37") => `(tactic| skip)
local macro_rules | `(tactic| walk_at "mine pad38") => `(tactic| skip)
local macro_rules | `(tactic| walk_at "mine pad39") => `(tactic| skip)
local macro_rules | `(tactic| walk_at "mine pad40") => `(tactic| skip)
local macro_rules | `(tactic| walk_at "mine pad41") => `(tactic| skip)
local macro_rules | `(tactic| walk_at "mine pad42") => `(tactic| skip)
local macro_rules | `(tactic| walk_at "mine pad43") => `(tactic| skip)
local macro_rules | `(tactic| walk_at "mine pad44") => `(tactic| skip)
local macro_rules | `(tactic| walk_at "mine pad45") => `(tactic| skip)
local macro_rules | `(tactic| walk_at "mine pad46") => `(tactic| skip)
local macro_rules | `(tactic| walk_at "mine pad47") => `(tactic| skip)
local macro_rules | `(tactic| walk_at "mine pad48") => `(tactic| skip)
local macro_rules | `(tactic| walk_at "mine pad49") => `(tactic| skip)
local macro_rules | `(tactic| walk_at "mine pad50") => `(tactic| skip)
local macro_rules | `(tactic| walk_at "mine pad51") => `(tactic| skip)
local macro_rules | `(tactic| walk_at "mine pad52") => `(tactic| skip)
local macro_rules | `(tactic| walk_at "mine pad53") => `(tactic| skip)
local macro_rules | `(tactic| walk_at "mine pad54") => `(tactic| skip)
local macro_rules | `(tactic| walk_at "mine pad55") => `(tactic| skip)
local macro_rules | `(tactic| walk_at "mine pad56") => `(tactic| skip)
local macro_rules | `(tactic| walk_at "mine pad57") => `(tactic| skip)
theorem off_L14 : True := by
  w_top off
  trivial
section
local macro_rules | `(tactic| k_room) => `(tactic| ((try simp only [depth_under_make, depth_under_kw, depth_in1, depth_deeper, depth_caller, Ar] at *); omega))
local macro_rules | `(tactic| walk_at "mine enter") => `(tactic| (
  (case kG => assumption); (case k6 => k_is); (case k7 => k_is); (case k8 => k_room); (case k9 => exact BindsTo.of_eq rfl); (case c5 => decide); (case kB => exact locs rfl); (case c2 => exact rfl); (case c3 => exact rfl); (case c4 => exact rfl)))
local macro_rules | `(tactic| walk_at "mine enterK") => `(tactic| (
  (case kG => assumption); (case k6 => k_is); (case k7 => k_is); (case k8 => k_room); (case k9 => exact binds_K (by with_reducible assumption) rfl (by k_is) rfl rfl rfl); (case c5 => decide); (case kB => exact locs rfl); (case c2 => exact rfl); (case c3 => exact rfl); (case c4 => exact rfl)))
local macro_rules | `(tactic| walk_at "eval Name") => `(tactic| (k_here; (with_reducible rename Fr _ _ _ _ => kF); k_dflt (first
  | (refine' nameG_L ?a ?b ?_ ?c ?d ?e; (case a => assumption); (case b => assumption); (case c => rfl); (case d => rfl); (case e => decide); k_whole)
  | (refine' nameG_K kF ?k1 ?k2 ?k3 ?_ ?k4 ?k5 ?k6 ?k7; (case k4 => rfl); (case k5 => rfl); (case k6 => rfl); (case k7 => decide); (case k1 => k_asm); (case k2 => k_asm); (case k3 => k_is); k_whole)
  | (refine' nameG_B kF ?k1 ?k2 ?k3 ?kv ?kn ?_ ?k4 ?k8 ?k5 ?k6 ?k7; (case k4 => rfl); (case k8 => rfl); (case k5 => rfl); (case k6 => rfl); (case k7 => decide); (case kn => decide); (case k1 => k_asm); (case k2 => k_asm); (case k3 => k_is); (case kv => boot_by_name); k_whole))))
local macro_rules | `(tactic| walk_at "mine enterB") => `(tactic| (
  (case k6 => k_is); (case k7 => k_is); (case k8 => k_room); (case k9 => exact BindsTo.of_eq rfl); (case c5 => decide); (case kB => exact locs rfl); (case c2 => exact rfl); (case c3 => exact rfl); (case c4 => exact rfl)))
local macro_rules | `(tactic| walk_at "setItem ref int") => `(tactic| (k_here; k_dflt (refine' ki_set ?F ?N ?a ?b ?e (Upd.head ?U) ?_; (case F => k_asm); (case N => k_asm); (case U => assumption); (case a => decide); (case b => decide); (case e => rfl)); intro h9 F9 N9; (try dsimp only [List.nil_append, List.cons_append] at N9)))
local macro_rules | `(tactic| walk_at "subscriptTail") => `(tactic| (k_here; (with_reducible show wpAny _ _ (subscriptTail _ _ (Value.ref _) (Value.int _ _)) _ _ _); refine Halt.of ?_))
set_option maxHeartbeats 4000000 in
theorem draw_spec {w : World} {mean : ExcName → Option Value} {mg mb : Str → Option Value} {dp un : Nat} {fr : Option (List Env)} {gd : Option (List Code)} {s : Shared} {h₀ : Heap} {T C : Addr} {vs : List Value} {ns : List Int} {at' many nT nC : Nat} {t0 tm : Tok} {rest : List (Addr × Obj)} {Q E : Value → Shared → Prop}
    (X : (hd.heap_39 w.params).In h₀) (TT : Top hd.view_39 Lo mean mg mb h₀) (kx : Ext h₀ s.heap) (hsz : h₀.objs.size ≤ s.heap.objs.size) (hdp : dp < recursionLimit)
    (hnews : ∀ p ∈ (T, listOf #[.ref C, .int (at' : Int) t0] nT) :: (C, listOf vs.toArray nC) :: rest, s.heap.get? p.1 = some p.2 ∧ h₀.get? p.1 = none)
    (hTr : ∀ p ∈ (C, listOf vs.toArray nC) :: rest, p.1 ≠ T) (hi : IntsAre vs ns) (hn0 : 0 < ns.length) (hn : ns.length ≤ 100) (hat : at' ≤ 100) (hm0 : 0 < many) (hm : many ≤ 100)
    (k : ∀ h' (r : Nat) t' tk' t1, r < many → (∀ p ∈ (T, listOf #[.ref C, .int ((at' + 1 : Nat) : Int) t1] nT) :: (C, listOf vs.toArray nC) :: rest, h'.get? p.1 = some p.2) → Ext h₀ h' → Q (.int (r : Int) t') { s with heap := h', toks := tk' }) :
    wpAny (model Pg w) (Ar dp un fr gd) (call (.ref 137) [.ref T, .int (many : Int) tm]) Q E s := by
  refine wpAny_call ?_
  refine' enterB [("tape", .ref T), ("many", .int (many : Int) tm)] ((T, listOf #[.ref C, .int (at' : Int) t0] nT) :: (C, listOf vs.toArray nC) :: rest) X TT kx hsz hnews ?k6 ?k7 ?k8 ?k9 ?kB ?_ ?c2 ?c3 ?c4 ?c5
  walk_at "mine enterB"
  intro h' F' N' hlt
  clear hlt
  show wpAny _ _ _ _ _ _
  k_fold
  k_steps
  rename_i h9 F9 N9 t9
  have e2 : (at' : Int) + 1 = ((at' + 1 : Nat) : Int) := by omega
  rw [e2] at N9
  have hmz : (0 : Int) < (many : Int) := by omega
  generalize ns.getD (Int.fmod (at' : Int) (ns.length : Int)).toNat 0 + Int.fdiv (at' : Int) (ns.length : Int) * (7 * (at' : Int) + 3 + Int.fdiv (at' : Int) 2) = z
  have e1 : Int.fmod z (many : Int) = z % (many : Int) := Int.fmod_eq_emod_of_nonneg z (Int.le_of_lt hmz)
  have h1 := Int.emod_nonneg z (Int.ne_of_gt hmz)
  have h2 := Int.emod_lt_of_pos z hmz
  rw [e1]
  obtain ⟨r, hr⟩ : ∃ r : Nat, z % (many : Int) = (r : Int) := ⟨(z % (many : Int)).toNat, by omega⟩
  rw [hr]
  exact k h9 r _ _ _ (by omega) (fun p hp => (N9 p hp).1) F9.keep
/-- what a draw leaves of the caller's frame -/
theorem Fr.held {h₀ h h' : Heap} {L : Addr} {m : PySem.Str → Option Value} (F : Fr h₀ L h m) (hL : ∀ o, h.get? L = some o → h'.get? L = some o) (k : Ext h₀ h') : Fr h₀ L h' m := by
  obtain ⟨oL, a1, a2, hL', a3⟩ := F.ns
  exact ⟨⟨oL, a1, a2, hL _ hL', a3⟩, k, F.above⟩
theorem draw_use {w : World} {mean : ExcName → Option Value} {mg mb : Str → Option Value} {A : Around} {s : Shared} {h₀ : Heap} {L : Addr} {m : PySem.Str → Option Value} {T C : Addr} {vs : List Value} {ns : List Int} {at' many nT nC : Nat} {t0 tm : Tok} {rest : List (Addr × Obj)} {Q E : Value → Shared → Prop}
    (X : (hd.heap_39 w.params).In h₀) (TT : Top hd.view_39 Lo mean mg mb h₀) (F : Fr h₀ L s.heap m) (N : News h₀ L s.heap ((T, listOf #[.ref C, .int (at' : Int) t0] nT) :: (C, listOf vs.toArray nC) :: rest)) (hh : A.handled = none) (hdp : A.depth < recursionLimit)
    (hTr : ∀ p ∈ (C, listOf vs.toArray nC) :: rest, p.1 ≠ T) (hi : IntsAre vs ns) (hn0 : 0 < ns.length) (hn : ns.length ≤ 100) (hat : at' ≤ 100) (hm0 : 0 < many) (hm : many ≤ 100)
    (k : ∀ h' (r : Nat) t' tk' t1, r < many → Fr h₀ L h' m → News h₀ L h' ((T, listOf #[.ref C, .int ((at' + 1 : Nat) : Int) t1] nT) :: (C, listOf vs.toArray nC) :: rest) → Q (.int (r : Int) t') { s with heap := h', toks := tk' }) :
    wpAny (model Pg w) A (call (.ref 137) [.ref T, .int (many : Int) tm]) Q E s := by
  obtain ⟨hd', dp, fr, gd, un⟩ := A
  cases hh
  obtain ⟨oL, a1, a2, hL, a3⟩ := F.ns
  have hsz : h₀.objs.size ≤ s.heap.objs.size := Nat.le_of_lt (Nat.lt_of_le_of_lt F.above (Heap.lt_size hL))
  have hL0 : h₀.get? L = none := get_none_size F.above
  have hTL : T ≠ L := (N _ (.head _)).2.1
  refine draw_spec (T := T) (C := C) (t0 := t0) (nT := nT) (nC := nC) (rest := (L, oL) :: rest) X TT F.keep hsz hdp ?_ ?_ hi hn0 hn hat hm0 hm fun h' r t' tk' t1 hr hall hx => k h' r t' tk' t1 hr ?_ ?_
  · intro p hp
    rcases List.mem_cons.mp hp with rfl | hp
    · exact ⟨(N _ (.head _)).1, (N _ (.head _)).2.2⟩
    · rcases List.mem_cons.mp hp with rfl | hp
      · exact ⟨(N _ (.tail _ (.head _))).1, (N _ (.tail _ (.head _))).2.2⟩
      · rcases List.mem_cons.mp hp with rfl | hp
        · exact ⟨hL, hL0⟩
        · exact ⟨(N _ (.tail _ (.tail _ hp))).1, (N _ (.tail _ (.tail _ hp))).2.2⟩
  · intro p hp
    rcases List.mem_cons.mp hp with rfl | hp
    · exact hTr _ (.head _)
    · rcases List.mem_cons.mp hp with rfl | hp
      · exact Ne.symm hTL
      · exact hTr _ (.tail _ hp)
  · exact Mine.Fr.held F (fun o e => by rw [hL] at e; cases e; exact hall _ (.tail _ (.tail _ (.head _)))) hx
  · intro p hp
    rcases List.mem_cons.mp hp with rfl | hp
    · exact ⟨hall _ (.head _), hTL, (N _ (.head _)).2.2⟩
    · rcases List.mem_cons.mp hp with rfl | hp
      · exact ⟨hall _ (.tail _ (.head _)), (N _ (.tail _ (.head _))).2⟩
      · exact ⟨hall _ (.tail _ (.tail _ (.tail _ hp))), (N _ (.tail _ (.tail _ hp))).2⟩
theorem language_value_use {w : World} {mean : ExcName → Option Value} {mg mb : Str → Option Value} {A : Around} {s : Shared} {l : Addr} {its : List Value} {fs : List (List UInt8 × List UInt8)} {Q E : Value → Shared → Prop} {h₀ : Heap} {L : Addr} {m : PySem.Str → Option Value} {news : List (Addr × Obj)}
    (X : (Mine.hd.heap_39 w.params).In h₀) (T : Top Mine.hd.view_39 Lo mean mg mb h₀) (F : Fr h₀ L s.heap m) (N : News h₀ L s.heap news) (hh : A.handled = none) (hdp : A.depth + 5 < recursionLimit) (hun : A.units + 100 < cLine)
    (hl : s.heap.IsList l its.toArray) (hf : AllAre (fun v f => IsField w.params s.heap v f.1 f.2) its fs) (hz : ∀ f ∈ fs, f.1.length ≤ 100000 ∧ f.2.length ≤ 100000)
    (k : ∀ v h' tk', Ext s.heap h' → Fr h₀ L h' m → News h₀ L h' news → Tells h' v (foundP fs) → Q v { s with heap := h', toks := tk' }) :
    wpAny (model Pg w) A (call (.ref 128) [.ref l]) Q E s := by
  obtain ⟨hd', dp, fr, gd, un⟩ := A
  cases hh
  exact language_value_spec ⟨X.keeps F.keep, T.keeps F.keep⟩ hdp hun hl hf hz fun v h' tk' e t => k v h' tk' e (F.keeps e) (N.grown e) t
end
end
section
/-! C3 -/
section
variable {prog : Program} {w : World} {A : Around} {s : Shared} {h₀ : Heap} {L : Addr} {m : PySem.Str → Option Value} {env : Env}
/-- a comprehension whose element turns the ledger: by a word over the turn's number, the values made, the ledger -/
theorem rest_by {elt : Expr} {x : PySem.Str} {scope : Scope} {cl : List (PySem.Str × Addr)} {S : List (Addr × Obj) → Prop} {P : Nat → Value → Prop} {Fin : List Value → List (Addr × Obj) → Prop} {n : Nat} (J : Nat → List Value → List (Addr × Obj) → Prop)
    (turn : ∀ i v ys news I oI C oC D m₂ h tk (E' : Value → Shared → Prop), i < n → J i ys news → P i v → LCg.NsObj oC m₂ → m₂ x = some v → Fr h₀ L h m → News h₀ L h ((I, oI) :: (C, oC) :: (D, LCg.lst ys) :: news) → LCg.Off3 I C D news → ((@Ne Nat I C) ∧ (@Ne Nat I D) ∧ (@Ne Nat C D)) →
      wpAny (model prog w) A (eval elt (compEnvC scope cl C env)) (LCg.CompEnd h₀ L m { s with heap := h, toks := tk } I oI C oC D (LCg.lst ys) S (fun y news' => J (i + 1) (ys ++ [y]) news')) E' { s with heap := h, toks := tk })
    (fin : ∀ ys news, J n ys news → Fin ys news) : ∀ (k i : Nat) (ys : List Value) (news : List (Addr × Obj)), i + k = n → J i ys news → LCg.CompRest prog w A h₀ L m env elt x scope cl s S P Fin k i ys news
  | 0, i, ys, news, hi, hJ => by
    have e : i = n := by omega
    subst e
    exact LCg.CompRest.zero (fin ys news hJ)
  | k + 1, i, ys, news, hi, hJ => by
    refine LCg.CompRest.succ ?_
    intro v I oI C oC D m₂ h tk E' hv hC hx F N off ne
    refine wpAny_mono (turn i v ys news I oI C oC D m₂ h tk E' (by omega) hJ hv hC hx F N off ne) (fun y s₂ hq => ?_) fun _ _ e => e
    obtain ⟨h', tk', nw, e, F', N', off', hS, hn⟩ := hq
    exact ⟨h', tk', nw, e, F', N', off', hS, rest_by J turn fin k (i + 1) _ nw (by omega) hn⟩
end
/-- values that are these small numbers -/
def NatIs (v : Value) (n : Nat) : Prop := ∃ t, v = .int (n : Int) t
theorem range_small : ∀ r : Nat, r < 6 → Builtin.Range.small 0 (r : Int) 1 = true ∧ Builtin.Range.rangeSize 0 (r : Int) 1 = (r : Int) := by
  decide
end
section
/-! C4 -/
open PySem.SeqAt
section
variable {prog : Program} {w : World} {A : Around} {E : Value → Shared → Prop} {s : Shared}
/-- two lists of bytes told apart -/
theorem ne_lists {a b : Addr} {vs ws : List Value} {xs ys : List (List UInt8)} {Q : Value → Shared → Prop} (ha : s.heap.IsList a vs.toArray) (hb : s.heap.IsList b ws.toArray) (hv : BytesAre vs xs) (hw : BytesAre ws ys) (hl : xs.length ≠ ys.length ∨ xs = [] ∧ ys = []) (hu : A.units < cLine)
    (h : Q (.bool (!decide (xs = ys))) s) : wpAny (model prog w) A (compareOp .NotEq (.ref a) (.ref b)) Q E s := by
  refine cmp_ofNotEq ?_
  rcases hl with hl | ⟨rfl, rfl⟩
  · refine RcNeAt.lists_lengths ha hb ?_ hu prog w E Q ?_
    · rw [List.size_toArray, List.size_toArray, hv.length, hw.length]; simpa using hl
    · rw [decide_eq_false (fun e => hl (by rw [e]))] at h; exact h
  · have hl' : vs.toArray.size = ws.toArray.size := by rw [List.size_toArray, List.size_toArray, hv.length, hw.length]
    have h0 : vs.toArray.size = 0 := by rw [List.size_toArray, hv.length]; rfl
    have := RcNeAt.lists (e := fun _ => true) ha hb hl' hu (fun j h1 h2 => absurd h1 (by omega)) prog w E Q
    rw [h0] at this
    exact this h

/-- an item of a tuple of bytes at an open place -/
theorem item_tupB {value slice : Expr} {l : Addr} {vs : List Value} {xs : List (List UInt8)} {j : Nat} {u : Tok} {Q : Value → Shared → Prop} (ht : IsTup s.heap l vs.toArray) (hv : BytesAre vs xs) (hj : j < xs.length) (hz : xs.length ≤ 1000)
    (h : ∀ t, Q (.bytes (xs.getD j []).toArray t) s)
    (hs : subscripted slice false (.ref l) (.int (j : Int) u) = operate [.ref l, .int (j : Int) u] (getItem (.ref l) (.int (j : Int) u)) := by with_unfolding_all rfl) :
    wpAny (model prog w) A (subscriptTail value slice (.ref l) (.int (j : Int) u)) Q E s := by
  obtain ⟨t, ht'⟩ := hv.get j xs[j] (List.getElem?_eq_getElem hj)
  have e : xs.getD j [] = xs[j] := by rw [List.getD_eq_getElem?_getD, List.getElem?_eq_getElem hj]; rfl
  have h' := h t
  rw [e] at h'
  exact item_tupleT ht (by omega) (by omega) (seqIndex_of (by omega) (by rw [hv.length]; omega)) (by simpa using ht') h' hs
end

theorem perm5 {h₀ h : Heap} {L : Addr} {a b c d e : Addr × Obj} (N : News h₀ L h [a, b, c, d, e]) : News h₀ L h [c, d, a, b, e] := KStt.news_of N fun p hp => by
  simp only [List.mem_cons, List.not_mem_nil, or_false] at hp ⊢
  rcases hp with rfl | rfl | rfl | rfl | rfl <;> simp
theorem ends3 {h₀ h : Heap} {L : Addr} {a b c : Addr × Obj} (N : News h₀ L h [a, b, c]) : News h₀ L h [a, c] := KStt.news_of N fun p hp => by
  simp only [List.mem_cons, List.not_mem_nil, or_false] at hp ⊢
  rcases hp with rfl | rfl <;> simp
theorem ends4 {h₀ h : Heap} {L : Addr} {a b c d : Addr × Obj} (N : News h₀ L h [a, b, c, d]) : News h₀ L h [a, d] := KStt.news_of N fun p hp => by
  simp only [List.mem_cons, List.not_mem_nil, or_false] at hp ⊢
  rcases hp with rfl | rfl <;> simp
theorem perm6 {h₀ h : Heap} {L : Addr} {a b c d e f : Addr × Obj} (N : News h₀ L h [a, b, c, d, e, f]) : News h₀ L h [d, e, a, b, c, f] := KStt.news_of N fun p hp => by
  simp only [List.mem_cons, List.not_mem_nil, or_false] at hp ⊢
  rcases hp with rfl | rfl | rfl | rfl | rfl | rfl <;> simp
theorem off5 {T : Addr} {a b c d e : Addr × Obj} (ha : a.1 ≠ T) (hb : b.1 ≠ T) (hc : c.1 ≠ T) (hd : d.1 ≠ T) (he : e.1 ≠ T) : ∀ p ∈ [a, b, c, d, e], p.1 ≠ T := by
  intro p hp
  simp only [List.mem_cons, List.not_mem_nil, or_false] at hp
  rcases hp with rfl | rfl | rfl | rfl | rfl <;> assumption
theorem off2 {T : Addr} {a b : Addr × Obj} (ha : a.1 ≠ T) (hb : b.1 ≠ T) : ∀ p ∈ [a, b], p.1 ≠ T := by
  intro p hp
  simp only [List.mem_cons, List.not_mem_nil, or_false] at hp
  rcases hp with rfl | rfl <;> assumption
theorem perm3 {a b c d e f g x y z : Addr × Obj} : ∀ p ∈ [a, b, c, d, e, f], p ∈ [d, e, a, b, c, f] := by
  intro p hp
  simp only [List.mem_cons, List.not_mem_nil, or_false] at hp ⊢
  rcases hp with rfl | rfl | rfl | rfl | rfl | rfl <;> simp
theorem perm5b {h₀ h : Heap} {L : Addr} {a b c d e : Addr × Obj} (N : News h₀ L h [a, b, c, d, e]) : News h₀ L h [b, c, a, d, e] := KStt.news_of N fun p hp => by
  simp only [List.mem_cons, List.not_mem_nil, or_false] at hp ⊢
  rcases hp with rfl | rfl | rfl | rfl | rfl <;> simp
theorem off4 {T : Addr} {a b c d : Addr × Obj} (ha : a.1 ≠ T) (hb : b.1 ≠ T) (hc : c.1 ≠ T) (hd : d.1 ≠ T) : ∀ p ∈ [a, b, c, d], p.1 ≠ T := by
  intro p hp
  simp only [List.mem_cons, List.not_mem_nil, or_false] at hp
  rcases hp with rfl | rfl | rfl | rfl <;> assumption

/-- a new object onto the ledger where the frame's own dict turns -/
theorem ontoA {h₀ h h' : Heap} {L a : Addr} {o : Obj} {m : PySem.Str → Option Value} {news : List (Addr × Obj)} (F : Fr h₀ L h m) (N : News h₀ L h news) (k : ∀ b o, b ≠ L → h.get? b = some o → h'.get? b = some o) (hn : h.get? a = none) (ho : h'.get? a = some o) : News h₀ L h' ((a, o) :: news) := by
  intro p hp
  rcases List.mem_cons.mp hp with rfl | hp
  · refine ⟨ho, ?_, ?_⟩
    · rintro rfl
      obtain ⟨oL, _, _, hL, _⟩ := F.ns
      rw [hL] at hn; cases hn
    · cases q : h₀.get? a with
      | none => rfl
      | some o' => have := F.keep _ _ q; rw [hn] at this; cases this
  · obtain ⟨g1, g2, g3⟩ := N p hp
    exact ⟨k _ _ g2 g1, g2, g3⟩

/-! the law's own tables -/
def namesL : List (List UInt8) := [[67, 111, 110, 116, 101, 110, 116, 45, 76, 97, 110, 103, 117, 97, 103, 101], [67, 79, 78, 84, 69, 78, 84, 45, 108, 97, 110, 103, 117, 97, 103, 101], [99, 111, 110, 116, 101, 110, 116, 45, 108, 97, 110, 103, 117, 97, 103, 101]]
def aheadL : List (List UInt8) := [[], [83, 117, 98, 106, 101, 99, 116, 58, 32, 100, 101, 44, 32, 101, 110, 13, 10], [67, 111, 110, 116, 101, 110, 116, 45, 76, 97, 110, 103, 117, 97, 103, 101, 115, 58, 32, 110, 108, 13, 10, 83, 117, 98, 106, 101, 99, 116, 58, 32, 120, 13, 10]]
def piecesL : List (List UInt8) := [[100, 101], [101, 110, 45, 71, 66], [32, 102, 114, 32], [], [9], [120, 32, 121], [13, 10, 32, 105, 116], [32, 32]]
def plainL : List (List UInt8) := [[100, 101], [101, 110, 45, 71, 66], [102, 114], [], [], [120, 32, 121], [105, 116], []]
theorem pieces_tup {w : World} {h₀ : Heap} (X : (Mine.hd.heap_39 w.params).In h₀) : ∃ vs, IsTup h₀ 129 vs.toArray ∧ BytesAre vs piecesL := by
  refine ⟨[.bytes #[100, 101] 351, .bytes #[101, 110, 45, 71, 66] 352, .bytes #[32, 102, 114, 32] 353, .bytes #[] 354, .bytes #[9] 355, .bytes #[120, 32, 121] 356, .bytes #[13, 10, 32, 105, 116] 357, .bytes #[32, 32] 358], ⟨_, X 129 ⟨.type "tuple", none, .seq #[.bytes #[100, 101] 351, .bytes #[101, 110, 45, 71, 66] 352, .bytes #[32, 102, 114, 32] 353, .bytes #[] 354, .bytes #[9] 355, .bytes #[120, 32, 121] 356, .bytes #[13, 10, 32, 105, 116] 357, .bytes #[32, 32] 358] 0, #[]⟩ ?_, rfl, 0, rfl⟩, .cons (.cons (.cons (.cons (.cons (.cons (.cons (.cons .nil)))))))⟩
  k_is
theorem plain_tup {w : World} {h₀ : Heap} (X : (Mine.hd.heap_39 w.params).In h₀) : ∃ vs, IsTup h₀ 130 vs.toArray ∧ BytesAre vs plainL := by
  refine ⟨[.bytes #[100, 101] 360, .bytes #[101, 110, 45, 71, 66] 361, .bytes #[102, 114] 362, .bytes #[] 363, .bytes #[] 364, .bytes #[120, 32, 121] 365, .bytes #[105, 116] 366, .bytes #[] 367], ⟨_, X 130 ⟨.type "tuple", none, .seq #[.bytes #[100, 101] 360, .bytes #[101, 110, 45, 71, 66] 361, .bytes #[102, 114] 362, .bytes #[] 363, .bytes #[] 364, .bytes #[120, 32, 121] 365, .bytes #[105, 116] 366, .bytes #[] 367] 0, #[]⟩ ?_, rfl, 0, rfl⟩, .cons (.cons (.cons (.cons (.cons (.cons (.cons (.cons .nil)))))))⟩
  k_is
/-- a pick's item of a table -/
def ItemOf (tab : List (List UInt8)) (v y : Value) : Prop := ∃ (n : Nat) (t t' : Tok), v = .int (n : Int) t ∧ y = .bytes (tab.getD n []).toArray t'
theorem items_of {tab : List (List UInt8)} : ∀ {vs ys : List Value} {ps : List Nat}, AllAre NatIs vs ps → Paired (ItemOf tab) vs ys → BytesAre ys (ps.map fun p => tab.getD p [])
  | _, _, _, .nil, .nil => .nil
  | _, _, _, .cons h1 h2, .cons g1 g2 => by
    obtain ⟨t, rfl⟩ := h1
    obtain ⟨n, t1, t2, e, rfl⟩ := g1
    injection e with e _
    have : n = _ := (Int.ofNat.inj e).symm
    subst this
    exact .cons (items_of h2 g2)
/-- a pick that is kept -/
def keepP (tab : List (List UInt8)) : Value → Bool
  | .int i _ => tab.getD i.toNat [] != []
  | _ => false
theorem items_kept {tab : List (List UInt8)} {vs : List Value} {ps : List Nat} (h : AllAre NatIs vs ps) : ∀ {ys : List Value}, Paired (ItemOf tab) (vs.filter (keepP tab)) ys → BytesAre ys ((ps.map fun p => tab.getD p []).filter fun x => x != []) := by
  induction h with
  | nil => intro ys hp; rw [List.filter_nil] at hp; cases hp; exact .nil
  | cons h1 h2 ih =>
    rename_i v f vs fs
    intro ys hp
    obtain ⟨t, rfl⟩ := h1
    have e : keepP tab (Value.int (f : Int) t) = (tab.getD f [] != []) := rfl
    rw [List.filter_cons, e] at hp
    rw [List.map_cons, List.filter_cons]
    cases hk : (tab.getD f [] != []) with
    | false => rw [hk] at hp; exact ih hp
    | true =>
      rw [hk] at hp
      cases hp with
      | cons g1 g2 =>
        obtain ⟨n, t1, t2, e1, rfl⟩ := g1
        injection e1 with e1 _
        have : n = _ := (Int.ofNat.inj e1).symm
        subst this
        exact .cons (ih g2)
theorem nat_at {vs : List Value} {ps : List Nat} (h : AllAre NatIs vs ps) (h8 : ∀ p ∈ ps, p < 8) (i : Nat) (v : Value) (hv : vs[i]? = some v) : ∃ (n : Nat) (t : Tok), v = .int (n : Int) t ∧ n < 8 := by
  obtain ⟨f, hf, t, e⟩ := h.at i v hv
  exact ⟨f, t, e, h8 f (List.mem_of_getElem? hf)⟩

/-- the head's value, by picks -/
def rawOf (ps : List Nat) : List UInt8 := glue [44] (ps.map fun p => piecesL.getD p [])
def wordsOf (ps : List Nat) : List (List UInt8) := (ps.map fun p => plainL.getD p []).filter fun x => x != []
theorem words_len (ps : List Nat) : (wordsOf ps).length ≤ ps.length := by
  have h := List.length_filter_le (fun x : List UInt8 => x != []) (ps.map fun p => plainL.getD p [])
  rw [List.length_map] at h
  exact h
theorem piece_len : ∀ p : Nat, (piecesL.getD p []).length ≤ 5
  | 0 | 1 | 2 | 3 | 4 | 5 | 6 | 7 => by decide
  | n + 8 => by
    have : piecesL.getD (n + 8) [] = [] := rfl
    rw [this]; exact Nat.zero_le _
theorem pieces_sum : ∀ ps : List Nat, ((ps.map fun p => piecesL.getD p []).map List.length).sum ≤ 5 * ps.length
  | [] => Nat.le_refl _
  | p :: r => by
    have h1 := piece_len p
    have h2 := pieces_sum r
    simp only [List.map_cons, List.sum_cons, List.length_cons]
    omega
theorem raw_len (ps : List Nat) : (rawOf ps).length ≤ 6 * ps.length := by
  have h1 := glue_len [44] (ps.map fun p => piecesL.getD p [])
  have h2 := pieces_sum ps
  rw [List.length_map] at h1
  show (glue [44] _).length ≤ _
  simp only [List.length_cons, List.length_nil] at h1
  omega
end
section
/-! P2 -/
/-! the plain law: no program in sight -/
theorem seek_no {c : UInt8} : ∀ {a : List UInt8} (i : Nat), c ∉ a → seek c i a = none
  | [], _, _ => rfl
  | x :: r, i, h => by
    rw [List.mem_cons, not_or] at h
    unfold seek
    rw [if_neg (Ne.symm h.1)]
    exact seek_no (i + 1) h.2
theorem seek_at {c : UInt8} (b : List UInt8) : ∀ {a : List UInt8} (i : Nat), c ∉ a → seek c i (a ++ c :: b) = some (i + a.length)
  | [], i, _ => by
    show seek c i (c :: b) = _
    unfold seek
    rw [if_pos rfl]; rfl
  | x :: r, i, h => by
    rw [List.mem_cons, not_or] at h
    show seek c i (x :: (r ++ c :: b)) = _
    unfold seek
    rw [if_neg (Ne.symm h.1), seek_at b (i + 1) h.2, List.length_cons]
    congr 1; omega
theorem lineEnd_no {a : List UInt8} (h : (10 : UInt8) ∉ a) : lineEnd a = (a.length, a.length) := by
  unfold lineEnd; rw [seek_no 0 h]
theorem lineEnd_row {a b : List UInt8} (h : (10 : UInt8) ∉ a) : lineEnd (a ++ 13 :: 10 :: b) = (a.length, a.length + 2) := by
  have e : a ++ 13 :: 10 :: b = (a ++ [13]) ++ 10 :: b := by rw [List.append_assoc]; rfl
  have h' : (10 : UInt8) ∉ a ++ [13] := by
    intro hm
    rcases List.mem_append.mp hm with hm | hm
    · exact h hm
    · rw [List.mem_singleton] at hm; exact absurd hm (by decide)
  unfold lineEnd
  rw [e, seek_at b 0 h']
  have hl : 0 + (a ++ [13]).length = a.length + 1 := by rw [List.length_append]; simp
  rw [hl]
  have hg : ((a ++ [13]) ++ 10 :: b)[a.length + 1 - 1]? = some (13 : UInt8) := by
    rw [Nat.add_sub_cancel, List.append_assoc, List.getElem?_append_right (Nat.le_refl _), Nat.sub_self]; rfl
  dsimp only
  rw [hg, if_pos ⟨Nat.succ_pos _, rfl⟩, Nat.add_sub_cancel]

/-- a text of folded rows, and what it reads as -/
inductive RowsU : List UInt8 → List UInt8 → Prop where
  | one {a : List UInt8} : (10 : UInt8) ∉ a → RowsU a a
  | more {a r u : List UInt8} : (10 : UInt8) ∉ a → whiteAt r = true → RowsU r u → RowsU (a ++ 13 :: 10 :: r) (a ++ u)
theorem not_mem_app {c : UInt8} {a b : List UInt8} (ha : c ∉ a) (hb : c ∉ b) : c ∉ a ++ b := fun h => (List.mem_append.mp h).elim ha hb
theorem RowsU.pre {p v u : List UInt8} (hp : (10 : UInt8) ∉ p) (h : RowsU v u) : RowsU (p ++ v) (p ++ u) := by
  cases h with
  | one ha => exact .one (not_mem_app hp ha)
  | more ha hw hr =>
    rw [← List.append_assoc, ← List.append_assoc]
    exact .more (not_mem_app hp ha) hw hr
theorem white_app {r x : List UInt8} (h : whiteAt r = true) : whiteAt (r ++ x) = true := by
  cases r with
  | nil => cases h
  | cons c r => exact h
theorem drop_to {p x : List UInt8} {n : Nat} (h : n = p.length) : (p ++ x).drop n = x := by rw [h, List.drop_left]
theorem take_to {p x : List UInt8} {n : Nat} (h : n = p.length) : (p ++ x).take n = p := by rw [h, List.take_left]
theorem cont_rows {rest : List UInt8} (hw : whiteAt rest = false) : ∀ {v u : List UInt8}, RowsU v u → ∀ {p : List UInt8}, (10 : UInt8) ∉ p → cont (p ++ v ++ 13 :: 10 :: rest) = (p.length + v.length, p.length + v.length + 2) := by
  intro v u h
  induction h with
  | one ha =>
    rename_i a
    intro p hp
    have hl := lineEnd_row (b := rest) (not_mem_app hp ha)
    rw [cont, hl]
    have hd : (p ++ a ++ 13 :: 10 :: rest).drop ((p ++ a).length + 2) = rest := by
      have e : p ++ a ++ 13 :: 10 :: rest = (p ++ a ++ [13, 10]) ++ rest := by rw [List.append_assoc (p ++ a)]; rfl
      rw [e, drop_to (by simp only [List.length_append, List.length_cons, List.length_nil] <;> omega)]
    dsimp only
    rw [hd, dif_neg (by rw [hw]; exact Bool.false_ne_true), List.length_append]
  | more ha hr hrec ih =>
    rename_i a r u
    intro p hp
    have e0 : p ++ (a ++ 13 :: 10 :: r) ++ 13 :: 10 :: rest = (p ++ a) ++ 13 :: 10 :: (r ++ 13 :: 10 :: rest) := by simp
    rw [e0]
    have hl := lineEnd_row (b := r ++ 13 :: 10 :: rest) (not_mem_app hp ha)
    have hd : ((p ++ a) ++ 13 :: 10 :: (r ++ 13 :: 10 :: rest)).drop ((p ++ a).length + 2) = r ++ 13 :: 10 :: rest := by
      have e : (p ++ a) ++ 13 :: 10 :: (r ++ 13 :: 10 :: rest) = (p ++ a ++ [13, 10]) ++ (r ++ 13 :: 10 :: rest) := by rw [List.append_assoc (p ++ a)]; rfl
      rw [e, drop_to (by simp only [List.length_append, List.length_cons, List.length_nil] <;> omega)]
    have ih' := ih (p := []) (by simp)
    rw [List.nil_append] at ih'
    rw [cont, hl]
    dsimp only
    rw [hd, dif_pos (white_app hr), ih']
    simp only [List.length_append, List.length_cons, List.length_nil, Prod.mk.injEq]
    omega
/-- the first row of a text of rows -/
theorem RowsU.first {v u : List UInt8} (h : RowsU v u) (rest : List UInt8) : ∃ a rest', (10 : UInt8) ∉ a ∧ v ++ 13 :: 10 :: rest = a ++ 13 :: 10 :: rest' := by
  cases h with
  | one ha => exact ⟨v, rest, ha, rfl⟩
  | more ha hw hr =>
    rename_i a r u
    exact ⟨a, r ++ 13 :: 10 :: rest, ha, by simp⟩
theorem ok_facts {nm : List UInt8} (h : nameOk nm = true) : (58 : UInt8) ∉ nm ∧ (10 : UInt8) ∉ nm ∧ 0 < nm.length := by
  unfold nameOk at h
  rw [Bool.and_eq_true, List.all_eq_true] at h
  refine ⟨fun hm => ?_, fun hm => ?_, of_decide_eq_true h.2⟩
  · have := of_decide_eq_true (h.1 _ hm)
    exact this (.inr (.inr rfl))
  · have := of_decide_eq_true (h.1 _ hm)
    exact this (.inl (by decide))
/-- one field ahead of what follows -/
theorem spans_field {nm v u rest : List UInt8} (hn : nameOk nm = true) (hv : RowsU v u) (hw : whiteAt rest = false) : spans (nm ++ 58 :: v ++ 13 :: 10 :: rest) = (nm, v) :: spans rest := by
  obtain ⟨h58, h10, hpos⟩ := ok_facts hn
  obtain ⟨a, rest', ha, e⟩ := hv.first rest
  have e1 : nm ++ 58 :: v ++ 13 :: 10 :: rest = (nm ++ 58 :: a) ++ 13 :: 10 :: rest' := by
    have : nm ++ 58 :: v ++ 13 :: 10 :: rest = nm ++ 58 :: (v ++ 13 :: 10 :: rest) := by simp
    rw [this, e]; simp
  have h10a : (10 : UInt8) ∉ nm ++ 58 :: a := by
    intro hm
    rcases List.mem_append.mp hm with hm | hm
    · exact h10 hm
    · rcases List.mem_cons.mp hm with hm | hm
      · exact absurd hm (by decide)
      · exact ha hm
  have hle := lineEnd_row (b := rest') h10a
  have hcol : colonAt ((nm ++ 58 :: v ++ 13 :: 10 :: rest).take (lineEnd (nm ++ 58 :: v ++ 13 :: 10 :: rest)).1) = some nm.length := by
    rw [e1, hle]
    dsimp only
    rw [take_to rfl]
    unfold colonAt
    rw [seek_at a 0 h58]
    dsimp only
    rw [Nat.zero_add, take_to rfl, if_pos hn]
  have h0 : (lineEnd (nm ++ 58 :: v ++ 13 :: 10 :: rest)).1 ≠ 0 := by
    rw [e1, hle]
    simp
  have hc := cont_rows hw hv (p := nm ++ [58]) (by
    intro hm
    rcases List.mem_append.mp hm with hm | hm
    · exact h10 hm
    · rw [List.mem_singleton] at hm; exact absurd hm (by decide))
  have e2 : nm ++ [58] ++ v ++ 13 :: 10 :: rest = nm ++ 58 :: v ++ 13 :: 10 :: rest := by simp
  rw [e2] at hc
  rw [spans_some h0 hcol, hc]
  have t1 : (nm ++ 58 :: v ++ 13 :: 10 :: rest).take nm.length = nm := by
    have : nm ++ 58 :: v ++ 13 :: 10 :: rest = nm ++ (58 :: v ++ 13 :: 10 :: rest) := by simp
    rw [this, take_to rfl]
  have t2 : (nm ++ 58 :: v ++ 13 :: 10 :: rest).drop (nm.length + 1) = v ++ 13 :: 10 :: rest := by
    rw [← e2, List.append_assoc, drop_to (by simp only [List.length_append, List.length_cons, List.length_nil] <;> omega)]
  have t3 : (nm ++ 58 :: v ++ 13 :: 10 :: rest).drop ((nm ++ [58]).length + v.length + 2) = rest := by
    have : nm ++ 58 :: v ++ 13 :: 10 :: rest = (nm ++ [58] ++ v ++ [13, 10]) ++ rest := by simp
    rw [this, drop_to (by simp only [List.length_append, List.length_cons, List.length_nil] <;> omega)]
  dsimp only
  rw [t1, t2, t3, take_to (by simp only [List.length_append, List.length_cons, List.length_nil] <;> omega)]
theorem rows_flat : ∀ {v u : List UInt8}, RowsU v u → ∀ {p : List UInt8}, (10 : UInt8) ∉ p → (rowsP (p ++ v)).flatten = p ++ u := by
  intro v u h
  induction h with
  | one ha =>
    rename_i a
    intro p hp
    have hl := lineEnd_no (not_mem_app hp ha)
    rw [rowsP, dif_pos (by rw [hl]), hl]
    dsimp only
    rw [List.take_length]; simp
  | more ha hr hrec ih =>
    rename_i a r u
    intro p hp
    have hl := lineEnd_row (b := r) (not_mem_app hp ha)
    have e0 : p ++ (a ++ 13 :: 10 :: r) = (p ++ a) ++ 13 :: 10 :: r := by simp
    rw [e0, rowsP, dif_neg (by rw [hl]; simp), hl]
    have hd : ((p ++ a) ++ 13 :: 10 :: r).drop ((p ++ a).length + 2) = r := by
      have e : (p ++ a) ++ 13 :: 10 :: r = (p ++ a ++ [13, 10]) ++ r := by rw [List.append_assoc (p ++ a)]; rfl
      rw [e, drop_to (by simp only [List.length_append, List.length_cons, List.length_nil] <;> omega)]
    dsimp only
    rw [hd, take_to rfl, List.flatten_cons]
    have ih' := ih (p := []) (by simp)
    rw [List.nil_append, List.nil_append] at ih'
    rw [ih', List.append_assoc]

/-! strips and cuts -/
def whB (c : UInt8) : Bool := (#[32, 9] : Array UInt8).contains c
theorem dw_app (q : List UInt8) (x : List UInt8) : (q ++ x).dropWhile whB = if q.dropWhile whB = [] then x.dropWhile whB else q.dropWhile whB ++ x := by
  induction q with
  | nil => rfl
  | cons c r ih =>
    rw [List.cons_append, List.dropWhile_cons, List.dropWhile_cons]
    by_cases h : whB c = true
    · rw [if_pos h, if_pos h]; exact ih
    · rw [if_neg h, if_neg h]
      rw [if_neg (by simp)]; rfl
theorem stripL_def (l : List UInt8) : stripL l = ((l.dropWhile whB).reverse.dropWhile whB).reverse := rfl
theorem strip_cons {c : UInt8} (h : whB c = true) (q : List UInt8) : stripL (c :: q) = stripL q := by
  rw [stripL_def, stripL_def, List.dropWhile_cons, if_pos h]
theorem strip_snoc {c : UInt8} (h : whB c = true) (q : List UInt8) : stripL (q ++ [c]) = stripL q := by
  rw [stripL_def, stripL_def, dw_app]
  by_cases hq : q.dropWhile whB = []
  · rw [if_pos hq, hq, List.dropWhile_cons, if_pos h]; rfl
  · rw [if_neg hq, List.reverse_append, List.reverse_singleton, List.singleton_append, List.dropWhile_cons, if_pos h]
/-- the last part grown -/
def appLast (c : UInt8) : List (List UInt8) → List (List UInt8)
  | [] => [[c]]
  | [p] => [p ++ [c]]
  | p :: q :: r => p :: appLast c (q :: r)
theorem cut_snoc {c d : UInt8} (h : c ≠ d) : ∀ x : List UInt8, cutAt d (x ++ [c]) = appLast c (cutAt d x)
  | [] => by
    show cutAt d [c] = _
    simp only [cutAt, if_neg h, appLast, List.nil_append]
  | y :: r => by
    have ih := cut_snoc h r
    show cutAt d (y :: (r ++ [c])) = appLast c (cutAt d (y :: r))
    have hne := cutAt_ne d r
    simp only [cutAt]
    rw [ih]
    cases hr : cutAt d r with
    | nil => exact absurd hr hne
    | cons p ps =>
      by_cases hy : y = d
      · rw [if_pos hy, if_pos hy]; rfl
      · rw [if_neg hy, if_neg hy]
        cases ps with
        | nil => rfl
        | cons q ps => rfl
theorem map_appLast {c : UInt8} (h : whB c = true) : ∀ L : List (List UInt8), L ≠ [] → (appLast c L).map stripL = L.map stripL
  | [], h0 => absurd rfl h0
  | [p], _ => by
    show [stripL (p ++ [c])] = [stripL p]
    rw [strip_snoc h]
  | p :: q :: r, _ => by
    show stripL p :: (appLast c (q :: r)).map stripL = stripL p :: (q :: r).map stripL
    rw [map_appLast h (q :: r) (by simp)]
/-- the parts, each stripped -/
def parts (x : List UInt8) : List (List UInt8) := (cutAt 44 x).map stripL
theorem parts_cons {c : UInt8} (h : whB c = true) (h4 : c ≠ 44) (x : List UInt8) : parts (c :: x) = parts x := by
  unfold parts
  have hne := cutAt_ne 44 x
  simp only [cutAt, if_neg h4]
  cases hr : cutAt 44 x with
  | nil => exact absurd hr hne
  | cons p ps =>
    show stripL (c :: p) :: ps.map stripL = stripL p :: ps.map stripL
    rw [strip_cons h]
theorem parts_snoc {c : UInt8} (h : whB c = true) (h4 : c ≠ 44) (x : List UInt8) : parts (x ++ [c]) = parts x := by
  unfold parts
  rw [cut_snoc h4, map_appLast h _ (cutAt_ne 44 x)]
theorem wh_ne {c : UInt8} (h : whB c = true) : c ≠ 44 := by
  rintro rfl
  have h2 : whB 44 = false := by decide +kernel
  rw [h2] at h; cases h
theorem parts_front : ∀ x : List UInt8, parts (x.dropWhile whB) = parts x
  | [] => rfl
  | c :: r => by
    rw [List.dropWhile_cons]
    by_cases h : whB c = true
    · rw [if_pos h, parts_front r, parts_cons h (wh_ne h)]
    · rw [if_neg h]
theorem parts_back : ∀ y : List UInt8, parts ((y.dropWhile whB).reverse) = parts y.reverse
  | [] => rfl
  | c :: r => by
    rw [List.dropWhile_cons]
    by_cases h : whB c = true
    · rw [if_pos h, parts_back r, List.reverse_cons, parts_snoc h (wh_ne h)]
    · rw [if_neg h]
theorem parts_strip (x : List UInt8) : parts (stripL x) = parts x := by
  rw [stripL_def, parts_back, List.reverse_reverse, parts_front]
theorem cut_no {d : UInt8} : ∀ {x : List UInt8}, d ∉ x → cutAt d x = [x]
  | [], _ => rfl
  | y :: r, h => by
    rw [List.mem_cons, not_or] at h
    simp only [cutAt, if_neg (Ne.symm h.1), cut_no h.2]
theorem cut_at {d : UInt8} (z : List UInt8) : ∀ {x : List UInt8}, d ∉ x → cutAt d (x ++ d :: z) = x :: cutAt d z
  | [], _ => by
    show cutAt d (d :: z) = _
    simp only [cutAt, if_true]
  | y :: r, h => by
    rw [List.mem_cons, not_or] at h
    show cutAt d (y :: (r ++ d :: z)) = _
    simp only [cutAt, if_neg (Ne.symm h.1), cut_at z h.2]
theorem cut_glue {d : UInt8} : ∀ {r : List (List UInt8)} {x : List UInt8}, d ∉ x → (∀ y ∈ r, d ∉ y) → cutAt d (x ++ (r.map fun y => [d] ++ y).flatten) = x :: r
  | [], x, hx, _ => by simp [cut_no hx]
  | y :: r, x, hx, hr => by
    rw [List.map_cons, List.flatten_cons, List.append_assoc, List.singleton_append, cut_at _ hx]
    rw [cut_glue (hr y (.head _)) fun z hz => hr z (.tail _ hz)]

/-! the head -/
/-- a piece as it reads -/
def readL : List (List UInt8) := [[100, 101], [101, 110, 45, 71, 66], [32, 102, 114, 32], [], [9], [120, 32, 121], [32, 105, 116], [32, 32]]
theorem read_plain : ∀ p : Nat, stripL (readL.getD p []) = plainL.getD p []
  | 0 | 1 | 2 | 3 | 4 | 5 | 6 | 7 => by decide +kernel
  | n + 8 => by
    have h1 : readL.getD (n + 8) [] = [] := rfl
    have h2 : plainL.getD (n + 8) [] = [] := rfl
    rw [h1, h2]; decide +kernel
theorem read_comma : ∀ p : Nat, (44 : UInt8) ∉ readL.getD p []
  | 0 | 1 | 2 | 3 | 4 | 5 | 6 | 7 => by decide
  | n + 8 => by
    have : readL.getD (n + 8) [] = [] := rfl
    rw [this]; simp
theorem piece_rows {q v u : List UInt8} (hq : (10 : UInt8) ∉ q) (h : RowsU v u) : ∀ p : Nat, RowsU (q ++ (piecesL.getD p [] ++ v)) (q ++ (readL.getD p [] ++ u))
  | 0 | 1 | 2 | 3 | 4 | 5 | 7 => .pre hq (.pre (by decide) h)
  | 6 => .more hq rfl (.pre (p := [32, 105, 116]) (by decide) h)
  | n + 8 => .pre hq (.pre (p := []) (by simp) h)
theorem tail_rows : ∀ ps : List Nat, RowsU ((ps.map fun p => piecesL.getD p []).map fun y => [44] ++ y).flatten ((ps.map fun p => readL.getD p []).map fun y => [44] ++ y).flatten
  | [] => .one (by simp)
  | p :: r => by
    simp only [List.map_cons, List.flatten_cons, List.append_assoc]
    exact piece_rows (by decide) (tail_rows r) p
/-- the raw value as it reads -/
def readOf (ps : List Nat) : List UInt8 := glue [44] (ps.map fun p => readL.getD p [])
theorem raw_rows (ps : List Nat) : RowsU (32 :: rawOf ps) (32 :: readOf ps) := by
  cases ps with
  | nil => exact .one (by decide)
  | cons p r =>
    exact piece_rows (q := [32]) (by decide) (tail_rows r) p
theorem parts_read (ps : List Nat) : wordsIn (stripL (32 :: readOf ps)) = wordsOf ps := by
  show (parts (stripL (32 :: readOf ps))).filter (fun x => x != []) = _
  rw [parts_strip, parts_cons (by decide +kernel) (by decide)]
  cases ps with
  | nil => decide +kernel
  | cons p r =>
    have e : parts (readOf (p :: r)) = ((p :: r).map fun p => readL.getD p []).map stripL := by
      unfold parts
      congr 1
      show cutAt 44 (readL.getD p [] ++ ((r.map fun p => readL.getD p []).map fun y => [44] ++ y).flatten) = _
      rw [cut_glue (read_comma p) fun y hy => by
        obtain ⟨n, _, rfl⟩ := List.mem_map.mp hy
        exact read_comma n]
      rfl
    rw [e, List.map_map]
    unfold wordsOf
    congr 1
    apply List.map_congr_left
    intro n _
    exact read_plain n
theorem body_raw (ps : List Nat) : wordsIn (bodyP (32 :: rawOf ps)) = wordsOf ps := by
  have h := rows_flat (raw_rows ps) (p := []) (by simp)
  rw [List.nil_append, List.nil_append] at h
  show wordsIn (stripL (rowsP (32 :: rawOf ps)).flatten) = _
  rw [h, parts_read]

def tailL : List UInt8 := [13, 10, 67, 111, 110, 116, 101, 110, 116, 45, 76, 97, 110, 103, 117, 97, 103, 101, 58, 32, 115, 101, 99, 111, 110, 100, 13, 10, 13, 10]
def restL : List UInt8 := [67, 111, 110, 116, 101, 110, 116, 45, 76, 97, 110, 103, 117, 97, 103, 101, 58, 32, 115, 101, 99, 111, 110, 100, 13, 10, 13, 10]
theorem name_facts : ∀ r : Nat, r < 3 → nameOk (namesL.getD r []) = true ∧ (wordOf (namesL.getD r []) == (⟨cl.cps.map lowN⟩ : PySem.Str)) = true ∧ ∀ x, whiteAt (namesL.getD r [] ++ x) = false
  | 0, _ => ⟨by decide +kernel, by decide +kernel, fun _ => rfl⟩
  | 1, _ => ⟨by decide +kernel, by decide +kernel, fun _ => rfl⟩
  | 2, _ => ⟨by decide +kernel, by decide +kernel, fun _ => rfl⟩
  | n + 3, h => absurd h (by omega)
theorem first_here {nm v : List UInt8} {fs : List (List UInt8 × List UInt8)} (h : (wordOf nm == (⟨cl.cps.map lowN⟩ : PySem.Str)) = true) : foundP ((nm, v) :: fs) = wordsIn (bodyP v) := by
  unfold foundP firstP
  rw [List.find?_cons, h]; rfl
theorem first_on {nm v : List UInt8} {fs : List (List UInt8 × List UInt8)} (h : (wordOf nm == (⟨cl.cps.map lowN⟩ : PySem.Str)) = false) : foundP ((nm, v) :: fs) = foundP fs := by
  unfold foundP firstP
  rw [List.find?_cons, h]
theorem ahead_on {x : List UInt8} (hx : whiteAt x = false) : ∀ j : Nat, j < 3 → foundP (spans (aheadL.getD j [] ++ x)) = foundP (spans x)
  | 0, _ => rfl
  | 1, _ => by
    have e : aheadL.getD 1 [] ++ x = [83, 117, 98, 106, 101, 99, 116] ++ 58 :: [32, 100, 101, 44, 32, 101, 110] ++ 13 :: 10 :: x := rfl
    rw [e, spans_field (by decide) (.one (by decide)) hx, first_on (by decide +kernel)]
  | 2, _ => by
    have e : aheadL.getD 2 [] ++ x = [67, 111, 110, 116, 101, 110, 116, 45, 76, 97, 110, 103, 117, 97, 103, 101, 115] ++ 58 :: [32, 110, 108] ++ 13 :: 10 :: ([83, 117, 98, 106, 101, 99, 116] ++ 58 :: [32, 120] ++ 13 :: 10 :: x) := rfl
    rw [e, spans_field (by decide) (.one (by decide)) rfl, first_on (by decide +kernel), spans_field (by decide) (.one (by decide)) hx, first_on (by decide +kernel)]
  | n + 3, h => absurd h (by omega)
theorem ahead_none (j : Nat) (hj : j < 3) : foundP (spans (aheadL.getD j [])) = [] := by
  have h := ahead_on (x := []) rfl j hj
  rw [List.append_nil] at h
  rw [h, spans_end rfl]
  rfl
theorem head_found (ps : List Nat) (h8 : ∀ p ∈ ps, p < 8) (j r : Nat) (hj : j < 3) (hr : r < 3) : foundP (spans ((((aheadL.getD j [] ++ namesL.getD r []) ++ [58, 32]) ++ rawOf ps) ++ tailL)) = wordsOf ps := by
  obtain ⟨hn, hw, hwh⟩ := name_facts r hr
  have e : (((aheadL.getD j [] ++ namesL.getD r []) ++ [58, 32]) ++ rawOf ps) ++ tailL = aheadL.getD j [] ++ (namesL.getD r [] ++ 58 :: (32 :: rawOf ps) ++ 13 :: 10 :: restL) := by
    simp only [List.append_assoc, List.cons_append, List.nil_append]
    rfl
  rw [e, ahead_on (by rw [List.append_assoc]; exact hwh _) j hj, spans_field hn (raw_rows ps) rfl, first_here hw, body_raw]
theorem ahead_len : ∀ j : Nat, j < 3 → (aheadL.getD j []).length ≤ 100 := by decide
theorem name_len : ∀ j : Nat, j < 3 → (namesL.getD j []).length ≤ 100 := by decide
end
section
/-! L16 -/
local macro_rules | `(tactic| walk_at "mine pad0") => `(tactic| skip)
local macro_rules | `(tactic| walk_at "mine pad1") => `(tactic| skip)
local macro_rules | `(tactic| walk_at "mine pad2") => `(tactic| skip)
local macro_rules | `(tactic| walk_at "mine pad3") => `(tactic| skip)
local macro_rules | `(tactic| walk_at "mine pad4") => `(tactic| skip)
local macro_rules | `(tactic| walk_at "mine pad5") => `(tactic| skip)
local macro_rules | `(tactic| walk_at "mine pad6") => `(tactic| skip)
local macro_rules | `(tactic| walk_at "mine pad7") => `(tactic| skip)
local macro_rules | `(tactic| walk_at "mine pad8") => `(tactic| skip)
local macro_rules | `(tactic| walk_at "mine pad9") => `(tactic| skip)
local macro_rules | `(tactic| walk_at "mine pad10") => `(tactic| skip)
local macro_rules | `(tactic| walk_at "mine pad11") => `(tactic| skip)
local macro_rules | `(tactic| walk_at "mine pad12") => `(tactic| skip)
local macro_rules | `(tactic| walk_at "mine pad13") => `(tactic| skip)
local macro_rules | `(tactic| walk_at "mine pad14") => `(tactic| skip)
local macro_rules | `(tactic| walk_at "mine pad15") => `(tactic| skip)
local macro_rules | `(tactic| walk_at "mine pad16") => `(tactic| skip)
local macro_rules | `(tactic| walk_at "mine pad17") => `(tactic| skip)
local macro_rules | `(tactic| walk_at "mine pad18") => `(tactic| skip)
local macro_rules | `(tactic| walk_at "mine pad19") => `(tactic| skip)
local macro_rules | `(tactic| walk_at "mine pad20") => `(tactic| skip)
local macro_rules | `(tactic| walk_at "mine pad21") => `(tactic| skip)
local macro_rules | `(tactic| walk_at "mine pad22") => `(tactic| skip)
local macro_rules | `(tactic| walk_at "mine pad23") => `(tactic| skip)
local macro_rules | `(tactic| walk_at "mine pad24") => `(tactic| skip)
local macro_rules | `(tactic| walk_at "mine pad25") => `(tactic| skip)
local macro_rules | `(tactic| walk_at "mine pad26") => `(tactic| skip)
local macro_rules | `(tactic| walk_at "mine pad27") => `(tactic| skip)
local macro_rules | `(tactic| walk_at "mine pad28") => `(tactic| skip)
local macro_rules | `(tactic| walk_at "mine pad29") => `(tactic| skip)
local macro_rules | `(tactic| walk_at "mine pad30") => `(tactic| skip)
local macro_rules | `(tactic| walk_at "mine pad31") => `(tactic| skip)
local macro_rules | `(tactic| walk_at "mine pad32") => `(tactic| skip)
local macro_rules | `(tactic| walk_at "mine pad33") => `(tactic| skip)
local macro_rules | `(tactic| walk_at "mine pad34") => `(tactic| skip)
local macro_rules | `(tactic| walk_at "mine pad35") => `(tactic| skip)
local macro_rules | `(tactic| walk_at "mine pad36") => `(tactic| skip)
local macro_rules | `(tactic| walk_at "mine pad37") => `(tactic| skip)
local macro_rules | `(tactic| walk_at "mine pad38") => `(tactic| skip)
local macro_rules | `(tactic| walk_at "mine pad39") => `(tactic| skip)
local macro_rules | `(tactic| walk_at "mine pad40") => `(tactic| skip)
local macro_rules | `(tactic| walk_at "mine pad41") => `(tactic| skip)
local macro_rules | `(tactic| walk_at "mine pad42") => `(tactic| skip)
local macro_rules | `(tactic| walk_at "mine pad43") => `(tactic| skip)
local macro_rules | `(tactic| walk_at "mine pad44") => `(tactic| skip)
local macro_rules | `(tactic| walk_at "mine pad45") => `(tactic| skip)
local macro_rules | `(tactic| walk_at "mine pad46") => `(tactic| skip)
local macro_rules | `(tactic| walk_at "mine pad47") => `(tactic| skip)
theorem off_L16 : True := by
  w_top off
  trivial
section
/-- what the law's due is -/
def DueIs (D5 : Addr) (v : Value) : List (List UInt8) → Prop
  | [] => v = .none
  | [x] => ∃ t, v = .bytes x.toArray t
  | _ => v = .ref D5
def DueQ (s1 : Shared) (m : PySem.Str → Option Value) (news : List (Addr × Obj)) (D5 : Addr) (ws : List (List UInt8)) (v : Value) (s' : Shared) : Prop :=
  ∃ (h' : Heap) (tk' : Nat), s' = { s1 with heap := h', toks := tk' } ∧ Fr s1.heap s1.heap.objs.size h' m ∧ News s1.heap s1.heap.objs.size h' news ∧ DueIs D5 v ws
/-- the law's names, by the time that due is reckoned -/
def mL (D5 D lA : Addr) (rw0 nm : List UInt8) (t9 t5 : Tok) : PySem.Str → Option Value := fun z =>
  if z = Str.ofString "words" then some (.ref D5) else if z = Str.ofString "raw" then some (.bytes rw0.toArray t9) else if z = Str.ofString "name" then some (.bytes nm.toArray t5) else
  if z = Str.ofString "picks" then some (.ref D) else if z = Str.ofString "script" then some (.ref lA) else none
/-- picks made so far -/
def PickJ (T C X : Addr) (vs : List Value) (nT nC : Nat) (oX : Obj) (i : Nat) (ys : List Value) (news : List (Addr × Obj)) : Prop :=
  ∃ t ps, news = [(T, listOf #[.ref C, .int ((i + 1 : Nat) : Int) t] nT), (C, listOf vs.toArray nC), (X, oX)] ∧ AllAre NatIs ys ps ∧ (∀ p ∈ ps, p < 8) ∧ ps.length = i
/-- the tape's ints, made -/
def Cells (s1 : Shared) (m : PySem.Str → Option Value) (oX : Obj) (v : Value) (s' : Shared) : Prop :=
  ∃ (h' : Heap) (tk' : Nat) (C : Addr) (vs : List Value) (ns : List Int) (nC : Nat), v = .ref C ∧ s' = { s1 with heap := h', toks := tk' } ∧ Fr s1.heap s1.heap.objs.size h' m ∧
    News s1.heap s1.heap.objs.size h' [(C, listOf vs.toArray nC), (s1.heap.objs.size + 1, oX)] ∧ IntsAre vs ns ∧ 0 < ns.length ∧ ns.length ≤ 100 ∧ @LT.lt Nat _ (s1.heap.objs.size + 1) C
local macro_rules | `(tactic| walk_at "CompSrc") => `(tactic| (k_here; refine Halt.of ?_))
local macro_rules | `(tactic| walk_at "call ref") => `(tactic| (k_here; (with_reducible show wpAny _ _ (call (Value.ref _) _) _ _ _); refine Halt.of ?_))
local macro_rules | `(tactic| walk_at "getMethod bytes") => `(tactic| (k_here; (with_reducible refine meth_find ?_)))
local macro_rules | `(tactic| walk_at "getMethod bytes") => `(tactic| (k_here; (with_reducible refine meth_strip ?_)))
local macro_rules | `(tactic| walk_at "getMethod bytes") => `(tactic| (k_here; (with_reducible refine meth_split ?_)))
local macro_rules | `(tactic| walk_at "getMethod bytes") => `(tactic| (k_here; (with_reducible refine meth_join ?_)))
local macro_rules | `(tactic| walk_at "call builtin:bytes.find") => `(tactic| (k_here; (refine find_L (by omega) (by omega) ?_); intro r9 t9 k9 hr9 hr8 hr7))
local macro_rules | `(tactic| walk_at "call builtin:bytes.strip") => `(tactic| (k_here; refine Halt.of ?_))
local macro_rules | `(tactic| walk_at "call builtin:bytes.split") => `(tactic| (k_here; refine Halt.of ?_))
local macro_rules | `(tactic| walk_at "call builtin:bytes.join") => `(tactic| (k_here; refine Halt.of ?_))
local macro_rules | `(tactic| walk_at "exec Assign cons ListComp") => `(tactic| (k_here; refine Halt.of ?_))
local macro_rules | `(tactic| walk_at "eval ListComp") => `(tactic| (k_here; refine Halt.of ?_))
local macro_rules | `(tactic| walk_at "exec Assign cons IfExp") => `(tactic| (k_here; refine Halt.of ?_))
local macro_rules | `(tactic| walk_at "subscriptTail Tuple") => `(tactic| (k_here; refine Halt.of ?_))
local macro_rules | `(tactic| walk_at "subscriptTail Name Name ref int") => `(tactic| (k_here; refine Halt.of ?_))
local macro_rules | `(tactic| walk_at "binaryOp Add bytes bytes") => `(tactic| (k_here; refine Halt.of ?_))
local macro_rules | `(tactic| walk_at "compareOp NotEq ref ref") => `(tactic| (k_here; refine Halt.of ?_))
local macro_rules | `(tactic| walk_at "compareOp Eq ref ref") => `(tactic| (k_here; refine Halt.of ?_))
local macro_rules | `(tactic| walk_at "call builtin:len") => `(tactic| (k_here; (with_reducible show wpAny _ _ (call _ [Value.ref _]) _ _ _); refine Halt.of ?_))
local macro_rules | `(tactic| walk_at "eval BoolOp") => `(tactic| (k_here; refine Halt.of ?_))
set_option maxHeartbeats 8000000 in
theorem lawT : PySem.Challenge.rw_or0030_01.Holds := hd (by
  k_go0
  all_goals try k_fold
  k_steps
  rename Frag.In _ _ => KX
  rename Top _ _ _ _ _ _ => TT
  rename Shared => s1
  rename Fr _ _ _ _ => F0
  rename News _ _ _ _ => N0
  rename_i lA lV lR hL ra w1 r0 hI hr hc1 hc2 K0 hD h1 tk1 oX hoX X0
  have F1 : Fr s1.heap s1.heap.objs.size h1 (fun z => if z = Str.ofString "script" then some (.ref lA) else none) := by with_unfolding_all exact F0
  have d1 : oX.data = .cell none := by with_unfolding_all exact hoX
  clear F0 hoX X0
  show wpAny _ _ _ _ _ _
  refine wpAny_mono (Q := Cells s1 (fun z => if z = Str.ofString "script" then some (.ref lA) else none) oX) ?_ (fun v s' hv => ?_) (fun _ _ e => e)
  · clear hD w1 r0 hr hc2
    with_reducible refine BoolOp_or ?_
    k_steps
    · rename_i D1 ws h2 hI2 hC2 hL2 l1 D2 c2 h3 F2 N2 l2 ha
      exact ⟨h3, _, D2, ws, _, c2, rfl, rfl, F2, ends3 N2, hI2, ha, by omega, l2.2⟩
    · rename_i D1 ws h2 hI2 hC2 hL2 l1 D2 c2 h3 F2 N2 l2 ha
      show wpAny _ _ _ _ _ _
      with_reducible refine BoolOp_one ?_
      k_steps
      rename_i D3 h4 F3 N3 l3
      exact ⟨h4, _, D3, [_], [2], 0, rfl, rfl, F3, ends4 N3, .cons 2 _ .nil, by decide, by decide, l3.2.2⟩
  clear F1 N0 hD w1 r0 hr hc2 hc1 hI ra hL
  obtain ⟨h2, tk2, C, vs, ns, nC, rfl, rfl, F2, N2, hi, h0, hn1, hXC⟩ := hv
  k_steps
  show wpAny _ _ _ _ _ _
  rename_i T h3 l3 h4 oX2 F4 N4 d4
  have hCT : C ≠ T := Nat.ne_of_lt l3.1
  have hXT : s1.heap.objs.size + 1 ≠ T := Nat.ne_of_lt l3.2
  refine LCg.Assign_ListComp_U (F₀ := F4) (by rfl) (by with_unfolding_all rfl) (by with_unfolding_all rfl) (by decide) (by rfl) (by decide) (by rfl) (by rfl) (by rfl) ?_
  k_steps
  show wpAny _ _ _ _ _ _
  refine' draw_use (at' := 0) (many := 6) KX TT F4 N4 rfl ?hd (off2 hCT hXT) hi h0 hn1 (Nat.zero_le _) ?hm0 ?hm ?_
  case hd => simp only [depth_deeper, depth_caller]; decide
  case hm0 => decide
  case hm => decide
  intro h5 r t5 tk5 t6 hr F5 N5
  clear F4 N4
  k_steps
  rename_i F6 N6 h7 tk7 t7 u7 v7 hr7 F7 N7 e7
  obtain ⟨hsm, hsz⟩ := range_small r hr
  show LCg.CompSrc _ _ _ _ _ _ _ _ _ _ _ _ _ _
  refine LCg.CompSrc.range (n := r) rfl F7 N7 hr7 hsm hsz (by rw [sizeLine_eq]; omega) fun g => ?_
  clear F6 N6 F7 N7 hr7 hsm hsz e7
  refine rest_by (PickJ T C (s1.heap.objs.size + 1) vs 0 nC oX2) (fun i v ys news I oI C' oC D m₂ h tk E' hin hJ hv hC hx F N off hne => ?turn) (fun ys news hJ => ?fin) r 0 [] _ (Nat.zero_add _) ⟨_, [], rfl, .nil, (by intro _ h; cases h), rfl⟩
  case turn =>
    obtain ⟨t, ps, rfl, hps, hp8, hpl⟩ := hJ
    k_steps
    show wpAny _ _ _ _ _ _
    rename Fr _ _ _ _ => F
    refine' draw_use (at' := i + 1) (many := 8) KX TT F (perm6 N) rfl ?hd (off5 hCT (Ne.symm off.1.1) (Ne.symm off.1.2.1) (Ne.symm off.1.2.2) hXT) hi h0 hn1 ?hat ?hm0 ?hm ?_
    case hd => simp only [depth_deeper, depth_caller]; decide
    case hat => omega
    case hm0 => decide
    case hm => decide
    intro h8 r8 t8 tk8 t9 hr8 F8 N8
    refine LCg.CompEnd.intro F8 N8 [(T, listOf #[.ref C, .int ((i + 1 + 1 : Nat) : Int) t9] 0), (C, listOf vs.toArray nC), (s1.heap.objs.size + 1, oX2)] (fun p hp => ?_) off trivial ⟨t9, ps ++ [r8], rfl, hps.snoc ⟨_, rfl⟩, ?_, ?_⟩
    · simp only [List.mem_cons, List.not_mem_nil, or_false] at hp ⊢
      rcases hp with rfl | rfl | rfl | rfl | rfl | rfl <;> simp
    · intro q hq
      rcases List.mem_append.mp hq with hq | hq
      · exact hp8 q hq
      · rw [List.mem_singleton.mp hq]; exact hr8
    · rw [List.length_append, hpl]; rfl
  case fin =>
    obtain ⟨t, ps, rfl, hps, hp8, hpl⟩ := hJ
    intro D h tk F N off
    have hr6 : ps.length ≤ 5 := by omega
    clear hpl
    k_steps
    show wpAny _ _ _ _ _ _
    rename_i D2 h2 F2 N2 l2
    refine' draw_use (at' := r + 1) (many := 3) KX TT F2 (perm5 N2) rfl ?hd (off4 hCT (Nat.ne_of_gt l2.2.1) (Ne.symm off.1) hXT) hi h0 hn1 ?hat ?hm0 ?hm ?_
    case hd => simp only [depth_deeper, depth_caller]; decide
    case hat => omega
    case hm0 => decide
    case hm => decide
    intro h3 r3 t3 tk3 t4 hr3 F3 N3
    clear F2 N2
    k_steps
    show wpAny _ _ _ _ _ _
    refine item_tupB (xs := namesL) ⟨_, (N3 _ (.tail _ (.tail _ (.head _)))).1, rfl, 0, rfl⟩ (.cons (.cons (.cons .nil))) hr3 (by decide) fun t5 => ?_
    obtain ⟨vp, htp, hbp⟩ := pieces_tup KX
    obtain ⟨vq, htq, hbq⟩ := plain_tup KX
    have hTD : D ≠ T := Ne.symm off.1
    clear off
    k_steps
    rename_i tk6 h6 F6 N6
    show wpAny _ _ _ _ _ _
    refine comp_K (fun _ => true) (ItemOf piecesL) (by decide) (by decide) rfl (by decide) rfl ?_ (fun _ => rfl)
    k_steps
    have hyl : ys.length ≤ 5 := by rw [hps.length]; exact hr6
    have hyD := (N6 _ (.tail _ (.tail _ (.tail _ (.head _))))).1
    refine compK_list (its := ys) rfl ⟨_, hyD, rfl, _, rfl⟩ (by rw [sizeLine_eq]; omega) (tests_none fun C' i v s₃ m₃ E' hP hn hm hk => ?elt) fun D4 h7 tk7 zs n7 hD4 hl7 hR7 hk7 => ?fin4
    case elt =>
      obtain ⟨n, tn, rfl, hn8⟩ := nat_at hps hp8 i v hP
      have F7 := F6.keeps hk
      have N7 := N6.grown hk
      clear F6 N6
      k_steps
      show wpAny _ _ _ _ _ _
      rename Fr _ _ _ _ => F7
      refine item_tupB (xs := piecesL) (F7.tup htp) hbp hn8 (by decide) fun t8 => ?_
      k_steps
      · exact ⟨n, tn, t8, rfl, rfl⟩
      · exact ⟨s₃.heap, _, rfl, fun _ _ e => e⟩
    case fin4 =>
      rw [List.filter_eq_self.mpr (fun _ _ => rfl)] at hR7
      have hZ := items_of hps hR7
      have F8 := F6.keeps hk7
      have N8 := onto F6 N6 hk7 hD4 hl7
      clear F6 N6 hk7 hD4 hl7
      k_steps
      show wpAny _ _ _ _ _ _
      have hZl := (N8 _ (.head _)).1
      refine call_join (sep := [44]) (vs := zs.toList) (ps := ps.map fun p => piecesL.getD p []) ⟨_, hZl, rfl, n7, rfl⟩ hZ (by have := pieces_sum ps; rw [List.length_map]; simp only [List.length_cons, List.length_nil]; omega) fun t9 k9 => ?_
      have hraw : (glue [44] (ps.map fun p => piecesL.getD p [])).length ≤ 6 * ps.length := raw_len ps
      generalize hrw : glue [44] (ps.map fun p => piecesL.getD p []) = rw0 at hraw ⊢
      k_steps
      show wpAny _ _ _ _ _ _
      rename_i h9 F9 N9
      refine comp_A (keepP plainL) (ItemOf plainL) (by with_unfolding_all rfl) (by decide) (by decide) rfl (by decide) rfl rfl rfl ?_ (fun _ => rfl)
      k_steps
      have hyD9 := (N9 _ (.tail _ (.tail _ (.tail _ (.tail _ (.head _)))))).1
      refine compA_list (its := ys) rfl F9 ⟨_, hyD9, rfl, _, rfl⟩ (by rw [sizeLine_eq]; omega) (tests_one (fun C' i v s₃ m₃ E' hP hn hm hk => ?tst) fun C' i v s₃ m₃ E' hP hp hn hm hk => ?elt) fun D5 h10 tk10 qs n10 hD10 hl10 hR10 F10 hk10 => ?fin5
      case tst =>
        obtain ⟨n, tn, rfl, hn8⟩ := nat_at hps hp8 i v hP
        have F7 := F9.keeps hk
        have N7 := N9.grown hk
        clear F9 N9
        k_steps
        show wpAny _ _ _ _ _ _
        rename Fr _ _ _ _ => F7
        refine item_tupB (xs := plainL) (F7.tup htq) hbq hn8 (by decide) fun t8 => ?_
        k_steps
        exact ⟨s₃.heap, _, rfl, fun _ _ e => e⟩
      case elt =>
        obtain ⟨n, tn, rfl, hn8⟩ := nat_at hps hp8 i v hP
        have F7 := F9.keeps hk
        have N7 := N9.grown hk
        clear F9 N9
        k_steps
        show wpAny _ _ _ _ _ _
        rename Fr _ _ _ _ => F7
        refine item_tupB (xs := plainL) (F7.tup htq) hbq hn8 (by decide) fun t8 => ?_
        k_steps
        · exact ⟨n, tn, t8, rfl, rfl⟩
        · exact ⟨s₃.heap, _, rfl, fun _ _ e => e⟩
      case fin5 =>
        have hB : BytesAre qs.toList (wordsOf ps) := items_kept hps hR10
        have N10 := ontoA F9 N9 hk10 hD10 hl10
        have hTD5 : D5 ≠ T := ne_of_none_some hD10 (N9 _ (.tail _ (.head _))).1
        clear F9 N9 hk10 hD10 hl10 hR10
        have hwl := words_len ps
        obtain ⟨q₁, rfl⟩ : ∃ q₁ : List Value, qs = q₁.toArray := ⟨qs.toList, by simp⟩
        have hB' : BytesAre q₁ (wordsOf ps) := by simpa using hB
        clear hB
        generalize hwe : wordsOf ps = ws at hB' hwl
        show wpAny _ _ _ _ _ _
        k_steps
        show wpAny _ _ _ _ _ _
        have F11 : Fr s1.heap s1.heap.objs.size h10 (mL D5 D lA rw0 (namesL.getD r3 []) t9 t5) := F10
        have N11 : News s1.heap s1.heap.objs.size h10 [(T, listOf #[.ref C, .int ((r + 1 + 1 : Nat) : Int) t4] 0), (C, listOf vs.toArray nC), (D5, listOf q₁.toArray n10), (s1.heap.objs.size + 1, oX2)] := KStt.news_of N10 (fun p hp => by
          simp only [List.mem_cons, List.not_mem_nil, or_false] at hp ⊢
          rcases hp with rfl | rfl | rfl | rfl <;> simp)
        clear F10 N10 hZl hZ hR7 hyD hyD9 htp hbp htq hbq l2 hps hyl
        refine wpAny_Assign_Name ?_
        refine wpAny_mono (Q := DueQ s1 (mL D5 D lA rw0 (namesL.getD r3 []) t9 t5) [(T, listOf #[.ref C, .int ((r + 1 + 1 : Nat) : Int) t4] 0), (C, listOf vs.toArray nC), (D5, listOf q₁.toArray n10), (s1.heap.objs.size + 1, oX2)] D5 ws) ?_ (fun v s' hv => ?_) (fun _ _ e => e)
        · have hun : (callerA.deeper (envOf "" default 0 0 .none)).units < cLine := by decide
          cases hB' with
          | nil =>
            k_steps
            show wpAny _ _ _ _ _ _
            have hD5l := (N11 _ (.tail _ (.tail _ (.head _)))).1
            refine len_list (s := ⟨h10, _, _, _, _⟩) ⟨_, hD5l, rfl, n10, rfl⟩ (by decide) ?_
            k_steps
            show wpAny _ _ _ _ _ _
            rename_i l8 h8 F8 N8 l1
            refine ne_lists (vs := []) (ws := []) ⟨_, (N8 _ (.tail _ (.tail _ (.tail _ (.head _))))).1, rfl, n10, rfl⟩ ⟨_, (N8 _ (.head _)).1, rfl, 0, rfl⟩ .nil .nil (.inr ⟨rfl, rfl⟩) hun ?_
            k_steps
            exact ⟨_, _, rfl, F8, KStt.news_of N8 (fun p hp => .tail _ hp), rfl⟩
          | cons hB' =>
            cases hB' with
            | nil =>
              rename_i x t
              k_steps
              show wpAny _ _ _ _ _ _
              have hD5l := (N11 _ (.tail _ (.tail _ (.head _)))).1
              refine len_list (s := ⟨h10, _, _, _, _⟩) ⟨_, hD5l, rfl, n10, rfl⟩ (by show ((1 : Nat) : Int) < 2 ^ 63; decide) ?_
              k_steps
              show wpAny _ _ _ _ _ _
              rename_i l8 h8 F8 N8 l1
              refine ne_lists (vs := [_]) (ws := []) ⟨_, (N8 _ (.tail _ (.tail _ (.tail _ (.head _))))).1, rfl, n10, rfl⟩ ⟨_, (N8 _ (.head _)).1, rfl, 0, rfl⟩ (.cons .nil) .nil (.inl (by simp)) hun ?_
              k_steps
              · exact absurd (show decide ([x] = []) = true by assumption) (by simp)
              · exact ⟨_, _, rfl, F8, KStt.news_of N8 (fun p hp => .tail _ hp), t, rfl⟩
              · exact absurd (show (1 : Int) < ((1 : Nat) : Int) by assumption) (by decide)
            | cons hB' =>
              rename_i x t x' t' vs' xs'
              k_steps
              show wpAny _ _ _ _ _ _
              have hD5l := (N11 _ (.tail _ (.tail _ (.head _)))).1
              have hz : ((Value.bytes x.toArray t :: Value.bytes x'.toArray t' :: vs').toArray.size : Int) < 2 ^ 63 := by
                have := hB'.length
                simp only [List.length_cons] at hwl
                simp only [List.size_toArray, List.length_cons]
                omega
              refine len_list (s := ⟨h10, _, _, _, _⟩) ⟨_, hD5l, rfl, n10, rfl⟩ hz ?_
              have hz2 : ((Value.bytes x.toArray t :: Value.bytes x'.toArray t' :: vs').toArray.size : Int) > 1 := by
                simp only [List.size_toArray, List.length_cons]
                omega
              generalize ((Value.bytes x.toArray t :: Value.bytes x'.toArray t' :: vs').toArray.size : Int) = zz at hz hz2
              k_steps
              exact ⟨_, _, rfl, F11, N11, rfl⟩
        · obtain ⟨h12, tk12, rfl, F12, N12, hdue⟩ := hv
          clear F11 N11
          k_steps
          show wpAny _ _ _ _ _ _
          rename_i h13 D6 h14 F14 N14 l14
          refine' draw_use (at' := r + 1 + 1) (many := 3) KX TT F14 (perm5b N14) rfl ?hd (off4 hCT (Nat.ne_of_gt l14.1) hTD5 hXT) hi h0 hn1 ?hat ?hm0 ?hm ?_
          case hd => simp only [depth_deeper, depth_caller]; decide
          case hat => omega
          case hm0 => decide
          case hm => decide
          intro h15 r4 t15 tk15 t16 hr4 F15 N15
          clear F14 N14
          k_steps
          show wpAny _ _ _ _ _ _
          refine item_tupB (xs := aheadL) ⟨_, (N15 _ (.tail _ (.tail _ (.head _)))).1, rfl, 0, rfl⟩ (.cons (.cons (.cons .nil))) hr4 (by decide) fun t17 => ?_
          have hal := ahead_len r4 hr4
          have hnl := name_len r3 hr3
          have hal0 := ahead_none r4 hr4
          have hhf := head_found ps hp8 r4 r3 hr4 hr3
          rw [hwe, show rawOf ps = rw0 from hrw] at hhf
          generalize aheadL.getD r4 [] = ah at hal hal0 hhf ⊢
          generalize namesL.getD r3 [] = nm at hnl hhf F15 ⊢
          k_steps
          show wpAny _ _ _ _ _ _
          rename_i h18 F18 N18
          have N19 : News s1.heap s1.heap.objs.size h18 [(D5, listOf q₁.toArray n10), (s1.heap.objs.size + 1, oX2)] := KStt.news_of N18 (fun p hp => by
            simp only [List.mem_cons, List.not_mem_nil, or_false] at hp ⊢
            rcases hp with rfl | rfl <;> simp)
          clear N18 l14
          refine' read_fields_use (d := ah) KX TT F18 N19 rfl ?hd ?hz ?_
          case hd => simp only [depth_deeper, depth_caller]; decide
          case hz => omega
          intro a20 h20 R20 its20 n20 i20 t20 m20 rest20 tk20 e20 hA20 F20 N20
          clear F18 N19 e20
          simp only [List.cons_append, List.nil_append] at N20
          k_steps
          show wpAny _ _ _ _ _ _
          refine' language_value_use (l := R20) (its := its20.toList) (fs := spans ah) KX TT F20 N20 rfl ?hd ?hu ?hl ?hf ?hz ?_
          case hd => simp only [depth_deeper, depth_caller]; decide
          case hu => simp only [units_deeper, units_caller]; decide
          case hl => exact ⟨_, (N20 _ (.tail _ (.head _))).1, rfl, m20, rfl⟩
          case hf => exact hA20.imp fun v f x => x.is fun p hp => (N20 _ (.tail _ (.tail _ (.tail _ (.tail _ hp))))).1
          case hz =>
            intro f hf
            have := (spans_len ah).2 f hf
            omega
          intro v21 h21 tk21 e21 F21 N21 ht21
          rw [hal0] at ht21
          have hv21 : v21 = .none := ht21
          subst hv21
          have N22 : News s1.heap s1.heap.objs.size h21 [(D5, listOf q₁.toArray n10), (s1.heap.objs.size + 1, oX2)] := KStt.news_of N21 (fun p hp => by
            simp only [List.mem_cons, List.not_mem_nil, or_false] at hp ⊢
            rcases hp with rfl | rfl <;> simp)
          clear F20 N20 N21 hA20 e21 ht21
          k_steps
          show wpAny _ _ _ _ _ _
          refine bytes_add_K (b := ah) (c := nm) (by simp only [List.size_toArray]; omega) rfl fun t22 k22 => ?_
          k_steps
          show wpAny _ _ _ _ _ _
          refine bytes_add_K (b := ah ++ nm) (c := [58, 32]) (by simp only [List.size_toArray, List.length_append, List.length_cons, List.length_nil]; omega) rfl fun t23 k23 => ?_
          k_steps
          show wpAny _ _ _ _ _ _
          refine bytes_add_K (b := ah ++ nm ++ [58, 32]) (c := rw0) (by simp only [List.size_toArray, List.length_append, List.length_cons, List.length_nil]; omega) rfl fun t24 k24 => ?_
          k_steps
          show wpAny _ _ _ _ _ _
          obtain ⟨dd, hdd⟩ : ∃ dd, ah ++ nm ++ [58, 32] ++ rw0 ++ tailL = dd := ⟨_, rfl⟩
          have hdl : dd.length ≤ 1000 := by
            rw [← hdd]
            simp only [List.length_append, List.length_cons, List.length_nil, tailL]
            omega
          rw [hdd] at hhf
          refine bytes_add_K (b := ah ++ nm ++ [58, 32] ++ rw0) (c := tailL) (d := dd) (by simp only [List.size_toArray, List.length_append, List.length_cons, List.length_nil, tailL]; omega) hdd fun t25 k25 => ?_
          clear hdd
          k_steps
          show wpAny _ _ _ _ _ _
          rename_i h26 F26 N26
          refine' read_fields_use (d := dd) KX TT F26 N26 rfl ?hd ?hz ?_
          case hd => simp only [depth_deeper, depth_caller]; decide
          case hz => omega
          intro a27 h27 R27 its27 n27 i27 t27 m27 rest27 tk27 e27 hA27 F27 N27
          clear F26 N26 e27
          simp only [List.cons_append, List.nil_append] at N27
          k_steps
          show wpAny _ _ _ _ _ _
          refine' language_value_use (l := R27) (its := its27.toList) (fs := spans dd) KX TT F27 N27 rfl ?hd ?hu ?hl ?hf ?hz ?_
          case hd => simp only [depth_deeper, depth_caller]; decide
          case hu => simp only [units_deeper, units_caller]; decide
          case hl => exact ⟨_, (N27 _ (.tail _ (.head _))).1, rfl, m27, rfl⟩
          case hf => exact hA27.imp fun v f x => x.is fun p hp => (N27 _ (.tail _ (.tail _ (.tail _ (.tail _ hp))))).1
          case hz =>
            intro f hf
            have := (spans_len dd).2 f hf
            omega
          intro v28 h28 tk28 e28 F28 N28 ht28
          rw [hhf] at ht28
          have N29 : News s1.heap s1.heap.objs.size h28 [(D5, listOf q₁.toArray n10), (s1.heap.objs.size + 1, oX2)] := KStt.news_of N28 (fun p hp => by
            simp only [List.mem_cons, List.not_mem_nil, or_false] at hp ⊢
            rcases hp with rfl | rfl <;> simp)
          clear F27 N27 N28 hA27 e28
          match ws, hB', hdue, ht28 with
          | [], hB', hdue, ht28 =>
            have e1 : v28 = .none := ht28
            have e2 : v = .none := hdue
            subst e1
            subst e2
            k_steps
          | [x], hB', hdue, ht28 =>
            obtain ⟨t30, e1⟩ : ∃ t, v28 = .bytes x.toArray t := ht28
            obtain ⟨t31, e2⟩ : ∃ t, v = .bytes x.toArray t := hdue
            subst e1
            subst e2
            k_steps
          | x :: y :: r', hB', hdue, ht28 =>
            obtain ⟨R, its, n, e1, g1, g2⟩ : ∃ R its n, v28 = .ref R ∧ h28.get? R = some (listOf its n) ∧ BytesAre its.toList (x :: y :: r') := ht28
            have e2 : v = .ref D5 := hdue
            subst e1
            subst e2
            k_steps
            show wpAny _ _ _ _ _ _
            have hD5l := (N29 _ (.head _)).1
            refine eq_lists (vs := its.toList) (ws := q₁) ⟨_, g1, rfl, n, rfl⟩ ⟨_, hD5l, rfl, n10, rfl⟩ g2 hB' (by simp only [units_deeper, units_caller]; decide) ?_
            rw [decide_eq_true rfl]
            k_steps)

end
end
end Mine

theorem PySem.Challenge.cw_or0030_01_holds : PySem.Challenge.rw_or0030_01.Holds :=
  Mine.lawT
