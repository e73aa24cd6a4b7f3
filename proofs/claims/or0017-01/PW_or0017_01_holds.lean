import PyProof.Rows.All
import Wide.All
import OpenK.AllK
import Wide.FinOn
import PyProof.ExcInit
import PyProof.ExcBaseAll.Exception
import PyProof.InstStoreFacts
import PyProof.ExcAttrAll.Exception
import PySem.Challenge.RW_or0017_01
set_option Elab.async false
set_option maxRecDepth 100000
section
open PySem PySem.W PySem.Spec PySem.Calls PyProof.Rows
set_option maxHeartbeats 4000000
namespace Mine
open PySem.Builtin
theorem slot_bytes_join : Slot "bytes" "join" "bytes.join" := by
  refine Slot.of (owner := "bytes") (n := "join") ?_ ?_ ?_ ?_ (.inr ?_) ?_ <;> kernel_rfl
theorem type_bytes_join : typeOf (.builtin "bytes.join") = pure (.type "method_descriptor") := by kernel_rfl
theorem entry_bytes_join : entryFor table "bytes.join" = some Builtin.«bytes.join» := entryFor_of_tree (by kernel_rfl)
theorem args_bytes_join_2 (a b : Value) : argsOk "bytes.join" ⟨[a, b], []⟩ := by unfold argsOk; kernel_rfl

inductive BytesAre : List Value → List (List UInt8) → Prop
  | nil : BytesAre [] []
  | cons (x : List UInt8) (t : Tok) {vs : List Value} {xs : List (List UInt8)} : BytesAre vs xs → BytesAre (.bytes x.toArray t :: vs) (x :: xs)

theorem take_eq {id : String} {b : Array UInt8} {t : Tok} : Bytes.takeBufferQuiet? id (.bytes b t) 0 = pure (some (b, none)) := by
  unfold Bytes.takeBufferQuiet? Bytes.takeBuffer?
  rw [KBy.special_eq KBy.look_buffer, KBy.own_buffer]
  have e : Bytes.buffer? id (.bytes b t) ((0 : Int) == Bytes.fullReadOnly) = pure (some b) := by
    have : ((0 : Int) == Bytes.fullReadOnly) = false := by decide
    rw [this]
    exact KBy.buffer_eq
  show ((do
    let __r ← (pure (some (Value.builtin "bytes.__buffer__")) : Sem _)
    _) : Sem _) = _
  simp only [pure_bind, e]
  kernel_rfl

theorem joinLetGo_any {M : Model} {A : Around} {E : Value → Shared → Prop} {s : Shared} {Q : Unit → Shared → Prop} (h : Q () s) : ∀ (taken : List (Value × Option Value)) (keep : List Value), (∀ p ∈ taken, p.2 = none) → wpAny M A (Bytes.joinLetGo taken keep) Q E s
  | [], _, _ => wpAny_pure h
  | (x, w) :: rest, keep, hn => by
    obtain rfl : w = none := hn _ (.head _)
    unfold Bytes.joinLetGo
    refine wpAny_bind (wpAny_letGo ?_)
    exact joinLetGo_any h rest keep fun p hp => hn p (.tail _ hp)

theorem joined_nil (ps : List (List UInt8)) : Bytes.joined #[] (ps.map List.toArray) = ps.flatten.toArray := by
  unfold Bytes.joined
  have key : ∀ (ps : List (List UInt8)) (k : Nat) (acc : List UInt8), ((ps.map List.toArray).zipIdx k).foldl (fun out (p, i) => (if i > 0 then out ++ #[] else out) ++ p) acc.toArray = (acc ++ ps.flatten).toArray := by
    intro ps
    induction ps with
    | nil => intro k acc; simp
    | cons p r ih =>
      intro k acc
      simp only [List.map_cons, List.zipIdx_cons, List.foldl_cons, Array.append_empty, ite_self]
      have := ih (k + 1) (acc ++ p)
      simp only [List.flatten_cons, ← List.append_assoc] at this ⊢
      simpa using this
  have := key ps 0 []
  simpa using this
theorem sizes_fold (ps : List (List UInt8)) (n : Nat) : Array.foldl (fun x1 (x2 : Array UInt8) => x1 + x2.size) n (ps.map List.toArray).toArray = n + ps.flatten.length := by
  rw [List.foldl_toArray]
  induction ps generalizing n with
  | nil => simp
  | cons p r ih => simp only [List.map_cons, List.foldl_cons, ih, List.flatten_cons, List.length_append, List.size_toArray]; omega
theorem BytesAre.get {vs : List Value} {xs : List (List UInt8)} (h : BytesAre vs xs) : vs.length = xs.length ∧ ∀ i, i < vs.length → ∃ x t, vs[i]? = some (.bytes x.toArray t) ∧ xs[i]? = some x := by
  induction h with
  | nil => exact ⟨rfl, fun i hi => absurd hi (Nat.not_lt_zero _)⟩
  | cons x t _ ih =>
    refine ⟨by simp [ih.1], fun i hi => ?_⟩
    cases i with
    | zero => exact ⟨x, t, rfl, rfl⟩
    | succ j => simpa using ih.2 j (by simpa using hi)
theorem BytesAre.app {vs ws : List Value} {xs ys : List (List UInt8)} (h : BytesAre vs xs) (k : BytesAre ws ys) : BytesAre (vs ++ ws) (xs ++ ys) := by
  induction h with
  | nil => exact k
  | cons x t _ ih => exact .cons x t ih
theorem BytesAre.one (x : List UInt8) (t : Tok) : BytesAre [.bytes x.toArray t] [x] := .cons x t .nil
theorem BytesAre.take {vs : List Value} {xs : List (List UInt8)} (h : BytesAre vs xs) : ∀ n, BytesAre (vs.take n) (xs.take n) := by
  induction h with
  | nil => intro n; simpa using BytesAre.nil
  | cons x t _ ih =>
    intro n
    cases n with
    | zero => exact .nil
    | succ n => exact .cons x t (ih n)
theorem BytesAre.drop {vs : List Value} {xs : List (List UInt8)} (h : BytesAre vs xs) : ∀ n, BytesAre (vs.drop n) (xs.drop n) := by
  induction h with
  | nil => intro n; simpa using BytesAre.nil
  | cons x t h ih =>
    intro n
    cases n with
    | zero => exact .cons x t h
    | succ n => exact ih n

theorem meets_join {t : Tok} {a : Addr} {vs : List Value} {xs : List (List UInt8)} (hb : BytesAre vs xs) :
    Meets («bytes.join» ⟨[.bytes #[] t, .ref a], []⟩) (fun _ R s => s.heap.IsList a vs.toArray ∧ xs.flatten.length ≤ 16777216 ∧ ∀ t' k, R (.ok (.ret (.bytes xs.flatten.toArray t'))) { s with toks := k }) := by
  refine .of_wp fun prog w A R s hS => ?_
  obtain ⟨⟨o, ho, hc, n, hd⟩, hsz, h⟩ := hS
  obtain ⟨hlen, hget⟩ := hb.get
  unfold «bytes.join» Bytes.joinM
  show wpAny _ _ (Bytes.joinItems (.ref a) >>= _) _ _ s
  refine wpAny_bind ?_
  unfold Bytes.joinItems
  refine wpAny_bind (wpAny_typeOf (T := "list") ⟨o, ho, hc⟩ ?_)
  rw [if_pos (by decide)]
  refine wpAny_pure ?_
  refine wpAny_bind (wpAny_seqItems ho hd ?_)
  dsimp only
  rw [if_pos (by rfl)]
  rcases vs with _ | ⟨v, vs⟩
  rotate_left
  rcases vs with _ | ⟨v2, vs⟩
  · cases hb with
    | cons y t' h1 =>
      cases h1
      show wpAny _ _ (typeOf _ >>= _) _ _ s
      refine wpAny_bind (wpAny_typeOf (typeIs_bytes s _ _) ?_)
      rw [if_pos (by decide)]
      refine wpAny_bind (wpAny_rule (wpAny_pure ⟨_, rfl, ?_⟩))
      have := h t' s.toks
      simp only [List.flatten_cons, List.flatten_nil, List.append_nil] at this
      exact this
  (show wpAny _ _ (forIn _ _ _ >>= _) _ _ s
   clear hb
   generalize hVS : v :: v2 :: vs = VS at hlen hget hd ⊢)
  rotate_left
  (show wpAny _ _ (forIn _ _ _ >>= _) _ _ s
   clear hb
   generalize hVS : ([] : List Value) = VS at hlen hget hd ⊢)
  all_goals
    refine wpAny_bind ?_
    rw [Std.Legacy.Range.forIn_eq_forIn_range']
    simp only [Std.Legacy.Range.size, Nat.sub_zero, Nat.add_sub_cancel, Nat.div_one]
    refine wpAny_forIn_list _
      (fun rest q s' => s' = s ∧ ∃ i, rest = List.range' i (VS.length - i) ∧ i ≤ VS.length ∧ q = (((xs.take i).map List.toArray).toArray, (VS.take i).map fun v => (v, none)))
      _ ?_ ?_ _ _ ⟨rfl, 0, by simp, Nat.zero_le _, by simp⟩
    · rintro j rest q s' ⟨rfl, i, hr, hi, rfl⟩
      have hlt : i < VS.length := by
        rcases Nat.lt_or_ge i VS.length with h | h
        · exact h
        · rw [Nat.sub_eq_zero_of_le h] at hr; simp at hr
      obtain ⟨rfl, hrest⟩ : j = i ∧ rest = List.range' (i + 1) (VS.length - (i + 1)) := by
        have e : VS.length - i = (VS.length - (i + 1)) + 1 := by omega
        rw [e, List.range'_succ] at hr
        injection hr with h1 h2
        exact ⟨h1, h2⟩
      obtain ⟨x, t', hv, hx⟩ := hget j hlt
      refine wpAny_bind (wpAny_seqItems ho hd ?_)
      dsimp only
      have hany : ((Bytes.Kind.bytes == Bytes.Kind.bytearray) || (((VS.take j).map fun v => ((v, none) : Value × Option Value)).any fun x => x.fst.onHeap)) = false := by
        rw [Bool.or_eq_false_iff]
        refine ⟨by rfl, ?_⟩
        rw [List.any_eq_false]
        intro p hp
        obtain ⟨v, hv', rfl⟩ := List.mem_map.mp hp
        obtain ⟨k, hk, hkv⟩ := List.mem_iff_getElem.mp (List.mem_of_mem_take hv')
        obtain ⟨y, ty, e1, _⟩ := hget k hk
        rw [List.getElem?_eq_getElem hk, Option.some.injEq] at e1
        rw [← hkv, e1]
        exact Bool.false_ne_true
      rw [if_neg (by rw [hany]; exact Bool.false_ne_true)]
      have hget' : VS.toArray.getD j Value.none = Value.bytes x.toArray t' := by
        rw [Array.getD_eq_getD_getElem?]
        simp [hv]
      rw [hget', take_eq]
      refine wpAny_bind (wpAny_holding (wpAny_pure ?_))
      refine wpAny_bind (wpAny_seqItems ho hd ?_)
      dsimp only
      rw [if_neg (by simp)]
      refine wpAny_pure ⟨rfl, j + 1, hrest, by omega, ?_⟩
      rw [List.take_add_one, List.take_add_one, hv, hx]
      simp
    · rintro q s' ⟨rfl, i, hr, hi, rfl⟩
      have hi' : i = VS.length := by
        have := congrArg List.length hr
        simp at this
        omega
      subst hi'
      rw [List.take_length, hlen, List.take_length]
      dsimp only
      refine wpAny_bind (wpAny_of_eq (a := #[]) rfl ?_)
      rw [if_neg (by
        rw [sizes_fold]
        simp only [List.size_toArray, List.length_nil, Nat.zero_mul, Nat.zero_add]
        rw [KBy.tooLong_not hsz]; exact Bool.false_ne_true)]
      rw [joined_nil]
      refine wpAny_bind ?_
      refine wpAny_mkBytes ?_ (by rw [sizeLine_eq]; simpa using hsz)
      refine wpAny_bind (wpAny_holding (wpAny_point ?_))
      refine wpAny_bind (joinLetGo_any ?_ _ _ fun p hp => ?_)
      · exact wpAny_pure ⟨_, rfl, h _ _⟩
      · obtain ⟨v, _, rfl⟩ := List.mem_map.mp hp
        rfl

section
variable {prog : Program} {w : World} {A : Around} {E : Value → Shared → Prop} {s : Shared}
theorem join_K {t : Tok} {a : Addr} {vs : List Value} {xs : List (List UInt8)} {Q : Value → Shared → Prop} (hb : BytesAre vs xs) (hl : s.heap.IsList a vs.toArray) (hsz : xs.flatten.length ≤ 16777216) (h : ∀ t' k, Q (.bytes xs.flatten.toArray t') { s with toks := k }) :
    wpAny (model prog w) A (call (.builtin "bytes.join") [.bytes #[] t, .ref a]) Q E s :=
  call_meets slot_bytes_join (typeIs_bytes _ _ _) entry_bytes_join (args_bytes_join_2 _ _) (meets_join hb) ⟨hl, hsz, h⟩
theorem method_join {M : Model} {b : Array UInt8} {t : Tok} {pl : Sem Bool} {Q : Value × List Value → Shared → Prop} (h : Q (.builtin "bytes.join", [.bytes b t]) s) : wpAny M A (getMethod (.bytes b t) "join" pl) Q E s := by
  with_reducible exact KBd.method_of (.bytes b t) (typeIs_bytes _ _ _) slot_bytes_join type_bytes_join KBd.noRef h
end
end Mine
end
section
open PySem PySem.W PySem.Spec PySem.Calls PyProof.Rows
set_option maxHeartbeats 4000000
namespace Mine
open PySem.Builtin

theorem gives_contains {x : List UInt8} {t u : Tok} {k : Int} (h0 : 0 ≤ k) (h1 : k < 256) : Gives («bytes.__contains__» ⟨[.bytes x.toArray t, .int k u], []⟩) (.val (.bool (x.contains k.toNat.toUInt8))) := by
  refine .of_wp fun M A E s Q hq => ?_
  show wpAny M A (Bytes.containsIn "bytes.__contains__" (.bytes x.toArray t) (.int k u) >>= _) _ E s
  unfold Bytes.containsIn
  have e1 : (asIndex (.int k u)).attempt = pure (.ok k) := rfl
  rw [e1, KBy.buffer_eq]
  simp only [pure_bind]
  have e2 : (decide (k < 0) || decide (k ≥ 256)) = false := by simp; omega
  rw [e2]
  refine wpAny_pure ⟨_, rfl, ?_⟩
  have hq' : Q (.bool (x.contains k.toNat.toUInt8)) s := hq
  simpa using hq'

section
variable {prog : Program} {w : World} {A : Around} {E : Value → Shared → Prop} {s : Shared} {Q : Value → Shared → Prop}
theorem in_bytes {x : List UInt8} {t u : Tok} {k : Int} (h0 : 0 ≤ k) (h1 : k < 256) (h : Q (.bool (x.contains k.toNat.toUInt8)) s) : wpAny (model prog w) A (compareOp .In (.int k u) (.bytes x.toArray t)) Q E s :=
  in_gives (typeIs_bytes s _ t) FB.slot_bytes_contains FB.entry_bytes_contains (FB.args_bytes_contains_2 _ _) (gives_contains h0 h1) h

theorem picked_cut (x : List UInt8) {lo hi : Int} (h0 : 0 ≤ lo) (h1 : lo ≤ hi) : KBy.picked x.toArray (some lo) (some hi) = ((x.drop lo.toNat).take (hi - lo).toNat).toArray := by
  rw [KBc.picked_eq]
  obtain ⟨a, rfl⟩ := Int.eq_ofNat_of_zero_le h0
  obtain ⟨b, rfl⟩ := Int.eq_ofNat_of_zero_le (Int.le_trans h0 h1)
  simp only [Option.elim, clipAt_nat, List.size_toArray, Int.toNat_natCast]
  have e : ((b : Int) - (a : Int)).toNat = b - a := by omega
  rw [e]
  have hab : a ≤ b := by omega
  congr 1
  rcases Nat.lt_or_ge x.length a with h | h
  · rw [Nat.min_eq_right (Nat.le_of_lt h), Nat.min_eq_right (by omega), List.drop_eq_nil_of_le (Nat.le_of_lt h)]
    simp
  · rw [Nat.min_eq_left h]
    rcases Nat.lt_or_ge x.length b with h' | h'
    · rw [Nat.min_eq_right (Nat.le_of_lt h'), List.take_of_length_le (by simp), List.take_of_length_le (by simp; omega)]
    · rw [Nat.min_eq_left h']

theorem slice_B {value slice : PySem.Expr} {x : List UInt8} {t tl tu : Tok} {lo hi : Int} {h₀ : Heap} {L : Addr} {m : PySem.Str → Option Value} {news : List (Addr × Obj)} (hF : Fr h₀ L s.heap m) (hN : News h₀ L s.heap news) (h0 : 0 ≤ lo) (h1 : lo ≤ hi) (hz : x.length ≤ 16777216)
    (h : ∀ h' t' k, Fr h₀ L h' m → News h₀ L h' news → Q (.bytes ((x.drop lo.toNat).take (hi - lo).toNat).toArray t') { s with heap := h', toks := k })
    (hs : subscripted slice false (.bytes x.toArray t) (.ref s.heap.objs.size) = operate [.ref s.heap.objs.size, .bytes x.toArray t] (getItem (.bytes x.toArray t) (.ref s.heap.objs.size)) := by with_unfolding_all rfl)
    (ht : ∀ r, letTemporaryGo value (.bytes x.toArray t) r = pure () := by intro _; with_unfolding_all rfl) :
    wpAny (model prog w) A (subscriptTail value slice (.bytes x.toArray t) (.ref s.heap.objs.size)) Q E { s with heap := s.heap.push { cls := .type "slice", data := .fields #[.int lo tl, .int hi tu, .none] } } := by
  refine KBc.slice_K (lo := some lo) (hi := some hi) hF hN rfl (.int _ _) (.int _ _) (by rw [KBw.ints_length]; simpa using hz) (fun h' t' k F N _ => ?_) hs ht
  rw [picked_cut x h0 h1]
  exact h h' t' k F N

theorem item_B {value slice : PySem.Expr} {x : List UInt8} {t : Tok} {i : Int} {ui : Tok} (hfit : x.length ≤ 16777216) (h0 : 0 ≤ i) (h1 : i < (x.length : Int))
    (h : ∀ t' k, 0 ≤ ((x.getD i.toNat 0).toNat : Int) → ((x.getD i.toNat 0).toNat : Int) < 256 → Q (.int (x.getD i.toNat 0).toNat t') { s with toks := k })
    (hs : subscripted slice false (.bytes x.toArray t) (.int i ui) = operate [.bytes x.toArray t, .int i ui] (getItem (.bytes x.toArray t) (.int i ui)) := by with_unfolding_all rfl)
    (ht : ∀ r, letTemporaryGo value (.bytes x.toArray t) r = pure () := by intro _; with_unfolding_all rfl) :
    wpAny (model prog w) A (subscriptTail value slice (.bytes x.toArray t) (.int i ui)) Q E s :=
  KBy.item_N (by omega) h0 h1 (h _ _ (Int.natCast_nonneg _) (by have := (x.getD i.toNat 0).toNat_lt; omega)) hs ht

theorem add_B {x y : List UInt8} {t u : Tok} (hsz : x.length + y.length ≤ 16777216) (h : ∀ t' k, Q (.bytes (x ++ y).toArray t') { s with toks := k }) : wpAny (model prog w) A (binaryOp .Add (.bytes x.toArray t) (.bytes y.toArray u)) Q E s :=
  KBy.add_bytes (by simpa using hsz) fun t' k => by
    have := h t' k
    simpa using this
theorem len_B {x : List UInt8} {t : Tok} (hfit : x.length ≤ 16777216) (h : ∀ t' k, Q (.int x.length t') { s with toks := k }) : wpAny (model prog w) A (call (.builtin "len") [.bytes x.toArray t]) Q E s :=
  len_bytes (by simp; omega) (by have := h (s.toks + 1) (s.toks + 1 + 1); simpa using this)
theorem eq_B {x y : List UInt8} {t u : Tok} (h : Q (.bool (x == y)) s) : wpAny (model prog w) A (compareOp .Eq (.bytes x.toArray t) (.bytes y.toArray u)) Q E s := eq_bytes h
theorem ne_B {x y : List UInt8} {t u : Tok} (h : Q (.bool (x != y)) s) : wpAny (model prog w) A (compareOp .NotEq (.bytes x.toArray t) (.bytes y.toArray u)) Q E s := ne_bytes h
end
end Mine
end
section

namespace Mine
/-- what inside_at finds at the head of the rest -/
inductive Ins where
  | over
  | bad
  | ok (w : List UInt8) (n : Nat)
def never (c : UInt8) : Bool := c == 0 || c == 10 || c == 13
def inside (r : List UInt8) : Ins := match r with
  | [] => .over
  | c :: r' => if c = 92 then (match r' with
      | [] => .over
      | d :: _ => if never d then .bad else .ok [d] 2)
    else if c = 10 then .ok [] 1
    else if c = 13 ∧ r'.head? = some 10 then .ok [] 2
    else if never c then .bad
    else .ok [c] 1
def lineEnd (x : List UInt8) (k : Nat) : Int := if (x.drop k).take 1 = [10] then (k : Int) + 1 else if (x.drop k).take 2 = [13, 10] then (k : Int) + 2 else -1
theorem drop_cons {x : List UInt8} {k : Nat} (h : ¬ x.length ≤ k) : x.drop k = x.getD k 0 :: x.drop (k + 1) := by
  have hk : k < x.length := by omega
  rw [List.drop_eq_getElem_cons hk, List.getD_eq_getElem?_getD, List.getElem?_eq_getElem hk]
  rfl
theorem any_never (c : UInt8) : ([0, 10, 13] : List Int).any (fun y => y == (c.toNat : Int)) = never c := by
  have h : ∀ n : Nat, ((n : Int) == (c.toNat : Int)) = (c == n.toUInt8) ∨ 256 ≤ n := by
    intro n
    rcases Nat.lt_or_ge n 256 with h | h
    · left
      rw [Bool.eq_iff_iff]
      simp only [beq_iff_eq]
      constructor
      · intro e
        have e' : n = c.toNat := by omega
        rw [e']
        simp
      · intro e
        subst e
        simp
        omega
    · exact .inr h
  unfold never
  have h0 := (h 0).resolve_right (by omega)
  have h10 := (h 10).resolve_right (by omega)
  have h13 := (h 13).resolve_right (by omega)
  simp only [List.any_cons, List.any_nil, Bool.or_false, Bool.or_assoc]
  rw [← show ((0 : Nat) : Int) = 0 from rfl, ← show ((10 : Nat) : Int) = 10 from rfl, ← show ((13 : Nat) : Int) = 13 from rfl, h0, h10, h13]
  rfl
theorem toNat_92 {c : UInt8} : ((c.toNat : Int) = 92) ↔ c = 92 := by
  constructor
  · intro h
    have : c.toNat = 92 := by omega
    exact UInt8.toNat_inj.mp this
  · rintro rfl
    rfl
section
variable {x : List UInt8} {k : Nat}
theorem ins_over1 (h : (x.length : Int) ≤ (k : Int)) : inside (x.drop k) = .over := by
  rw [List.drop_eq_nil_of_le (by omega)]
  rfl
theorem ins_over2 (h : ¬ (x.length : Int) ≤ (k : Int)) (h1 : ((x.getD k 0).toNat : Int) = 92) (h2 : (k : Int) + 1 = x.length) : inside (x.drop k) = .over := by
  rw [drop_cons (by omega), toNat_92.mp h1, List.drop_eq_nil_of_le (by omega)]
  rfl
theorem ins_esc (h : ¬ (x.length : Int) ≤ (k : Int)) (h1 : ((x.getD k 0).toNat : Int) = 92) (h2 : (k : Int) + 1 ≠ x.length) : inside (x.drop k) = if never (x.getD (k + 1) 0) then .bad else .ok [x.getD (k + 1) 0] 2 := by
  rw [drop_cons (by omega), toNat_92.mp h1, drop_cons (x := x) (k := k + 1) (by omega)]
  rfl
theorem ins_plain (h : ¬ (x.length : Int) ≤ (k : Int)) (h1 : ((x.getD k 0).toNat : Int) ≠ 92) : inside (x.drop k) = if lineEnd x k ≥ 0 then .ok [] (lineEnd x k - k).toNat else if never (x.getD k 0) then .bad else .ok [x.getD k 0] 1 := by
  have h1' : x.getD k 0 ≠ 92 := fun e => h1 (toNat_92.mpr e)
  unfold lineEnd
  rw [drop_cons (by omega)]
  generalize x.getD k 0 = c at *
  generalize x.drop (k + 1) = r
  unfold inside
  simp only [if_neg h1']
  by_cases hc : c = 10
  · subst hc
    have : ¬ ((k : Int) + 1 < 0) := by omega
    simp only [List.take_succ_cons, List.take_zero, if_true, ge_iff_le]
    rw [if_pos (by omega)]
    congr 1
    omega
  · have hn : ¬ (List.take 1 (c :: r) = [10]) := by simp [hc]
    rw [if_neg hc, if_neg hn]
    by_cases h2 : c = 13 ∧ r.head? = some 10
    · obtain ⟨rfl, hr⟩ := h2
      cases r with
      | nil => cases hr
      | cons d r =>
        obtain rfl : d = 10 := Option.some.inj hr
        simp only [List.head?_cons, and_self, if_true, List.take_succ_cons, List.take_zero, ge_iff_le]
        rw [if_pos (by omega)]
        congr 1
        omega
    · have hn2 : ¬ (List.take 2 (c :: r) = [13, 10]) := by
        intro e
        apply h2
        cases r with
        | nil => simp at e
        | cons d r =>
          simp at e
          exact ⟨e.1, by rw [e.2]; rfl⟩
      rw [if_neg h2, if_neg hn2, if_neg (show ¬ ((-1 : Int) ≥ 0) by decide)]
theorem take_one {j : Nat} (h : ¬ x.length ≤ j) : (x.drop j).take 1 = [x.getD j 0] := by
  rw [drop_cons h]
  rfl
end
end Mine
end
section

namespace Mine
theorem inside_ok {r : List UInt8} {w : List UInt8} {n : Nat} (h : inside r = .ok w n) : 1 ≤ n ∧ n ≤ r.length ∧ w.length ≤ n := by
  unfold inside at h
  cases r with
  | nil => cases h
  | cons c r =>
    simp only at h
    split at h
    · cases r with
      | nil => cases h
      | cons d r =>
        simp only at h
        split at h
        · cases h
        · cases h; simp
    · split at h
      · cases h; simp
      · split at h
        · rename_i hh
          cases h
          cases r with
          | nil => simp at hh
          | cons d r => simp
        · split at h
          · cases h
          · cases h; simp
inductive Res where
  | ok (w : List UInt8) (e : Nat)
  | bad (n : Nat)
/-- what closed_at finds from the rest r at k on, acc being what it has so far -/
noncomputable def scan (c : UInt8) (bar : List UInt8) (begun : Nat) (r : List UInt8) (k : Nat) (acc : List UInt8) : Res :=
  if r.head? = some c then .ok acc (k + 1)
  else if (r.head?.any fun d => bar.contains d) = true then .bad k
  else match h : inside r with
    | .over => .bad begun
    | .bad => .bad k
    | .ok w n => scan c bar begun (r.drop n) (k + n) (acc ++ w)
termination_by r.length
decreasing_by
  have := inside_ok h
  rw [List.length_drop]
  omega
section
variable {c : UInt8} {bar : List UInt8} {begun k : Nat} {r acc w : List UInt8} {n : Nat}
theorem scan_end (h : r.head? = some c) : scan c bar begun r k acc = .ok acc (k + 1) := by
  rw [scan, if_pos h]
theorem scan_bar (h : r.head? ≠ some c) (h2 : (r.head?.any fun d => bar.contains d) = true) : scan c bar begun r k acc = .bad k := by
  rw [scan, if_neg h, if_pos h2]
theorem scan_over (h : r.head? ≠ some c) (h2 : (r.head?.any fun d => bar.contains d) = false) (hi : inside r = .over) : scan c bar begun r k acc = .bad begun := by
  rw [scan, if_neg h, if_neg (by rw [h2]; exact Bool.false_ne_true)]
  split <;> simp_all
theorem scan_bad (h : r.head? ≠ some c) (h2 : (r.head?.any fun d => bar.contains d) = false) (hi : inside r = .bad) : scan c bar begun r k acc = .bad k := by
  rw [scan, if_neg h, if_neg (by rw [h2]; exact Bool.false_ne_true)]
  split <;> simp_all
theorem scan_ok (h : r.head? ≠ some c) (h2 : (r.head?.any fun d => bar.contains d) = false) (hi : inside r = .ok w n) : scan c bar begun r k acc = scan c bar begun (r.drop n) (k + n) (acc ++ w) := by
  rw [scan, if_neg h, if_neg (by rw [h2]; exact Bool.false_ne_true)]
  split <;> simp_all
end
end Mine
end
section

namespace Mine
def clo (q : Bool) : UInt8 := if q then 34 else 93
def barl (q : Bool) : List UInt8 := if q then [] else [91]
noncomputable def hear (q : Bool) (x : List UInt8) (begun : Nat) : Res := scan (clo q) (barl q) begun (x.drop (begun + 1)) (begun + 1) []
def Good (q : Bool) (x w : List UInt8) : Prop := ∀ begun rest k acc, scan (clo q) (barl q) begun (x ++ rest) k acc = scan (clo q) (barl q) begun rest (k + x.length) (acc ++ w)
theorem Good.nil {q : Bool} : Good q [] [] := fun _ _ _ _ => by simp
theorem Good.app {q : Bool} {x y v w : List UInt8} (h : Good q x v) (h2 : Good q y w) : Good q (x ++ y) (v ++ w) := fun b r k acc => by
  rw [List.append_assoc, h, h2, List.length_append, Nat.add_assoc, List.append_assoc]
theorem Good.step {q : Bool} {x w : List UInt8} (h1 : ∀ r, (x ++ r).head? ≠ some (clo q)) (h2 : ∀ r, ((x ++ r).head?.any fun d => (barl q).contains d) = false) (h3 : ∀ r, inside (x ++ r) = .ok w x.length) : Good q x w := fun b r k acc => by
  rw [scan_ok (h1 r) (h2 r) (h3 r), List.drop_left]
theorem Good.plain {q : Bool} {d : UInt8} (h1 : d ≠ clo q) (h2 : (barl q).contains d = false) (h3 : d ≠ 92) (h4 : never d = false) : Good q [d] [d] := by
  refine .step (fun r e => h1 (Option.some.inj e)) (fun r => h2) (fun r => ?_)
  have h10 : d ≠ 10 := by rintro rfl; revert h4; decide
  have h13 : d ≠ 13 := by rintro rfl; revert h4; decide
  show inside (d :: r) = _
  unfold inside
  simp only [if_neg h3, if_neg h10, h13, false_and, if_false, h4]
  rfl
theorem ne92 (q : Bool) : (92 : UInt8) ≠ clo q := by cases q <;> decide
theorem bar92 (q : Bool) : (barl q).contains 92 = false := by cases q <;> decide
theorem Good.esc {q : Bool} {d : UInt8} (h4 : never d = false) : Good q [92, d] [d] := by
  refine .step (fun r e => ne92 q (Option.some.inj e)) (fun r => bar92 q) (fun r => ?_)
  show inside (92 :: d :: r) = _
  simp [inside, h4]
theorem Good.lf {q : Bool} : Good q [10] [] := by
  refine .step (fun r e => ?_) (fun r => by cases q <;> rfl) (fun r => ?_)
  · have := Option.some.inj e
    revert this
    cases q <;> decide
  · show inside (10 :: r) = _
    simp [inside]
theorem Good.crlf {q : Bool} : Good q [13, 10] [] := by
  refine .step (fun r e => ?_) (fun r => by cases q <;> rfl) (fun r => ?_)
  · have := Option.some.inj e
    revert this
    cases q <;> decide
  · show inside (13 :: 10 :: r) = _
    simp [inside]
theorem Good.plains {q : Bool} : ∀ {x : List UInt8}, (∀ d ∈ x, d ≠ clo q ∧ (barl q).contains d = false ∧ d ≠ 92 ∧ never d = false) → Good q x x
  | [], _ => .nil
  | d :: x, h => by
    obtain ⟨a, b, c, e⟩ := h d (.head _)
    exact (Good.plain a b c e).app (x := [d]) (v := [d]) (Good.plains fun y hy => h y (.tail _ hy))
/-- one menu entry of the law: laid, told -/
def menu (q : Bool) : List (List UInt8 × List UInt8) := [([97, 98], [97, 98]), ([92] ++ [clo q], [clo q]), ([92, 92], [92]), ([13, 10, 32], [32]), ([10], []), (if q then [40, 93] else [34, 41], if q then [40, 93] else [34, 41]), ([255], [255]), ([92, 120], [120])]
theorem menu_good {q : Bool} {x w : List UInt8} (h : (x, w) ∈ menu q) : Good q x w ∧ (∀ d ∈ w, never d = false) ∧ x.length ≤ 3 ∧ w.length ≤ 2 := by
  unfold menu at h
  simp only [List.mem_cons, List.not_mem_nil, or_false, Prod.mk.injEq] at h
  rcases h with h | h | h | h | h | h | h | h <;> obtain ⟨rfl, rfl⟩ := h
  · exact ⟨.plains (by cases q <;> decide), by decide, by decide, by decide⟩
  · refine ⟨?_, by cases q <;> decide, by cases q <;> decide, by cases q <;> decide⟩
    exact Good.esc (d := clo q) (by cases q <;> decide)
  · exact ⟨Good.esc (d := 92) (by decide), by decide, by decide, by decide⟩
  · exact ⟨Good.app (x := [13, 10]) (v := []) .crlf (y := [32]) (w := [32]) (.plains (by cases q <;> decide)), by decide, by decide, by decide⟩
  · exact ⟨.lf, by decide, by decide, by decide⟩
  · exact ⟨.plains (by cases q <;> decide), by cases q <;> decide, by cases q <;> decide, by cases q <;> decide⟩
  · exact ⟨.plains (by cases q <;> decide), by decide, by decide, by decide⟩
  · exact ⟨Good.esc (d := 120) (by decide), by decide, by decide, by decide⟩
/-- the pieces laid so far -/
inductive Pcs (q : Bool) : List (List UInt8) → List (List UInt8) → Prop where
  | nil : Pcs q [] []
  | cons {x w xs ws} : (x, w) ∈ menu q → Pcs q xs ws → Pcs q (x :: xs) (w :: ws)
theorem Pcs.snoc {q : Bool} {x w : List UInt8} (h : (x, w) ∈ menu q) : ∀ {xs ws}, Pcs q xs ws → Pcs q (xs ++ [x]) (ws ++ [w])
  | _, _, .nil => .cons h .nil
  | _, _, .cons a r => .cons a (r.snoc h)
theorem Pcs.good {q : Bool} : ∀ {xs ws}, Pcs q xs ws → Good q xs.flatten ws.flatten
  | _, _, .nil => .nil
  | _, _, .cons a r => by
    rw [List.flatten_cons, List.flatten_cons]
    exact (menu_good a).1.app r.good
theorem Pcs.never {q : Bool} : ∀ {xs ws}, Pcs q xs ws → ∀ d ∈ ws.flatten, never d = false
  | _, _, .nil, d, h => by cases h
  | _, _, .cons a r, d, h => by
    rw [List.flatten_cons] at h
    rcases List.mem_append.mp h with h | h
    · exact (menu_good a).2.1 d h
    · exact r.never d h
theorem Pcs.len {q : Bool} : ∀ {xs ws}, Pcs q xs ws → xs.flatten.length ≤ 3 * xs.length ∧ ws.flatten.length ≤ 2 * xs.length ∧ ws.length = xs.length
  | _, _, .nil => by decide
  | _, _, .cons a r => by
    have h1 := menu_good a
    have h2 := r.len
    rw [List.flatten_cons, List.flatten_cons, List.length_append, List.length_append, List.length_cons, List.length_cons]
    omega
theorem Pcs.take {q : Bool} : ∀ {xs ws} (n : Nat), Pcs q xs ws → Pcs q (xs.take n) (ws.take n)
  | _, _, 0, _ => .nil
  | _, _, _ + 1, .nil => .nil
  | _, _, n + 1, .cons a r => .cons a (r.take n)
theorem Pcs.drop {q : Bool} : ∀ {xs ws} (n : Nat), Pcs q xs ws → Pcs q (xs.drop n) (ws.drop n)
  | _, _, 0, h => h
  | _, _, _ + 1, .nil => .nil
  | _, _, n + 1, .cons _ r => r.drop n
section
variable {q : Bool} {ahead x w behind y v rest : List UInt8} {o : UInt8}
theorem hear_start (G : Good q x w) : hear q (ahead ++ [o] ++ x ++ rest) ahead.length = scan (clo q) (barl q) ahead.length rest (ahead ++ [o] ++ x).length w := by
  unfold hear
  have e : (ahead ++ [o] ++ x ++ rest).drop (ahead.length + 1) = x ++ rest := by
    rw [List.append_assoc, show ahead.length + 1 = (ahead ++ [o]).length by simp, List.drop_left]
  rw [e, G]
  have e2 : ahead.length + 1 + x.length = (ahead ++ [o] ++ x).length := by simp only [List.length_append, List.length_cons, List.length_nil]
  rw [e2, List.nil_append]
theorem hear_whole (G : Good q x w) : hear q (ahead ++ [o] ++ x ++ [clo q] ++ behind) ahead.length = .ok w (ahead ++ [o] ++ x ++ [clo q]).length := by
  rw [List.append_assoc _ [clo q], hear_start G, scan_end rfl, List.length_append (as := ahead ++ [o] ++ x) (bs := [clo q])]
  rfl
theorem hear_cut (G : Good q x w) : hear q (ahead ++ [o] ++ x) ahead.length = .bad ahead.length := by
  have := hear_start (ahead := ahead) (o := o) (rest := []) G
  rw [List.append_nil] at this
  rw [this, scan_over (by intro e; cases e) rfl rfl]
theorem hear_slash (G : Good q x w) : hear q (ahead ++ [o] ++ x ++ [92]) ahead.length = .bad ahead.length := by
  rw [hear_start G]
  exact scan_over (fun e => ne92 q (Option.some.inj e)) (bar92 q) rfl
theorem hear_odd {odd : List UInt8} (G : Good q x w) (h : odd ∈ [[0], [13, 97], [92, 10], [92, 0]]) : hear q (ahead ++ [o] ++ x ++ odd ++ rest) ahead.length = .bad (ahead ++ [o] ++ x).length := by
  rw [List.append_assoc _ odd, hear_start G]
  simp only [List.mem_cons, List.not_mem_nil, or_false] at h
  rcases h with rfl | rfl | rfl | rfl
  all_goals
    refine scan_bad (fun e => ?_) (by cases q <;> rfl) (by simp [inside, never])
    have := Option.some.inj e
    revert this
    cases q <;> decide
theorem hear_barT (hq : q = true) (G : Good q x w) (G2 : Good q y v) : hear q (ahead ++ [o] ++ x ++ [91] ++ (y ++ [clo q])) ahead.length = .ok (w ++ [91] ++ v) (ahead ++ [o] ++ x ++ [91] ++ (y ++ [clo q])).length := by
  subst hq
  have G3 := (G.app (Good.plain (d := 91) (by decide) (by decide) (by decide) (by decide))).app G2
  have := hear_whole (ahead := ahead) (o := o) (behind := []) G3
  rw [List.append_nil] at this
  rw [show ahead ++ [o] ++ x ++ [91] ++ (y ++ [clo true]) = ahead ++ [o] ++ (x ++ [91] ++ y) ++ [clo true] by simp, this]
theorem hear_barF (hq : q = false) (G : Good q x w) : hear q (ahead ++ [o] ++ x ++ [91] ++ rest) ahead.length = .bad (ahead ++ [o] ++ x).length := by
  subst hq
  rw [List.append_assoc _ [91], hear_start G]
  exact scan_bar (fun e => by have := Option.some.inj e; revert this; decide) rfl
/-- what escaped_octets makes -/
def esc (signs : List UInt8) (w : List UInt8) : List UInt8 := (w.map fun d => if signs.contains d then [92, d] else [d]).flatten
def sgn (q : Bool) : List UInt8 := if q then [34, 92] else [91, 93, 92]
theorem esc_good : ∀ {w : List UInt8}, (∀ d ∈ w, never d = false) → Good q (esc (sgn q) w) w
  | [], _ => .nil
  | d :: w, h => by
    have hd := h d (.head _)
    unfold esc
    rw [List.map_cons, List.flatten_cons]
    refine Good.app (v := [d]) ?_ (esc_good fun y hy => h y (.tail _ hy))
    by_cases hs : (sgn q).contains d = true
    · rw [if_pos hs]; exact .esc hd
    · rw [if_neg hs]
      refine .plain ?_ ?_ ?_ hd
      · rintro rfl; revert hs; cases q <;> decide
      · cases hb : (barl q).contains d with
        | false => rfl
        | true =>
          exfalso
          cases q with
          | true => cases hb
          | false =>
            simp [barl] at hb
            subst hb
            exact hs (by decide)
      · rintro rfl; revert hs; cases q <;> decide
theorem esc_len (signs : List UInt8) : ∀ w : List UInt8, (esc signs w).length ≤ 2 * w.length
  | [] => Nat.zero_le _
  | d :: w => by
    have := esc_len signs w
    unfold esc at this ⊢
    rw [List.map_cons, List.flatten_cons, List.length_append, List.length_cons]
    have h1 : (if signs.contains d = true then [92, d] else [d]).length ≤ 2 := by split <;> simp
    omega
theorem hear_again {w : List UInt8} (h : ∀ d ∈ w, never d = false) : hear q ([o] ++ esc (sgn q) w ++ [clo q]) 0 = .ok w ([o] ++ esc (sgn q) w ++ [clo q]).length := by
  have := hear_whole (ahead := []) (o := o) (behind := []) (esc_good (q := q) h)
  simpa using this
theorem hear_last : hear true [34, 97, 13, 10, 32, 98, 10, 34] 0 = .ok [97, 32, 98] 8 := by
  have G : Good true ([97] ++ [13, 10] ++ [32, 98] ++ [10]) ([97] ++ [] ++ [32, 98] ++ []) := ((Good.app (.plains (by decide)) .crlf).app (.plains (by decide))).app .lf
  exact hear_whole (ahead := []) (o := 34) (behind := []) G
end
end Mine
end
section
open PySem PySem.W PyProof.Rows
set_option maxHeartbeats 8000000
namespace Mine
open_top hd for PySem.Challenge.rw_or0017_01
end Mine
end
section
open PySem PySem.W PySem.Spec PySem.Calls PyProof.Rows
set_option maxHeartbeats 8000000
namespace Mine
abbrev Ar (dp un : Nat) (gd : Option (List Code)) (l : List Env) : Around := { handled := none, depth := dp, frames := some l, guards := gd, units := un }

/-- a def is entered; of the heap behind it g is what the walk may lean on -/
theorem enterG {prog : Program} {w : World} {A : Around} {Q E : Value → Shared → Prop} {s : Shared} {K : Frag} {g : Heap} {name qual : Str} {params : Arguments} {body : List Stmt} {scope : Scope} {dV kV doc pm cdv ct oc : Value} {an od : Option Addr} {osl : Array (Option Value)} {f : Addr} {vals : List Value} {binds : List (Str × Value)}
    (X : K.In g) (hlim : g.NoLimit) (hg : ∀ b o, g.get? b = some o → s.heap.get? b = some o) (hgs : g.objs.size ≤ s.heap.objs.size)
    (ho : K.lookup f = some ⟨oc, od, .func (fnOf name qual params body scope dV kV doc pm an cdv ct), osl⟩) (hcd : codeIn K cdv qual = true) (hroom : A.depth < recursionLimit)
    (hbind : BindsTo s (fnOf name qual params body scope dV kV doc pm an cdv ct) ⟨vals, []⟩ binds) (hloc : ∀ y ∈ binds, scope.names.lookup y.1 = some .local)
    (h : ∀ L h₁, L = s.heap.objs.size → Fr g L h₁ (fun y => binds.reverse.lookup y) → (∀ b o, s.heap.get? b = some o → h₁.get? b = some o) →
      wpAny (model prog w) (A.deeper (envOf qual scope L f cdv)) (execs body (envOf qual scope L f cdv))
        (fun fl s' => Q (match fl with | .ret v => v | _ => .none) s')
        (fun e s' => wpAny (model prog w) (A.deeper (envOf qual scope L f cdv)) (leaving (envOf qual scope L f cdv) e) (fun _ s'' => E e s'') (fun e' s'' => E e' s'') s')
        { s with heap := h₁, toks := s.toks + binds.length })
    (hco : scope.isCoroutine = false) (hgen : scope.isGenerator = false) (hk : scope.kind = .function) (hcell : ∀ x ∈ scope.names, x.2 ≠ .cell) :
    wpAny (model prog w) A (call (.ref f) vals) Q E s := by
  refine wpAny_call (codeAny_call_def hroom (hg _ _ (X _ _ ho)) rfl (hlim.keeps hg) ((codeRec_of X hcd).keeps hg) rfl hbind hcell hloc (fun h₁ hn hk₁ => ?_) hco hgen hk)
  exact h _ h₁ rfl ⟨hn, fun b o e => hk₁ b o (hg b o e), hgs⟩ hk₁
end Mine
end
section
open PySem PySem.W PySem.Spec PySem.Calls PyProof.Rows
set_option maxHeartbeats 8000000
local macro_rules | `(tactic| walk_at "pad Ex1 0") => `(tactic| skip)
namespace Mine
theorem set_back_Ex1 : True := by
  w_top off
  trivial
end Mine
namespace Mine
theorem fill1 : (hd.heap_39 = hd.heap_39) ∧ PySem.Challenge.rw_or0017_01 = PySem.Challenge.rw_or0017_01 := by
  k_fill
  exact ⟨rfl, rfl⟩
/-- what stands behind WordFault among its forebears; the class itself as the head has laid it -/
def wordBm : List Value := [.ref 39, .type "Exception", .type "BaseException", .type "object"]
def wordObj : Obj := excClassObj "WordFault" "WordFault" 52 51 [.ref 39] wordBm true [] [] false none none (some (.ref 43)) none (some (.str "WordFault" 229)) (some (.str "WordFault" 237)) (some (.bool true)) "Exception.__new__"

section
variable {prog : Program} {w : World} {S : Setting}
/-! All that the call WordFault(..) only reads is reckoned on the written heap, at once, by the kernel. -/
theorem pk_call (rest : List Value) : peek (hd.heap_39 w.params) S (callAny (.ref 52) ⟨rest, []⟩) = some (.again (.call (.builtin "type.__call__") ⟨.ref 52 :: rest, []⟩)) := by kernel_rfl
theorem pk_chkT (rest : List Value) : peek (hd.heap_39 w.params) S (checkBuiltinCall "type.__call__" ⟨.ref 52 :: rest, []⟩) = some () := by kernel_rfl
theorem pk_chkN (rest : List Value) : peek (hd.heap_39 w.params) S (checkBuiltinCall "Exception.__new__" ⟨.ref 52 :: rest, []⟩) = some () := by kernel_rfl
theorem pk_mro : peek (hd.heap_39 w.params) S (mroOf (.ref 52)) = some (.ref 52 :: wordBm) := by kernel_rfl
theorem pk_made : peek (hd.heap_39 w.params) S (Bind.madeBy (.ref 52)) = some (some "Exception.__new__") := by kernel_rfl
theorem pk_type : peek (hd.heap_39 w.params) S (isType (.ref 52)) = some true := by kernel_rfl
theorem pk_sub (n : String) : peek (hd.heap_39 w.params) S (isSubtype (.ref 52) (.type n)) = some ((Value.ref 52 :: wordBm).contains (.type n)) := by kernel_rfl
theorem pk_self : peek (hd.heap_39 w.params) S (isSubtype (.ref 52) (.ref 52)) = some true := by kernel_rfl
theorem pk_here : peek (hd.heap_39 w.params) S (Bind.madeHere "BaseException.__new__" (.ref 52)) = some () := by kernel_rfl
theorem pk_del : peek (hd.heap_39 w.params) S (classHasDel 52) = some false := by kernel_rfl
end

section
variable {prog : Program} {w : World} {A : Around} {E : Value → Shared → Prop} {s : Shared} {rest : List Value}
theorem word_obj {h : Heap} (X : (hd.heap_39 w.params).In h) : h.get? 52 = some wordObj := X _ _ (by k_is)

/-- a WordFault with the arguments at t; a new one has no dict yet -/
abbrev excObj (dct : Option Addr) (t : Addr) : Obj := { cls := .ref 52, dict := dct, data := .fields #[.ref t, .none, .none, .none, .bool false, .none] }
abbrev bare (t : Addr) : Obj := excObj none t
abbrev tupOf (rest : List Value) : Obj := { cls := .type "tuple", data := .seq rest.toArray }

theorem new_runs {Q : Value → Shared → Prop} (X : (hd.heap_39 w.params).In s.heap) (hz : rest.length ≤ sizeLine)
    (hq : Q (.ref (s.heap.objs.size + 1)) { s with heap := (s.heap.push (tupOf rest)).push (bare s.heap.objs.size) }) :
    wpAny (model prog w) A (call (.builtin "Exception.__new__") (.ref 52 :: rest)) Q E s := by
  have look : ∀ {α : Type} {t : Sem α} {r : α}, peek (hd.heap_39 w.params) ⟨(model prog w).prog, (model prog w).w.params⟩ t = some r → Looks (model prog w) s.heap t r := fun e => .of_peek X e
  refine wpAny_call (codeAny_call_builtin_code (Code.quiet_builtin _ (by decide +kernel)) ((look (pk_chkN rest)).here ?_))
  refine codeAny_builtin_at excClass_Exception.newEntry (PyProof.Rows.wpAt_bind (wpAt_owner rfl excClass_Exception.newEnds (PyProof.Rows.wpAt_of_any ?_)))
  dsimp only
  refine wpAny_bind ((look pk_type).here ?_)
  rw [if_neg (by decide)]
  refine wpAny_bind ((look (pk_sub _)).here ?_)
  rw [if_neg (by decide +kernel)]
  refine wpAny_bind ((look pk_here).here (wpAny_bind ((look (r := 0) ?own).here ?_)))
  case own => kernel_rfl
  refine wpAny_bind (wpAny_newTuple ?_ hz)
  have up : ∀ o₁ o₂, ((s.heap.push o₁).push o₂).get? 52 = some wordObj := fun _ _ => Heap.get?_push_of_some _ (Heap.get?_push_of_some _ (word_obj X))
  unfold newObj newObjAsIs
  repeat lk
  refine nd_load (up _ _) ?_
  repeat lk
  rw [Heap.size_push]
  exact hq

/-- WordFault(..): the object is made, then its inherited __init__ (at 29) is called -/
theorem word_call {Q : Value → Shared → Prop} (X : (hd.heap_39 w.params).In s.heap) (hz : rest.length ≤ sizeLine)
    (hq : wpAny (model prog w) (A.under (.builtin "type.__call__" ⟨.ref 52 :: rest, []⟩)) (call (.ref 29) (.ref (s.heap.objs.size + 1) :: rest)) (fun r s' => r = .none ∧ Q (.ref (s.heap.objs.size + 1)) s') E
      { s with heap := (s.heap.push (tupOf rest)).push (bare s.heap.objs.size) }) :
    wpAny (model prog w) A (call (.ref 52) rest) Q E s := by
  have look : ∀ {α : Type} {t : Sem α} {r : α}, peek (hd.heap_39 w.params) ⟨(model prog w).prog, (model prog w).w.params⟩ t = some r → Looks (model prog w) s.heap t r := fun e => .of_peek X e
  have K : ∀ b o, s.heap.get? b = some o → ((s.heap.push (tupOf rest)).push (bare s.heap.objs.size)).get? b = some o := fun _ _ e => Heap.get?_push_of_some _ (Heap.get?_push_of_some _ e)
  have me : ((s.heap.push (tupOf rest)).push (bare s.heap.objs.size)).get? (s.heap.objs.size + 1) = some (bare s.heap.objs.size) := Heap.get?_push_at (by rw [Heap.size_push]) rfl
  have T : Looks (model prog w) ((s.heap.push (tupOf rest)).push (bare s.heap.objs.size)) (typeOf (.ref (s.heap.objs.size + 1))) (.ref 52) := (Looks.ld me).andThen .now
  have I : Looks (model prog w) ((s.heap.push (tupOf rest)).push (bare s.heap.objs.size)) (isInstance (.ref (s.heap.objs.size + 1)) (.ref 52)) true := T.andThen ((look pk_self).keeps K)
  refine wpAny_call (codeAny_of_tree ?_)
  show wpAny _ _ (callAny (.ref 52) ⟨rest, []⟩) _ _ s
  refine (look (pk_call rest)).here ⟨rfl, ?_⟩
  refine codeAny_call_builtin_code (Code.quiet_builtin _ (by decide +kernel)) ((look (pk_chkT rest)).here (codeAny_builtin entry_typeCall ?_))
  unfold Builtin.«type.__call__»
  dsimp only
  rw [if_neg (by decide)]
  refine wpAny_bind ((look pk_mro).here ?_)
  rw [if_neg (by decide)]
  refine wpAny_bind ((look pk_made).here (wpAny_bind (wpAny_pure (wpAny_bind (wpAny_holding (new_runs X hz ?_))))))
  refine wpAny_bind (I.here ?_)
  rw [if_neg (by decide)]
  refine wpAny_bind (wpAny_holding (special_fn (X.keeps K) (ox := bare s.heap.objs.size) (od := none) ⟨me, rfl, rfl, trivial⟩ (by k_is) (by k_is) ?_))
  refine wpAny_mono hq (fun r s' z => ?_) fun _ _ z => z
  rw [z.1]
  exact wpAny_pure z.2
end
end Mine
end
section
open PySem PySem.W PySem.Spec PySem.Calls PyProof.Rows PySem.Builtin.ObjectAttr
set_option maxHeartbeats 400000
namespace Mine
theorem set_back_Ex3 : True := by
  w_top off
  trivial
end Mine
namespace Mine
theorem fill3 : (hd.heap_39 = hd.heap_39) ∧ PySem.Challenge.rw_or0017_01 = PySem.Challenge.rw_or0017_01 := by
  k_fill
  exact ⟨rfl, rfl⟩
theorem pk_refuse {w : World} {S : Setting} (self : Value) : peek (hd.heap_39 w.params) S (refuseLoop self "__setattr__" (.ref 52 :: wordBm)) = some () := by kernel_rfl
theorem pk_cls {w : World} {S : Setting} : peek (hd.heap_39 w.params) S (classData 52 >>= fun c => pure c.hasDict) = some true := by kernel_rfl

section
variable {prog : Program} {w : World} {A : Around} {E : Value → Shared → Prop} {s : Shared} {x d t0 : Addr} {dct : Option Addr} {mA : Str → Option Value} {name : Str} {v : Value} {ns : List Str} {tk : Tok}

/-- one more name is put into a dict of names -/
theorem put_in {M : Model} {Q : PySem.Fin → Shared → Prop} (D : s.heap.Ns1 d mA) (hw : Within mA ns) (hz : ns.length ≤ 1000)
    (hq : ∀ h', h'.Ns1 d (fun y => if y = name then some v else mA y) → Heap.SameBut d s.heap h' → Q (.done (.ret .none)) { s with heap := h', toks := s.toks + 1 }) :
    wpAny M A (storeInDict d (.str name tk) name v) Q E s := by
  refine wpAny_bind (m := newKeyGuard d name (.str name tk)) (wpAny_pure (wpAny_bind (wpAny_nsSet1 D fun h' D' same => ?_)))
  have few := D'.count (hw.cons name v)
  obtain ⟨o, es, n, ho, hes, hlen⟩ := few
  have line : o.data.pastItsLine = none := by
    rw [List.length_cons] at hlen
    rw [hes]
    exact pastItsLine_dict (by rw [sizeLine_eq]; omega)
  exact wpAny_bind (wpAny_lookBehind ho line (wpAny_pure (hq h' D' same)))

/-- e.name = v: all that is read ahead of the write -/
theorem write_begins {Q : Unit → Shared → Prop} (X : (hd.heap_39 w.params).In s.heap) (me : s.heap.get? x = some (excObj dct t0)) (hf : findIn (hd.heap_39 w.params) (.ref 52) name = some none)
    (h : wpAny (model prog w) A.in1 (storeInOwnDict (.ref x) (.ref 52) (.str name s.toks) name v false) (fun f s' => f = .done (.ret .none) ∧ Q () s') E { s with toks := s.toks + 1 }) :
    wpAny (model prog w) A (setAttr (.ref x) name v) Q E s := by
  have SF := PySem.F.store_object
  have look : ∀ {α : Type} {t : Sem α} {r : α}, peek (hd.heap_39 w.params) ⟨(model prog w).prog, (model prog w).w.params⟩ t = some r → Looks (model prog w) s.heap t r := fun e => .of_peek X e
  have T : Looks (model prog w) s.heap (typeOf (.ref x)) (.ref 52) := (Looks.ld me).andThen .now
  have R : Looks (model prog w) s.heap (refuseIfOverridden (.ref x) "__setattr__") () := T.andThen ((look pk_mro).andThen (look (pk_refuse _)))
  have W : Looks (model prog w) s.heap (typeLookup (.ref 52) "__setattr__") (some (.builtin "object.__setattr__")) := looks_findIn X (by k_is)
  have B : Looks (model prog w) s.heap (bindSpecial (.builtin "object.__setattr__") (.ref x)) (.builtin "object.__setattr__", [.ref x]) := .of_pure (SF.slot.bind _)
  have N : Looks (model prog w) s.heap (typeLookup (.ref 52) name) none := looks_findIn X hf
  have I : Looks (model prog w) s.heap (isInstance (.ref x) (.type "object")) true := T.andThen (look (pk_sub _))
  unfold setAttr
  refine wpAny_bind (wpAny_mkText ?_)
  unfold callSpecial? specialOf
  repeat (first | with_reducible refine wpAny_call ?_ | lk)
  refine codeAny_call_builtin SF.slot.plain SF.entry (@check_slot (model prog w) _ _ { s with toks := s.toks + 1 } "object.__setattr__" "object" "__setattr__" (.ref x) [.str name s.toks, v] [] _ SF.kind SF.split I (SF.args (.ref x) (.str name s.toks) v) ?_)
  show wpAny _ _ (Builtin.«object.__setattr__» ⟨[.ref x, .str name s.toks, v], []⟩) _ _ _
  rw [osa_eq]
  refine wpAny_bind (R.at (wpAny_bind (T.at (wpAny_bind (N.at (wpAny_bind (wpAny_pure ?_)))))))
  exact wpAny_mono h (fun _ s' z => by rw [z.1]; exact wpAny_pure (wpAny_pure z.2)) fun _ _ z => z

/-- e.name = v where e has a dict already -/
theorem write_next {Q : Unit → Shared → Prop} (X : (hd.heap_39 w.params).In s.heap) (me : s.heap.get? x = some (excObj (some d) t0)) (hf : findIn (hd.heap_39 w.params) (.ref 52) name = some none)
    (D : s.heap.Ns1 d mA) (hw : Within mA ns) (hz : ns.length ≤ 1000)
    (hq : ∀ h' k, h'.Ns1 d (fun y => if y = name then some v else mA y) → Heap.SameBut d s.heap h' → Q () { s with heap := h', toks := k }) :
    wpAny (model prog w) A (setAttr (.ref x) name v) Q E s := by
  have C : Looks (model prog w) s.heap (classData 52) _ := looks_clsIn X (by k_is)
  have O : Looks (model prog w) s.heap (ownDictForStores (.ref x)) (some d) := (Looks.ld me).andThen (C.andThen .now)
  refine write_begins X me hf (wpAny_bind (wpAny_pure (wpAny_bind (O.at ?_))))
  exact put_in (s := { s with toks := s.toks + 1 }) D hw hz fun h' D' same => ⟨rfl, hq h' _ D' same⟩

/-- e.name = v where e has none: a dict is made, at the heap's end -/
theorem write_first {Q : Unit → Shared → Prop} (X : (hd.heap_39 w.params).In s.heap) (me : s.heap.get? x = some (excObj none t0)) (hf : findIn (hd.heap_39 w.params) (.ref 52) name = some none)
    (hq : ∀ h' k, h'.Ns1 s.heap.objs.size (fun y => if y = name then some v else none) → h'.get? x = some (excObj (some s.heap.objs.size) t0) → (∀ b o, b ≠ x → s.heap.get? b = some o → h'.get? b = some o) → Q () { s with heap := h', toks := k }) :
    wpAny (model prog w) A (setAttr (.ref x) name v) Q E s := by
  have hC := word_obj X
  have away : x ≠ s.heap.objs.size := Nat.ne_of_lt (Heap.lt_size me)
  have me₁ : (s.heap.push emptyDict).get? x = some (excObj none t0) := Heap.get?_push_of_some _ me
  generalize hG : (s.heap.push emptyDict).update x (fun o => { o with dict := some s.heap.objs.size }) = G
  have atX : G.get? x = some (excObj (some s.heap.objs.size) t0) := by rw [← hG]; exact Heap.get?_update_self _ me₁ rfl
  have atD : G.get? s.heap.objs.size = some emptyDict := by rw [← hG, Heap.get?_update_other _ _ away]; exact Heap.get?_push_size _ rfl
  have rest : ∀ b o, b ≠ x → s.heap.get? b = some o → G.get? b = some o := fun b o hb q => by rw [← hG, Heap.get?_update_other _ _ (Ne.symm hb)]; exact Heap.get?_push_of_some _ q
  have D : G.Ns1 s.heap.objs.size (fun _ => none) := .of_empty ⟨_, _, _, atD, rfl, nofun, fun _ => rfl⟩
  have C : Looks (model prog w) s.heap (classData 52) _ := looks_clsIn X (by k_is)
  have made : wpAny (model prog w) A.in1 (ownDictForStores (.ref x)) (fun r s' => r = some s.heap.objs.size ∧ s' = { s with heap := G, toks := s.toks + 1 }) E { s with toks := s.toks + 1 } := by
    refine wpAny_bind (wpAny_loadPart me (wpAny_bind (C.at ?_)))
    show wpAny _ _ (alloc emptyDict >>= fun d => update x (fun o => { o with dict := some d }) >>= fun _ => pure (some d)) _ _ _
    exact wpAny_bind (wpAny_alloc (wpAny_bind (wpAny_update me₁ (wpAny_pure ⟨rfl, by rw [← hG]⟩))))
  refine write_begins X me hf (wpAny_bind (wpAny_pure (wpAny_bind (wpAny_mono made (fun r s' z => ?_) fun _ _ z => z))))
  rw [z.1, z.2]
  refine put_in (s := { s with heap := G, toks := s.toks + 1 }) D .nil (Nat.zero_le _) fun h' D' same => ⟨rfl, hq h' _ D' ((same.2 x away).trans atX) fun b o hb q => ?_⟩
  exact (same.2 b (Nat.ne_of_lt (Heap.lt_size q))).trans (rest b o hb q)

/-- a name that the dict holds is found by the dict's own look -/
theorem lookIn_ns {h : Heap} (D : h.Ns d mA) (hv : mA name = some v) : ∃ od, h.get? d = some od ∧ lookIn name od = some (some v) := by
  obtain ⟨od, es, n, ho, hd, _, hm⟩ := D
  refine ⟨od, ho, ?_⟩
  have e := (hm name).trans hv
  unfold nsFind findBy at e
  obtain ⟨en, he, rfl⟩ := Option.map_eq_some_iff.mp e
  unfold lookIn
  rw [hd]
  dsimp only
  rw [Array.find?_toList, he]

/-- e.name, where e's dict holds the name and no class above it does -/
theorem read_runs {expr : Bool} {o : Obj} {n : Int} {u : Tok} {Q : Value → Shared → Prop} (X : (hd.heap_39 w.params).In s.heap) (me : s.heap.get? x = some o) (hc : o.cls = .ref 52) (hn : notCls o = true) (hd' : o.dict = some d) (D : s.heap.Ns d mA)
    (hv : mA name = some (.int n u)) (hf : findIn (hd.heap_39 w.params) (.ref 52) name = some none) (hq : ∀ k, Q (.int n u) { s with toks := k }) :
    wpAny (model prog w) A (getAttr (.ref x) name expr) Q E s := by
  obtain ⟨od, ho, hl⟩ := lookIn_ns D hv
  have I : InstAt s.heap x o 52 (some od) := ⟨me, hc, hn, by rw [hd']; exact ho⟩
  have found : findObj (hd.heap_39 w.params) 52 (some od) name = some (.value (.int n u)) := by
    obtain ⟨cd, hcd, hh⟩ : ∃ cd, clsIn (hd.heap_39 w.params) 52 = some cd ∧ cd.hasDict = true := ⟨_, by k_is, rfl⟩
    have own : W.ownOf cd (some od) name = some (some (.int n u)) := by unfold W.ownOf; rw [hh, if_pos rfl]; exact hl
    unfold findObj
    rw [hcd, hf]
    show (W.ownOf cd (some od) name).bind _ = _
    rw [own]
    rfl
  have F : ∀ M : Model, Looks M s.heap (find (.ref x) (.ref 52) name) (.value (.int n u)) := fun _ => looks_find X I found
  have T : ∀ M : Model, Looks M s.heap (typeOf (.ref x)) (.ref 52) := fun _ => I.type
  have G : Looks (model prog w) s.heap (typeLookup (.ref 52) "__getattribute__") (some (.builtin "BaseException.__getattribute__")) := looks_findIn X (by k_is)
  have H : Looks (model prog w) s.heap (hookBefore (.ref 52)) none := looks_findIn X (by k_is)
  have B : Looks (model prog w) s.heap (bindSpecial (.builtin "BaseException.__getattribute__") (.ref x)) (.builtin "BaseException.__getattribute__", [.ref x]) := .of_pure (PySem.F.attr_Exception.ga.bind _)
  have S : Looks (model prog w) s.heap (isInstance (.ref x) (.type "BaseException")) true := (T _).andThen (.of_peek X (pk_sub _))
  have T' := T (model prog w)
  have run : wpAny (model prog w) A (callGetattribute (.ref x) (.str name s.toks) (.builtin "BaseException.__getattribute__") expr) (fun r s' => r = .int n u ∧ s' = { s with toks := s.toks + 1 }) (fun _ _ => False) { s with toks := s.toks + 1 } := by
    have plain : callGetattribute (.ref x) (.str name s.toks) (.builtin "BaseException.__getattribute__") expr = boundAndCalled (.builtin "BaseException.__getattribute__") (.ref x) (.str name s.toks) := by cases expr <;> rfl
    rw [plain]
    have kind : builtinKind "BaseException.__getattribute__" = some .slot := by decide +kernel
    have split : splitId "BaseException.__getattribute__" = some ("BaseException", "__getattribute__") := by decide +kernel
    refine wpAny_bind (B.at (wpAny_call ?_))
    show codeAny _ _ (.call (.builtin "BaseException.__getattribute__") ⟨[.ref x, .str name s.toks], []⟩) _ _
    refine codeAny_call_builtin PySem.F.attr_Exception.ga.plain PySem.F.entry_bexc_ga (@check_slot (model prog w) _ _ { s with toks := s.toks + 1 } "BaseException.__getattribute__" "BaseException" "__getattribute__" (.ref x) [.str name s.toks] [] _ kind split S (PySem.F.args_bexc_ga (.ref x) (.str name s.toks)) ?_)
    exact wpAny_bind (wpAny_pure (wpAny_bind (wpAny_pure (wpAny_bind (T'.at (wpAny_bind ((F _).at (wpAny_pure ⟨rfl, rfl⟩))))))))
  unfold getAttr getAttrBy
  refine wpAny_bind (wpAny_mkText (wpAny_holding (wpAny_bind (T'.at (wpAny_bind (G.at ?_))))))
  dsimp only
  rw [if_neg (by decide +kernel)]
  refine wpAny_bind (H.at (wpAny_bind (wpAny_attempt (wpAny_holding (wpAny_mono run (fun r s' z => ?_) fun _ _ z => z.elim)))))
  rw [z.1, z.2]
  exact wpAny_pure (hq _)
end
end Mine
end
section
open PySem PySem.W PySem.Spec PySem.Calls PyProof.Rows
set_option maxHeartbeats 800000
local macro_rules | `(tactic| walk_at "pad Ex4 0") => `(tactic| skip)
namespace Mine
theorem set_back_Ex4 : True := by
  w_top off
  trivial
end Mine
namespace Mine
theorem fill4 : (hd.heap_39 = hd.heap_39) ∧ PySem.Challenge.rw_or0017_01 = PySem.Challenge.rw_or0017_01 := by
  k_fill
  exact ⟨rfl, rfl⟩
section
variable {prog : Program} {w : World} {A : Around} {E : Value → Shared → Prop} {s : Shared} {e t0 : Addr}
/-- Exception.__init__(e, v): the arguments' tuple is made and put in -/
theorem init_runs {v : Value} {Q : Value → Shared → Prop} (X : (hd.heap_39 w.params).In s.heap) (me : s.heap.get? e = some (excObj none t0))
    (hq : ∀ h' t', (∀ b o, b ≠ e → s.heap.get? b = some o → h'.get? b = some o) → h'.get? e = some (excObj none t') → Q .none { s with heap := h' }) :
    wpAny (model prog w) A (call (.builtin "Exception.__init__") [.ref e, v]) Q E s := by
  have hC := word_obj X
  have T : Looks (model prog w) s.heap (typeOf (.ref e)) (.ref 52) := (Looks.ld me).andThen .now
  have S : Looks (model prog w) s.heap (isInstance (.ref e) (.type "Exception")) true := T.andThen (.of_peek X (pk_sub _))
  refine wpAny_call (codeAny_call_builtin excClass_Exception.init.plain excClass_Exception.initEntry ?_)
  simp only [checkBuiltinCall, excClass_Exception.initKind, excClass_Exception.initSplit, excClass_Exception.initSig]
  have me₁ : (s.heap.push { cls := .type "tuple", data := .seq [v].toArray }).get? e = some (excObj none t0) := Heap.get?_push_of_some _ me
  repeat lk
  show wpAny _ _ (update e (Obj.mapFields fun x => x.setIfInBounds 0 (.ref s.heap.objs.size))) _ _ _
  refine wpAny_update me₁ ?_
  show wpAny _ _ (letGo [.ref t0]) _ _ _
  refine wpAny_letGo (wpAny_pure (hq _ s.heap.objs.size (fun b o hb q => ?_) (Heap.get?_update_self _ me₁ rfl)))
  rw [Heap.get?_update_other _ _ (Ne.symm hb)]
  exact Heap.get?_push_of_some _ q
end

/-- the exception e with a dict of its own that holds mA -/
def ExcHas (g h : Heap) (L e : Addr) (mA : Str → Option Value) : Prop :=
  ∃ dx t, h.get? e = some (excObj (some dx) t) ∧ h.Ns1 dx mA ∧ g.get? e = none ∧ g.get? dx = none ∧ dx ≠ L ∧ dx ≠ e ∧ e ≠ L

section
variable {prog : Program} {w : World} {A : Around} {E : Value → Shared → Prop} {s : Shared} {g : Heap} {L e t : Addr} {m : Str → Option Value} {name : Str} {v : Value}
theorem meta_Exception : typeOf (.type "Exception") = pure (.type "type") := by kernel_rfl
/-- what the ground does not hold may change: the frame stands -/
theorem fr_off {h h' : Heap} {W : List Addr} (F : Fr g L h m) (hW : ∀ b ∈ W, g.get? b = none ∧ b ≠ L) (k : ∀ b o, b ∉ W → h.get? b = some o → h'.get? b = some o) : Fr g L h' m where
  ns := by
    obtain ⟨o, es, n, ho, r⟩ := F.ns
    exact ⟨o, es, n, k _ _ (fun hm => (hW _ hm).2 rfl) ho, r⟩
  keep := fun b o q => k b o (fun hm => by rw [(hW _ hm).1] at q; cases q) (F.keep b o q)
  above := F.above
theorem exc_init_K {Q : Value → Shared → Prop} (F : Fr g L s.heap m) (X : (hd.heap_39 w.params).In g) (hge : g.get? e = none) (hL : e ≠ L) (he : s.heap.get? e = some (excObj none t))
    (hq : ∀ h' t', Fr g L h' m → h'.get? e = some (excObj none t') → Q .none { s with heap := h' }) :
    wpAny (model prog w) A (call (.builtin "Exception.__init__") [.ref e, v]) Q E s :=
  init_runs (X.keeps F.keep) he fun h' t' k he' => hq h' t' (fr_off (W := [e]) F (fun b hb => by rw [List.mem_singleton.mp hb]; exact ⟨hge, hL⟩) fun b o hb => k b o fun z => hb (List.mem_singleton.mpr z)) he'

theorem set_first {Q : Unit → Shared → Prop} (F : Fr g L s.heap m) (X : (hd.heap_39 w.params).In g) (hge : g.get? e = none) (hL : e ≠ L) (he : s.heap.get? e = some (excObj none t)) (hf : findIn (hd.heap_39 w.params) (.ref 52) name = some none)
    (hq : ∀ h' tk, Fr g L h' m → ExcHas g h' L e (fun y => if y = name then some v else none) → Q () { s with heap := h', toks := tk }) :
    wpAny (model prog w) A (setAttr (.ref e) name v) Q E s :=
  write_first (X.keeps F.keep) he hf fun h' k D me rest =>
    hq h' k (fr_off (W := [e]) F (fun b hb => by rw [List.mem_singleton.mp hb]; exact ⟨hge, hL⟩) fun b o hb => rest b o fun z => hb (List.mem_singleton.mpr z))
      ⟨_, t, me, D, hge, Heap.get?_none_of_le (Nat.le_trans F.above (Nat.le_of_lt F.ns.lt)), Nat.ne_of_gt F.ns.lt, Nat.ne_of_gt (Heap.lt_size he), hL⟩

theorem set_next {mA : Str → Option Value} {ns : List Str} {Q : Unit → Shared → Prop} (F : Fr g L s.heap m) (X : (hd.heap_39 w.params).In g) (H : ExcHas g s.heap L e mA) (hf : findIn (hd.heap_39 w.params) (.ref 52) name = some none) (hw : Within mA ns) (hsz : ns.length ≤ 1000)
    (hq : ∀ h' tk, Fr g L h' m → ExcHas g h' L e (fun y => if y = name then some v else mA y) → Q () { s with heap := h', toks := tk }) :
    wpAny (model prog w) A (setAttr (.ref e) name v) Q E s := by
  obtain ⟨d, t, he, D, hge, hgd, hdL, hde, hL⟩ := H
  refine write_next (X.keeps F.keep) he hf D hw hsz fun h' k D' same => hq h' k (fr_off (W := [d]) F (fun b hb => by rw [List.mem_singleton.mp hb]; exact ⟨hgd, hdL⟩) fun b o hb q => (same.2 b fun z => hb (List.mem_singleton.mpr z)).trans q) ?_
  exact ⟨d, t, (same.2 e (Ne.symm hde)).trans he, D', hge, hgd, hdL, hde, hL⟩
end
end Mine
end
section
open PySem PySem.W PySem.Spec PySem.Calls PyProof.Rows
set_option maxHeartbeats 8000000
namespace Mine
theorem set_back_Ex5 : True := by
  w_top off
  trivial
end Mine
namespace Mine
theorem fill5 : (hd.heap_39 = hd.heap_39) ∧ PySem.Challenge.rw_or0017_01 = PySem.Challenge.rw_or0017_01 := by
  k_fill
  exact ⟨rfl, rfl⟩
local macro_rules | `(tactic| walk_at "getMethod type:Exception") => `(tactic| (refine method_type (by k_asm) (by k_asm) meta_Exception (by decide +kernel) (by k_is) (by k_handed) ?_))
local macro_rules | `(tactic| walk_at "call builtin:Exception.__init__") => `(tactic| ((refine' exc_init_K ?k1 ?k2 ?k3 ?k4 ?k5 ?_); (case k1 => k_asm); (case k2 => k_asm); (case k3 => assumption); (case k4 => assumption); (case k5 => assumption); intro h' t' F' hE'))
local macro_rules | `(tactic| walk_at "setAttr ref") => `(tactic| (first
  | ((refine' set_next ?k1 ?k2 ?k3 ?k4 ?k5 ?k6 ?_); (case k1 => k_asm); (case k2 => k_asm); (case k3 => assumption); (case k4 => k_is); (case k5 => exact Within.cons _ _ Within.nil); (case k6 => decide); intro h' tk' F' hX')
  | ((refine' set_first ?k1 ?k2 ?k3 ?k4 ?k5 ?k6 ?_); (case k1 => k_asm); (case k2 => k_asm); (case k3 => assumption); (case k4 => assumption); (case k5 => assumption); (case k6 => k_is); intro h' tk' F' hX')))
theorem init_call {prog : Program} {w : World} {p : Program} {loose : List Str} {mean : ExcName → Option Value} {mg mb : Str → Option Value} {dp un : Nat} {gd : Option (List Code)} {l : List Env} {Q E : Value → Shared → Prop} {s : Shared} {g : Heap} {e t : Addr} {what : Str} {tw tn : Tok} {n : Int}
    (X : (hd.heap_39 w.params).In g) (T : Top p loose mean mg mb g) (hg : ∀ b o, g.get? b = some o → s.heap.get? b = some o) (hgs : g.objs.size ≤ s.heap.objs.size) (hge : g.get? e = none) (he : s.heap.get? e = some (excObj none t)) (hd : dp + 4 < recursionLimit)
    (hQ : ∀ h' tk dx t' mA, (∀ b o, g.get? b = some o → h'.get? b = some o) → h'.get? e = some (excObj (some dx) t') → h'.Ns dx mA → mA "at" = some (.int n tn) → g.get? dx = none → dx ≠ e → Q .none { s with heap := h', toks := tk }) :
    wpAny (model prog w) (Ar dp un gd l) (call (.ref 29) [.ref e, .str what tw, .int n tn]) Q E s := by
  refine' enterG (binds := [(Str.ofString "self", .ref e), (Str.ofString "what", .str what tw), (Str.ofString "at", .int n tn)]) X T.nolimit hg hgs ?k1 ?k2 ?k3 ?k4 ?k5 ?_ ?c1 ?c2 ?c3 ?c4
  (case k1 => k_is); (case k2 => k_is); (case k3 => show dp < _; omega)
  (case k4 => exact binds_K (X.keeps hg) rfl (by k_is) rfl rfl rfl); (case k5 => exact locs rfl); (case c1 => rfl); (case c2 => rfl); (case c3 => rfl); (case c4 => decide)
  intro L h₁ hL F hk₁
  have heL : e ≠ L := by rw [hL]; exact Nat.ne_of_lt (Heap.lt_size he)
  replace he := hk₁ _ _ he
  have N : News g L h₁ [] := News.nil
  w_strict ((show wpAny _ _ _ _ _ _); k_fold; k_steps)
  rename Fr _ _ _ _ => F9
  rename ExcHas _ _ _ _ _ => H9
  obtain ⟨dx, t', he', hns, _, hgd, _, hde, _⟩ := H9
  exact hQ _ _ dx t' _ F9.keep he' hns.ns rfl hgd hde
end Mine
end
section
open PySem PySem.W PySem.Spec PySem.Calls PyProof.Rows
set_option maxHeartbeats 8000000
namespace Mine
theorem under_made {dp un : Nat} {gd : Option (List Code)} {l : List Env} {args : Args} (hp : args.pos.head? = some (.ref 52)) : ∃ un', (Ar dp un gd l).under (.builtin "type.__call__" args) = Ar (dp + 1) un' gd l := by
  obtain ⟨pos, kw⟩ := args
  cases pos with
  | nil => cases hp
  | cons a r =>
    obtain rfl : a = .ref 52 := Option.some.inj hp
    refine ⟨un + (Code.builtin "type.__call__" ⟨.ref 52 :: r, kw⟩).cUnits, ?_⟩
    unfold Around.under
    have h1 : (Code.builtin "type.__call__" ⟨.ref 52 :: r, kw⟩).weight = 1 := rfl
    have h2 : (Code.builtin "type.__call__" ⟨.ref 52 :: r, kw⟩).envs = [] := rfl
    have h3 : (Code.builtin "type.__call__" ⟨.ref 52 :: r, kw⟩).guards = [] := rfl
    rw [h1, h2, h3]
    rfl

theorem word_made {prog : Program} {w : World} {p : Program} {loose : List Str} {mean : ExcName → Option Value} {mg mb : Str → Option Value} {dp un : Nat} {gd : Option (List Code)} {l : List Env} {Q E : Value → Shared → Prop} {s : Shared} {what : Str} {tw tn : Tok} {n : Int}
    (X : (hd.heap_39 w.params).In s.heap) (T : Top p loose mean mg mb s.heap) (hd : dp + 6 < recursionLimit)
    (hQ : ∀ h' tk e dx t' mA, (∀ b o, s.heap.get? b = some o → h'.get? b = some o) → s.heap.get? e = none → h'.get? e = some (excObj (some dx) t') → h'.Ns dx mA → mA "at" = some (.int n tn) → dx ≠ e → s.heap.get? dx = none → Q (.ref e) { s with heap := h', toks := tk }) :
    wpAny (model prog w) (Ar dp un gd l) (call (.ref 52) [.str what tw, .int n tn]) Q E s := by
  have under : ∃ un', (Ar dp un gd l).under (.builtin "type.__call__" ⟨[.ref 52, .str what tw, .int n tn], []⟩) = Ar (dp + 1) un' gd l := under_made rfl
  obtain ⟨un', eA⟩ := under
  refine word_call X (by rw [sizeLine_eq]; exact Nat.le_of_ble_eq_true rfl) ?_
  rw [eA]
  -- the new object is hidden from the ground that __init__ is walked over
  generalize hH : (s.heap.push (tupOf [.str what tw, .int n tn])).push (bare s.heap.objs.size) = H
  have me : H.get? (s.heap.objs.size + 1) = some (excObj none s.heap.objs.size) := by rw [← hH]; exact Heap.get?_push_at (by rw [Heap.size_push]) rfl
  have new : s.heap.get? (s.heap.objs.size + 1) = none := Heap.get?_none_of_le (Nat.le_succ _)
  have under : ∀ b o, s.heap.get? b = some o → (hideAll H [s.heap.objs.size + 1]).get? b = some o := fun b o q => by
    refine hideAll_get _ (by rw [← hH]; exact Heap.get?_push_of_some _ (Heap.get?_push_of_some _ q)) fun z => ?_
    rw [List.mem_singleton.mp z, new] at q; cases q
  refine init_call (X.keeps under) (T.keeps under) (fun _ _ q => of_hideAll _ q) (Nat.le_of_eq (hideAll_size _ _)) (hideAll_none _ (.head _)) me (by omega) fun h' tk dx t' mA k me' D hat off ne => ?_
  refine ⟨rfl, hQ h' tk _ dx t' mA (fun b o q => k b o (under b o q)) new me' D hat ne ?_⟩
  cases q : s.heap.get? dx with
  | none => rfl
  | some o => exact nomatch off.symm.trans (under _ _ q)
end Mine
end
section
open PySem PySem.W PySem.Spec PySem.Calls PyProof.Rows
set_option maxHeartbeats 800000
namespace Mine
abbrev frs (l : List Env) : List Addr := l.filterMap (·.frame)

/-! ## A heap that moves on
From h to h' no object is lost: off the frames S and the records W all stands as it stood; a frame may have new slots; a record of W keeps its class and its dict. -/
structure Moved (S W : List Addr) (h h' : Heap) : Prop where
  off : ∀ b o, b ∉ S → b ∉ W → h.get? b = some o → h'.get? b = some o
  slot : ∀ b o, b ∉ W → h.get? b = some o → ∃ sl, h'.get? b = some { o with slots := sl }
  head : ∀ b o, h.get? b = some o → ∃ o', h'.get? b = some o' ∧ o'.cls = o.cls ∧ o'.dict = o.dict

section
variable {S S' W W' : List Addr} {h h₁ h' : Heap} {a e T : Addr} {i : Nat} {v x : Value}
theorem Moved.trans (p : Moved S W h h₁) (q : Moved S' W' h₁ h') : Moved (S ++ S') (W ++ W') h h' where
  off b o n k z := by
    rw [List.mem_append, not_or] at n k
    exact q.off b o n.2 k.2 (p.off b o n.1 k.1 z)
  slot b o k z := by
    rw [List.mem_append, not_or] at k
    obtain ⟨_, z₁⟩ := p.slot b o k.1 z
    obtain ⟨sl, z₂⟩ := q.slot b _ k.2 z₁
    exact ⟨sl, z₂⟩
  head b o z := by
    obtain ⟨o₁, z₁, c₁, d₁⟩ := p.head b o z
    obtain ⟨o₂, z₂, c₂, d₂⟩ := q.head b o₁ z₁
    exact ⟨o₂, z₂, c₂.trans c₁, d₂.trans d₁⟩
theorem Moved.weak (p : Moved S W h h') (s : ∀ b ∈ S, b ∈ S') (w : ∀ b ∈ W, b ∈ W') : Moved S' W' h h' :=
  ⟨fun b o n k => p.off b o (fun z => n (s b z)) fun z => k (w b z), fun b o k => p.slot b o fun z => k (w b z), p.head⟩
theorem Moved.frames (x : Heap.SlotsOnly S h h') : Moved S [] h h' where
  off b o n _ z := (x.2.1 b n).trans z
  slot b o _ z := x.2.2 b o z
  head b o z := (x.2.2 b o z).elim fun _ z' => ⟨_, z', rfl, rfl⟩
theorem Moved.push (o : Obj) : Moved [] [] h (h.push o) where
  off _ _ _ _ z := Heap.get?_push_of_some o z
  slot _ p _ z := ⟨p.slots, Heap.get?_push_of_some o z⟩
  head _ p z := ⟨p, Heap.get?_push_of_some o z, rfl, rfl⟩
/-- nothing but records has changed besides slots -/
theorem Moved.ups (p : Moved S W h h') (w : ∀ b ∈ W, ∃ o vs, h.get? b = some o ∧ o.data = .fields vs) : h.UpToSlots h' := fun b o z n =>
  p.slot b o (fun k => by obtain ⟨o', vs, z', d⟩ := w b k; rw [z] at z'; cases z'; exact n vs d) z

/-! ## What a record holds -/
def Holds (h : Heap) (a : Addr) (i : Nat) (v : Value) : Prop := ∃ o vs, h.get? a = some o ∧ o.data = .fields vs ∧ vs[i]? = some v
theorem Holds.rec_ (H : Holds h a i v) : ∃ o vs, h.get? a = some o ∧ o.data = .fields vs := by
  obtain ⟨o, vs, z, d, _⟩ := H
  exact ⟨o, vs, z, d⟩
theorem Holds.moved (H : Holds h a i v) (p : Moved S W h h') (n : a ∉ W) : Holds h' a i v := by
  obtain ⟨o, vs, z, d, k⟩ := H
  obtain ⟨sl, z'⟩ := p.slot a o n z
  exact ⟨_, vs, z', d, k⟩
theorem Holds.lt (H : Holds h a i v) : a < h.objs.size := by
  obtain ⟨o, _, z, _⟩ := H
  exact Heap.lt_size z

variable {M : Model} {A : Around} {E : Value → Shared → Prop} {s : Shared}
theorem get_field {Q : Value → Shared → Prop} (H : Holds s.heap a i v) (q : Q v s) : wpAny M A (field (.ref a) i) Q E s := by
  obtain ⟨o, vs, z, d, k⟩ := H
  exact wpAny_field z d k q
theorem put_field {Q : Unit → Shared → Prop} (H : Holds s.heap a i v) (q : ∀ h', Moved [] [a] s.heap h' → Holds h' a i x → Q () { s with heap := h' }) : wpAny M A (setField (.ref a) i x) Q E s := by
  obtain ⟨o, vs, z, d, k⟩ := H
  have lt : i < vs.size := (Array.getElem?_eq_some_iff.mp k).1
  have d' := Obj.data_mapFields d (·.setIfInBounds i x)
  have z' := Heap.get?_update_self (Obj.mapFields (·.setIfInBounds i x)) z (Obj.isFreed_of_fields d')
  have other : ∀ b p, b ≠ a → s.heap.get? b = some p → (s.heap.update a (Obj.mapFields (·.setIfInBounds i x))).get? b = some p := fun b p n y => by rw [Heap.get?_update_other _ _ (Ne.symm n)]; exact y
  refine wpAny_setField z d lt (q _ ⟨fun b p _ n => other b p fun y => n (List.mem_singleton.mpr y), fun b p n y => ⟨p.slots, other b p (fun y => n (List.mem_singleton.mpr y)) y⟩, fun b p y => ?_⟩ ⟨_, _, z', d', by simp [lt]⟩)
  by_cases hb : b = a
  · subst hb
    obtain rfl : o = p := Option.some.inj (z.symm.trans y)
    obtain ⟨c, dd, dt, sl⟩ := o
    cases dt <;> exact ⟨_, z', rfl, rfl⟩
  · exact ⟨p, other b p hb y, rfl, rfl⟩
theorem not_none (a : Addr) : (Value.ref a != Value.none) = true := rfl
theorem none_raw (f : Addr) : (Value.none == rawInt f) = false := rfl

/-- the head's entry is laid: e's first field points at a new record, in flight in the frame L -/
theorem entry_laid {B : Heap} {env : Env} {l : List Env} {L : Addr} {head : Value} {b : Bool} {Q : Unit → Shared → Prop} (hfr : A.frames = some (env :: l)) (FF : s.heap.FunFrames B (env :: l)) (hf : env.frame = some L) (H : Holds s.heap e 1 v)
    (q : ∀ h' T, Moved (frs (env :: l)) [e] s.heap h' → s.heap.objs.size ≤ T → Holds h' e 1 (.ref T) → Holds h' T 3 (rawInt L) → Q () { s with heap := h' }) :
    wpAny M A (do let a ← frameOf env; let pl ← entryPlaceOf L b; let n ← EntryCells.newEntry head a .none (rawInt L) .none pl; setField (.ref e) 1 n) Q E s := by
  refine wpAny_bind (wpAny_frameOf_fun hfr FF hf fun h₁ x => wpAny_bind (wpAny_entryPlaceOf fun pl hpl => wpAny_bind (wpAny_newObj_type ?_ (hpl.sizeOk5 _ _ _ _ _))))
  have p₁ := Moved.frames x
  have H₁ := H.moved p₁ (List.not_mem_nil)
  have H₂ := fun o => H₁.moved (Moved.push o) (List.not_mem_nil)
  refine put_field (H₂ _) fun h' p₃ H₃ => q h' h₁.objs.size ((p₁.trans ((Moved.push _).trans p₃)).weak (fun b k => by simpa using k) fun b k => by simpa using k) (Nat.le_of_eq x.1.symm) H₃ ?_
  exact Holds.moved ⟨_, _, Heap.get?_push_size h₁ rfl, rfl, rfl⟩ p₃ fun k => Nat.lt_irrefl _ (by have := H₁.lt; rwa [← List.mem_singleton.mp k] at this)
end

/-! ## The exception in flight -/
/-- the WordFault e with the dict dx, in flight: what B holds stands, the frames of l stand, and the entry that e points at says fl -/
structure FlyD (B : Heap) (l : List Env) (e dx : Addr) (fl : Value) (h : Heap) : Prop where
  stays : B.StaysIn h
  new : B.get? e = none
  frames : h.FunFrames B l
  cls : ∃ o, h.get? e = some o ∧ o.cls = .ref 52 ∧ o.dict = some dx
  aim : ∃ T, B.get? T = none ∧ T ≠ e ∧ Holds h e 1 (.ref T) ∧ Holds h T 3 fl

section
variable {M : Model} {A : Around} {E : Value → Shared → Prop} {s : Shared} {B h h' : Heap} {env : Env} {l : List Env} {L e dx : Addr} {fl : Value} {Q : Unit → Shared → Prop}
theorem FlyD.obj (F : FlyD B l e dx fl h) : ∃ o vs, h.get? e = some o ∧ o.cls = .ref 52 ∧ o.dict = some dx ∧ o.data = .fields vs := by
  obtain ⟨o, z, c, d⟩ := F.cls
  obtain ⟨_, _, _, H, _⟩ := F.aim
  obtain ⟨o', vs, z', d'⟩ := H.rec_
  obtain rfl : o = o' := Option.some.inj (z.symm.trans z')
  exact ⟨o, vs, z, c, d, d'⟩
/-- the flight goes on over a heap that has moved on by records that B does not hold -/
theorem fly_on {W : List Addr} (st : B.StaysIn h) (new : B.get? e = none) (FF : h.FunFrames B l) (c : ∃ o, h.get? e = some o ∧ o.cls = .ref 52 ∧ o.dict = some dx) (p : Moved (frs l) W h h')
    (w : ∀ b ∈ W, B.get? b = none ∧ ∃ o vs, h.get? b = some o ∧ o.data = .fields vs) (aim : ∃ T, B.get? T = none ∧ T ≠ e ∧ Holds h' e 1 (.ref T) ∧ Holds h' T 3 fl) : FlyD B l e dx fl h' ∧ h.UpToSlots h' := by
  have up := p.ups fun b k => (w b k).2
  have absent : ∀ {b o}, B.get? b = some o → B.get? b ≠ none := fun z n => by rw [z] at n; cases n
  refine ⟨⟨fun b o z => p.off b o (fun k => absent z (FF.mem k).1) (fun k => absent z (w b k).1) (st b o z), new, FF.of_keeps fun b o z n => ?_, ?_, aim⟩, up⟩
  · obtain ⟨_, z'⟩ := up b o z n
    exact ⟨_, z', rfl⟩
  · obtain ⟨o, z, k, d⟩ := c
    obtain ⟨o', z', k', d'⟩ := p.head e o z
    exact ⟨o', z', k'.trans k, d'.trans d⟩

theorem note_first (hfr : A.frames = some (env :: l)) (FF : s.heap.FunFrames B (env :: l)) (hf : env.frame = some L) (st : B.StaysIn s.heap) (new : B.get? e = none) (c : ∃ o, s.heap.get? e = some o ∧ o.cls = .ref 52 ∧ o.dict = some dx) (H : Holds s.heap e 1 .none)
    (q : ∀ h', FlyD B (env :: l) e dx (rawInt L) h' → s.heap.UpToSlots h' → Q () { s with heap := h' }) : wpAny M A (noteFrame (.ref e) env) Q E s := by
  unfold noteFrame
  rw [hf]
  refine wpAny_bind (get_field H (entry_laid hfr FF hf H fun h' T p hT H' HT => ?_))
  have go := fly_on (fl := rawInt L) st new FF c p (fun b k => by rw [List.mem_singleton.mp k]; exact ⟨new, H.rec_⟩) ⟨T, ?_, ?_, H', HT⟩
  · exact q h' go.1 go.2
  · cases z : B.get? T with
    | none => rfl
    | some o => exact absurd (Heap.lt_size (st _ _ z)) (Nat.not_lt.mpr hT)
  · exact Nat.ne_of_gt (Nat.lt_of_lt_of_le H.lt hT)

theorem note_next (hfr : A.frames = some (env :: l)) (hf : env.frame = some L) (F : FlyD B (env :: l) e dx .none s.heap)
    (q : ∀ h', FlyD B (env :: l) e dx (rawInt L) h' → s.heap.UpToSlots h' → Q () { s with heap := h' }) : wpAny M A (noteFrame (.ref e) env) Q E s := by
  obtain ⟨st, new, FF, c, T, nT, ne, He, HT⟩ := F
  unfold noteFrame
  rw [hf]
  refine wpAny_bind (get_field He ?_)
  rw [not_none, if_pos rfl]
  refine wpAny_bind (get_field HT ?_)
  rw [none_raw, if_neg Bool.false_ne_true]
  refine wpAny_bind (put_field (x := .none) HT fun h₁ p₁ _ => ?_)
  have mid : h₁.FunFrames B (env :: l) := FF.of_keeps fun b o z n => by
    obtain ⟨_, z'⟩ := p₁.ups (fun b k => by rw [List.mem_singleton.mp k]; exact HT.rec_) b o z n
    exact ⟨_, z', rfl⟩
  have off : e ∉ [T] := fun k => ne (List.mem_singleton.mp k).symm
  refine entry_laid hfr mid hf (He.moved p₁ off) fun h' T' p₂ hT' H' HT' => ?_
  have st₁ : h₁.objs.size ≤ T' := hT'
  have keep : B.StaysIn h₁ := fun b o z => p₁.off b o (List.not_mem_nil) (fun k => by rw [List.mem_singleton.mp k, nT] at z; cases z) (st b o z)
  have go := fly_on (fl := rawInt L) st new FF c (W := [T, e]) ((p₁.trans p₂).weak (fun b k => by simpa using k) fun b k => by simpa using k) (fun b k => ?_) ⟨T', ?_, ?_, H', HT'⟩
  · exact q h' go.1 go.2
  · rcases List.mem_cons.mp k with z | z
    · rw [z]; exact ⟨nT, HT.rec_⟩
    · rw [List.mem_singleton.mp z]; exact ⟨new, He.rec_⟩
  · cases z : B.get? T' with
    | none => rfl
    | some o => exact absurd (Heap.lt_size (keep _ _ z)) (Nat.not_lt.mpr hT')
  · exact Nat.ne_of_gt (Nat.lt_of_lt_of_le (He.moved p₁ off).lt hT')

theorem set_none (F : FlyD B l e dx fl s.heap) (q : ∀ h', FlyD B l e dx .none h' → s.heap.UpToSlots h' → Q () { s with heap := h' }) : wpAny M A (setFlight (.ref e) none) Q E s := by
  obtain ⟨st, new, FF, c, T, nT, ne, He, HT⟩ := F
  unfold setFlight
  refine wpAny_bind (get_field He ?_)
  rw [not_none, if_pos rfl]
  refine put_field HT fun h' p H' => ?_
  have go := fly_on (fl := .none) st new FF c (W := [T]) (p.weak (fun _ k => nomatch k) fun _ k => k) (fun b k => by rw [List.mem_singleton.mp k]; exact ⟨nT, HT.rec_⟩) ⟨T, nT, ne, He.moved p fun k => ne (List.mem_singleton.mp k).symm, H'⟩
  exact q h' go.1 go.2
end

structure Thrown (l : List Env) (h h' : Heap) (e : Addr) (n : Int) : Prop where
  ups : h.UpToSlots h'
  fly : ∃ B dx mA tn, (∀ b o, h.get? b = some o → b ∉ frs l → B.get? b = some o) ∧ FlyD B l e dx .none h' ∧ B.Ns dx mA ∧ mA "at" = some (.int n tn)

section
variable {M : Model} {A : Around} {E : Value → Shared → Prop} {s : Shared} {base h g h₁ : Heap} {env : Env} {l : List Env} {L e dx t : Addr} {m mA : Str → Option Value} {n : Int} {tn : Tok} {Q : Unit → Shared → Prop}
theorem none_of {a b : Heap} (k : ∀ x o, a.get? x = some o → b.get? x = some o) {x : Addr} (e : b.get? x = none) : a.get? x = none := by
  cases q : a.get? x with
  | none => rfl
  | some o => have := k _ _ q; rw [e] at this; cases this
theorem fr_self (F : Fr h L g m) : h.get? L = none := Heap.get?_none_of_le F.above
theorem mem_frs (hf : env.frame = some L) {b : Addr} (hm : b ∈ frs (env :: l)) : b = L ∨ b ∈ frs l := by
  unfold frs at hm
  rw [List.filterMap_cons, hf] at hm
  exact List.mem_cons.mp hm
theorem FlyD.tail {B : Heap} {fl : Value} (F : FlyD B (env :: l) e dx fl h) : FlyD B l e dx fl h := ⟨F.stays, F.new, F.frames.2.2, F.cls, F.aim⟩
theorem FlyD.head {B : Heap} {fl : Value} (F : FlyD B (env :: l) e dx fl h) (hf : env.frame = some L) : B.get? L = none := by
  obtain ⟨_, ⟨L', _, hf', hn, _⟩, _⟩ := F.frames
  obtain rfl : L = L' := Option.some.inj (hf.symm.trans hf')
  exact hn

theorem throw_first (hfr : A.frames = some (env :: l)) (hf : env.frame = some L) (hk : env.scope.kind ≠ .module) (hb : base.StaysIn h) (FF : h.FunFrames base l) (F : Fr h L h₁ m) (k : ∀ b o, h₁.get? b = some o → s.heap.get? b = some o)
    (hnew : h₁.get? e = none) (hnd : h₁.get? dx = none) (he : s.heap.get? e = some (excObj (some dx) t)) (hns : s.heap.Ns dx mA) (hat : mA "at" = some (.int n tn)) (hde : dx ≠ e)
    (hQ : ∀ h', Thrown l h h' e n → Q () { s with heap := h' }) : wpAny M A (leaving env (.ref e)) Q E s := by
  have kh : ∀ b o, h.get? b = some o → s.heap.get? b = some o := fun b o q => k b o (F.keep b o q)
  have FF₁ : s.heap.FunFrames base (env :: l) := by
    have z : h₁.FunFrames base (env :: l) := .cons hk hf F.ns (none_of hb (fr_self F)) (FF.of_keeps fun b o e _ => ⟨o, F.keep b o e, rfl⟩)
    exact z.of_keeps fun b o e _ => ⟨o, k b o e, rfl⟩
  have FF₂ : s.heap.FunFrames (hideAll s.heap (e :: frs (env :: l))) (env :: l) := funFrames_hide FF₁ fun v hv a ha => List.mem_cons_of_mem _ (List.mem_filterMap.mpr ⟨v, hv, ha⟩)
  have inh : ∀ b, b ∈ frs (env :: l) → ∃ o, h₁.get? b = some o := fun b hm => by
    rcases mem_frs hf hm with rfl | hm
    · obtain ⟨o, _, _, ho, _⟩ := F.ns
      exact ⟨o, ho⟩
    · obtain ⟨_, o, ho, _⟩ := FF.mem hm
      exact ⟨o, F.keep _ _ ho⟩
  have hdx : dx ∉ e :: frs (env :: l) := fun hm => by
    rcases List.mem_cons.mp hm with z | z
    · exact hde z
    · obtain ⟨o, ho⟩ := inh _ z
      rw [hnd] at ho; cases ho
  unfold leaving
  refine wpAny_bind (note_first (B := hideAll s.heap (e :: frs (env :: l))) hfr FF₂ hf (fun b o q => of_hideAll _ q) (hideAll_none _ (List.mem_cons_self)) ⟨_, he, rfl, rfl⟩ ⟨_, _, he, rfl, rfl⟩ fun h2 F2 u2 => ?_)
  refine set_none F2 fun h3 F3 u3 => hQ h3 ⟨(Heap.UpToSlots.of_keeps kh).trans (u2.trans u3), _, dx, mA, tn, fun b o q nm => ?_, F3.tail, ?_, hat⟩
  · refine hideAll_get _ (kh b o q) fun hm => ?_
    rcases List.mem_cons.mp hm with z | z
    · have z2 := F.keep b o q
      rw [z, hnew] at z2; cases z2
    · rcases mem_frs hf z with rfl | z
      · rw [fr_self F] at q; cases q
      · exact nm z
  · obtain ⟨o, es, ep, ho, r⟩ := hns
    exact ⟨o, es, ep, hideAll_get _ ho hdx, r⟩

theorem throw_next (hfr : A.frames = some (env :: l)) (hf : env.frame = some L) (F : Fr h L g m) (R : Thrown (env :: l) g s.heap e n)
    (hQ : ∀ h', Thrown l h h' e n → Q () { s with heap := h' }) : wpAny M A (leaving env (.ref e)) Q E s := by
  obtain ⟨u, B, dx, mA, tn, kB, FL, hns, hat⟩ := R
  unfold leaving
  refine wpAny_bind (note_next hfr hf FL fun h2 F2 u2 => ?_)
  refine set_none F2 fun h3 F3 u3 => hQ h3 ⟨(Heap.UpToSlots.of_keeps F.keep).trans (u.trans (u2.trans u3)), B, dx, mA, tn, fun b o q nm => ?_, F3.tail, hns, hat⟩
  refine kB b o (F.keep b o q) fun hm => ?_
  rcases mem_frs hf hm with rfl | z
  · rw [fr_self F] at q; cases q
  · exact nm z
end

/-- what a reader of e.at finds -/
def ExcAt (h : Heap) (e : Addr) (n : Int) : Prop :=
  ∃ o dx mA tn, h.get? e = some o ∧ o.cls = .ref 52 ∧ notCls o = true ∧ o.dict = some dx ∧ h.Ns dx mA ∧ mA "at" = some (.int n tn)
theorem getattr_at {prog : Program} {w : World} {A : Around} {E : Value → Shared → Prop} {s : Shared} {g : Heap} {e : Addr} {n : Int} {expr : Bool} {Q : Value → Shared → Prop} (X : (hd.heap_39 w.params).In g) (k : ∀ b o, g.get? b = some o → s.heap.get? b = some o) (hf : findIn (hd.heap_39 w.params) (.ref 52) "at" = some none)
    (H : ExcAt s.heap e n) (hq : ∀ tn tk, Q (.int n tn) { s with toks := tk }) : wpAny (model prog w) A (getAttr (.ref e) "at" expr) Q E s := by
  obtain ⟨o, dx, mA, tn, he, hc, hn, hd, D, hat⟩ := H
  exact read_runs (X.keeps k) he hc hn hd D hat hf (hq tn)
end Mine
end
section
open PySem PySem.W PySem.Spec PySem.Calls PyProof.Rows
set_option maxHeartbeats 800000
namespace Mine
theorem set_back_Th2 : True := by
  w_top off
  trivial
end Mine
namespace Mine
theorem fill6 : (hd.heap_39 = hd.heap_39) ∧ PySem.Challenge.rw_or0017_01 = PySem.Challenge.rw_or0017_01 := by
  k_fill
  exact ⟨rfl, rfl⟩
def Raised52 (E : Value → Shared → Prop) (v : Value) (s₁ : Shared) : Prop :=
  ∃ e dx t, v = .ref e ∧ s₁.heap.get? 52 = some wordObj ∧ s₁.heap.get? e = some (excObj (some dx) t) ∧ E (.ref e) s₁
theorem pk_alone {S : Setting} : peek [(52, wordObj)] S (isSubtype (.ref 52) (.type "BaseException")) = some true := by kernel_rfl
section
variable {M : Model} {A : Around} {E : Value → Shared → Prop} {s : Shared} {env : Env} {Q : Flow → Shared → Prop}
/-- a WordFault is what raise raises: it is no class, and a BaseException -/
theorem word_raises {h : Heap} {e dx t : Addr} {why : String} (hC : h.get? 52 = some wordObj) (me : h.get? e = some (excObj (some dx) t)) : Looks M h (excFromValue (.ref e) why) (.ref e) := by
  have one : Frag.In [(52, wordObj)] h := fun a o q => by
    unfold List.lookup at q
    split at q
    · rename_i z
      rw [beq_iff_eq.mp z]
      exact hC.trans q
    · cases q
  have T : Looks M h (typeOf (.ref e)) (.ref 52) := (Looks.ld me).andThen .now
  have I : Looks M h (isInstance (.ref e) (.type "BaseException")) true := T.andThen (.of_peek one pk_alone)
  have K : Looks M h (isType (.ref e)) false := (Looks.ld (part := none) me).andThen .now
  have N : Looks M h (isExcClass (.ref e)) false := K.andThen .now
  refine N.andThen ?_
  rw [if_neg Bool.false_ne_true]
  exact I.andThen .now
theorem word_itself {h : Heap} {e dx t : Addr} (hC : h.get? 52 = some wordObj) (me : h.get? e = some (excObj (some dx) t)) : Looks M h (raisedInstance (.ref e)) (.ref e) := by
  have T : Looks M h (typeOf (.ref e)) (.ref 52) := (Looks.ld me).andThen .now
  have C : Looks M h (typeOf (.ref 52)) (.type "type") := (Looks.ld hC).andThen .now
  exact T.andThen (C.andThen .now)
theorem raise_word_stmt {x : Sem Value} (hh : A.handled = none) (h : wpAny M A x (Raised52 E) E s) : wpAny M A (raiseStmt env (some x) none) Q E s := by
  unfold raiseStmt
  refine wpAny_bind (wpAny_mono h (fun v s₁ z => ?_) fun _ _ z => z)
  obtain ⟨e, dx, t, rfl, hC, me, hE⟩ := z
  have R := word_raises (M := M) (why := "exceptions must derive from BaseException") hC me
  have K : Looks M s₁.heap (isType (.ref e)) false := (Looks.ld (part := none) me).andThen .now
  have F : Looks M s₁.heap (field (.ref e) 1) .none := ((Looks.ld (part := none) me).andThen .now).andThen .now
  refine wpAny_bind (wpAny_pure (wpAny_bind (wpAny_holding (R.here ?_))))
  refine wpAny_bind (K.here ?_)
  rw [if_neg Bool.false_ne_true]
  refine wpAny_bind ((word_itself hC me).here (wpAny_bind (wpAny_bind (F.here ?_))))
  rw [if_neg (by decide)]
  exact wpAny_pure (wpAny_raiseNew_none hh hE)
theorem raise_word {x : Expr} {pos : Pos} (hh : A.handled = none) (h : wpAny M A (eval x env) (Raised52 E) E s) : wpAny M A (exec (.Raise (some x) none pos) env) Q E s := by
  rw [arm_exec_Raise]
  refine wpAny_bind (wpAny_standAt (raise_word_stmt hh ?_))
  refine wpAny_bind (wpAny_mono h (fun v s' z => ?_) fun _ _ z => z)
  exact wpAny_bind (wpAny_standAt (wpAny_pure z))
end
end Mine
end
section
open PySem PySem.W PySem.Spec PySem.Calls PyProof.Rows
set_option maxHeartbeats 8000000
namespace Mine
theorem set_back_In3 : True := by
  w_top off
  trivial
end Mine
namespace Mine
local macro_rules | `(tactic| walk_at "call builtin:len") => `(tactic| ((with_reducible show wpAny _ _ (call (Value.builtin "len") [Value.bytes (List.toArray _) _]) _ _ _); (refine len_B (by omega) ?_); intro _ _))
local macro_rules | `(tactic| walk_at "compareOp Eq bytes bytes") => `(tactic| refine eq_B ?_)
local macro_rules | `(tactic| walk_at "compareOp NotEq bytes bytes") => `(tactic| refine ne_B ?_)
local macro_rules | `(tactic| walk_at "binaryOp Add bytes bytes") => `(tactic| (refine add_B (by omega) ?_; intro _ _))
local macro_rules | `(tactic| walk_at "subscriptTail") => `(tactic| ((with_reducible show wpAny _ _ (subscriptTail _ _ (Value.bytes (List.toArray _) _) (Value.int _ _)) _ _ _); (refine item_B (by omega) (by omega) (by omega) ?_); intro _ _ hLo hHi))
local macro_rules | `(tactic| walk_at "subscriptTail") => `(tactic| ((with_reducible show wpAny _ _ (subscriptTail _ (Expr.Slice _ _ none _) (Value.bytes (List.toArray _) _) (Value.ref _)) _ _ _); (with_reducible rename Fr _ _ _ _ => F'); (with_reducible rename News _ _ _ _ => N'); (refine slice_B (s := ⟨_, _, _, _, _⟩) F' N' (by omega) (by omega) (by omega) ?_); intro _ _ _ _ _))
local macro_rules | `(tactic| walk_at "compareOp In int bytes") => `(tactic| (refine in_bytes (by omega) (by omega) ?_))
local macro_rules | `(tactic| walk_at "compareOp In int ref") => `(tactic| (refine in_tuple_ints (items := #[Value.int 0 247, Value.int 10 248, Value.int 13 249]) (ns := [0, 10, 13]) ⟨_, Frag.In.keeps (by k_asm) (Fr.keep (by k_asm)) _ _ (by k_is), rfl, _, rfl⟩ (.cons _ _ (.cons _ _ (.cons _ _ .nil))) ?_))
theorem fill7 : (hd.heap_39 = hd.heap_39) ∧ PySem.Challenge.rw_or0017_01 = PySem.Challenge.rw_or0017_01 := by
  k_fill
  exact ⟨rfl, rfl⟩

theorem le1 {x : List UInt8} {k : Nat} (h : (List.take ((k : Int) + 1 - (k : Int)).toNat (List.drop (k : Int).toNat x) == [10]) = true) : lineEnd x k = (k : Int) + 1 := by
  have e : ((k : Int) + 1 - (k : Int)).toNat = 1 := by omega
  rw [e, Int.toNat_natCast] at h
  unfold lineEnd
  rw [if_pos (by simpa using h)]
theorem le2 {x : List UInt8} {k : Nat} (h : (List.take ((k : Int) + 1 - (k : Int)).toNat (List.drop (k : Int).toNat x) == [10]) = false) (h2 : (List.take ((k : Int) + 2 - (k : Int)).toNat (List.drop (k : Int).toNat x) == [13, 10]) = true) : lineEnd x k = (k : Int) + 2 := by
  have e : ((k : Int) + 1 - (k : Int)).toNat = 1 := by omega
  have e2 : ((k : Int) + 2 - (k : Int)).toNat = 2 := by omega
  rw [e, Int.toNat_natCast] at h
  rw [e2, Int.toNat_natCast] at h2
  unfold lineEnd
  rw [if_neg (by simpa using h), if_pos (by simpa using h2)]
theorem le3 {x : List UInt8} {k : Nat} (h : (List.take ((k : Int) + 1 - (k : Int)).toNat (List.drop (k : Int).toNat x) == [10]) = false) (h2 : (List.take ((k : Int) + 2 - (k : Int)).toNat (List.drop (k : Int).toNat x) == [13, 10]) = false) : lineEnd x k = -1 := by
  have e : ((k : Int) + 1 - (k : Int)).toNat = 1 := by omega
  have e2 : ((k : Int) + 2 - (k : Int)).toNat = 2 := by omega
  rw [e, Int.toNat_natCast] at h
  rw [e2, Int.toNat_natCast] at h2
  unfold lineEnd
  rw [if_neg (by simpa using h), if_neg (by simpa using h2)]

theorem line_end_call {prog : Program} {w : World} {p : Program} {loose : List Str} {mean : ExcName → Option Value} {mg mb : Str → Option Value} {dp un : Nat} {gd : Option (List Code)} {l : List Env} {Q E : Value → Shared → Prop} {s : Shared}
    {x : List UInt8} {td ta : Tok} {k : Nat} (X : (hd.heap_39 w.params).In s.heap) (T : Top p loose mean mg mb s.heap) (hd : dp < recursionLimit) (hsz : x.length ≤ 1048576)
    (hQ : ∀ h' tk t, (∀ b o, s.heap.get? b = some o → h'.get? b = some o) → Q (.int (lineEnd x k) t) { s with heap := h', toks := tk }) :
    wpAny (model prog w) (Ar dp un gd l) (call (.ref 62) [.bytes x.toArray td, .int (k : Int) ta]) Q E s := by
  refine' enterG (g := s.heap) (binds := [(Str.ofString "data", .bytes x.toArray td), (Str.ofString "at", .int (k : Int) ta)]) X T.nolimit (fun _ _ q => q) (Nat.le_refl _) ?k1 ?k2 ?k3 ?k4 ?k5 ?_ ?c1 ?c2 ?c3 ?c4
  (case k1 => k_is); (case k2 => k_is); (case k3 => show dp < _; omega)
  (case k4 => exact BindsTo.of_eq rfl); (case k5 => exact locs rfl); (case c1 => rfl); (case c2 => rfl); (case c3 => rfl); (case c4 => decide)
  intro L h₁ hL F hk₁
  have N : News s.heap L h₁ [] := News.nil
  w_strict ((show wpAny _ _ _ _ _ _); k_fold; k_steps)
  · have e := le1 (by assumption)
    rw [e] at hQ
    exact hQ _ _ _ (Fr.keep (by assumption))
  · have e := le2 (by assumption) (by assumption)
    rw [e] at hQ
    exact hQ _ _ _ (Fr.keep (by assumption))
  · have e := le3 (by assumption) (by assumption)
    rw [e] at hQ
    exact hQ _ _ _ (Fr.keep (by assumption))
end Mine
end
section
open PySem PySem.W PySem.Spec PySem.Calls PyProof.Rows
set_option maxHeartbeats 8000000
local macro_rules | `(tactic| walk_at "pad In4 0") => `(tactic| skip)
namespace Mine
theorem set_back_In4 : True := by
  w_top off
  trivial
end Mine
namespace Mine
local macro_rules | `(tactic| walk_at "call builtin:len") => `(tactic| ((with_reducible show wpAny _ _ (call (Value.builtin "len") [Value.bytes (List.toArray _) _]) _ _ _); (refine len_B (by omega) ?_); intro _ _))
local macro_rules | `(tactic| walk_at "compareOp Eq bytes bytes") => `(tactic| refine eq_B ?_)
local macro_rules | `(tactic| walk_at "compareOp NotEq bytes bytes") => `(tactic| refine ne_B ?_)
local macro_rules | `(tactic| walk_at "binaryOp Add bytes bytes") => `(tactic| (refine add_B (by omega) ?_; intro _ _))
local macro_rules | `(tactic| walk_at "subscriptTail") => `(tactic| ((with_reducible show wpAny _ _ (subscriptTail _ _ (Value.bytes (List.toArray _) _) (Value.int _ _)) _ _ _); (refine item_B (by omega) (by omega) (by omega) ?_); intro _ _ hLo hHi))
local macro_rules | `(tactic| walk_at "subscriptTail") => `(tactic| ((with_reducible show wpAny _ _ (subscriptTail _ (Expr.Slice _ _ none _) (Value.bytes (List.toArray _) _) (Value.ref _)) _ _ _); (with_reducible rename Fr _ _ _ _ => F'); (with_reducible rename News _ _ _ _ => N'); (refine slice_B (s := ⟨_, _, _, _, _⟩) F' N' (by omega) (by omega) (by omega) ?_); intro _ _ _ _ _))
local macro_rules | `(tactic| walk_at "compareOp In int bytes") => `(tactic| (refine in_bytes (by omega) (by omega) ?_))
local macro_rules | `(tactic| walk_at "compareOp In int ref") => `(tactic| (refine in_tuple_ints (items := #[Value.int 0 247, Value.int 10 248, Value.int 13 249]) (ns := [0, 10, 13]) ⟨_, Frag.In.keeps (by k_asm) (Fr.keep (by k_asm)) _ _ (by k_is), rfl, _, rfl⟩ (.cons _ _ (.cons _ _ (.cons _ _ .nil))) ?_))
theorem fill8 : (hd.heap_39 = hd.heap_39) ∧ PySem.Challenge.rw_or0017_01 = PySem.Challenge.rw_or0017_01 := by
  k_fill
  exact ⟨rfl, rfl⟩


local macro_rules | `(tactic| walk_at "exec Raise some none") => `(tactic| (refine raise_word rfl ?_))
local macro_rules | `(tactic| walk_at "call ref") => `(tactic| ((show wpAny _ _ (call (Value.ref 62) _) _ _ _); (with_reducible rename Fr _ _ _ _ => F'); (with_reducible rename News _ _ _ _ => N'); (refine' line_end_call ?k1 ?k2 ?k3 ?k4 ?_); (case k1 => exact Frag.In.keeps (by k_asm) F'.keep); (case k2 => exact Top.keeps (by k_asm) F'.keep); (case k3 => show _ + 1 < _; (try dsimp only [Ar]); omega); (case k4 => omega); intro h' tk' t' kp'; have F2' := F'.keeps kp'; have N2' := N'.grown kp'))
local macro_rules | `(tactic| walk_at "call ref") => `(tactic| ((show wpAny _ _ (call (Value.ref 52) _) _ _ _); (with_reducible rename Fr _ _ _ _ => F'); (refine' word_made ?k1 ?k2 ?k3 ?_); (case k1 => exact Frag.In.keeps (by k_asm) F'.keep); (case k2 => exact Top.keeps (by k_asm) F'.keep); (case k3 => show _ + 1 + 6 < _; (try dsimp only [Ar]); omega); intro h' tk' e' d' t' mA' kp' hn' he' hns' hat' hde' hnd'; refine ⟨e', d', t', rfl, kp' _ _ (word_obj (Frag.In.keeps (by k_asm) F'.keep)), he', ?_⟩; k_unfold; refine throw_first rfl rfl (by intro q; cases q) (Below.stays (by assumption)) (Below.frames (by assumption)) F' kp' hn' hnd' he' hns' hat' hde' ?_; intro h2' R'))

section
variable {x : List UInt8} {k : Nat}
theorem k1 : ((k : Int) + 1).toNat = k + 1 := by omega
theorem k21 : ((k : Int) + 2 - ((k : Int) + 1)).toNat = 1 := by omega
theorem k10 : ((k : Int) + 1 - (k : Int)).toNat = 1 := by omega
theorem inB (h : ¬ (x.length : Int) ≤ (k : Int)) (h1 : ((x.getD (k : Int).toNat 0).toNat : Int) = 92) (h2 : (k : Int) + 1 = x.length) : inside (x.drop k) = .over := ins_over2 h h1 h2
theorem inC (h : ¬ (x.length : Int) ≤ (k : Int)) (h1 : ((x.getD (k : Int).toNat 0).toNat : Int) = 92) (h2 : (k : Int) + 1 ≠ x.length) (h3 : (([0, 10, 13] : List Int).any fun y => y == ((x.getD ((k : Int) + 1).toNat 0).toNat : Int)) = true) : inside (x.drop k) = .bad := by
  rw [any_never, k1] at h3
  rw [ins_esc h h1 h2, if_pos h3]
theorem inD (h : ¬ (x.length : Int) ≤ (k : Int)) (h1 : ((x.getD (k : Int).toNat 0).toNat : Int) = 92) (h2 : (k : Int) + 1 ≠ x.length) (h3 : (([0, 10, 13] : List Int).any fun y => y == ((x.getD ((k : Int) + 1).toNat 0).toNat : Int)) = false) :
    inside (x.drop k) = .ok (List.take ((k : Int) + 2 - ((k : Int) + 1)).toNat (List.drop ((k : Int) + 1).toNat x)) 2 := by
  rw [any_never, k1] at h3
  rw [ins_esc h h1 h2, if_neg (by rw [h3]; exact Bool.false_ne_true), k1, k21, take_one (by omega)]
theorem inE (h : ¬ (x.length : Int) ≤ (k : Int)) (h1 : ((x.getD (k : Int).toNat 0).toNat : Int) ≠ 92) (h2 : 0 ≤ lineEnd x k) : inside (x.drop k) = .ok [] (lineEnd x k - k).toNat := by
  rw [ins_plain h h1, if_pos h2]
theorem inE' (h2 : 0 ≤ lineEnd x k) : lineEnd x k = ((k + (lineEnd x k - k).toNat : Nat) : Int) := by
  have h : lineEnd x k = (k : Int) + 1 ∨ lineEnd x k = (k : Int) + 2 ∨ lineEnd x k = -1 := by
    unfold lineEnd
    split
    · exact .inl rfl
    · split
      · exact .inr (.inl rfl)
      · exact .inr (.inr rfl)
  omega
theorem inF (h : ¬ (x.length : Int) ≤ (k : Int)) (h1 : ((x.getD (k : Int).toNat 0).toNat : Int) ≠ 92) (h2 : ¬ 0 ≤ lineEnd x k) (h3 : (([0, 10, 13] : List Int).any fun y => y == ((x.getD (k : Int).toNat 0).toNat : Int)) = true) : inside (x.drop k) = .bad := by
  rw [any_never, Int.toNat_natCast] at h3
  rw [ins_plain h h1, if_neg h2, if_pos h3]
theorem inG (h : ¬ (x.length : Int) ≤ (k : Int)) (h1 : ((x.getD (k : Int).toNat 0).toNat : Int) ≠ 92) (h2 : ¬ 0 ≤ lineEnd x k) (h3 : (([0, 10, 13] : List Int).any fun y => y == ((x.getD (k : Int).toNat 0).toNat : Int)) = false) :
    inside (x.drop k) = .ok (List.take ((k : Int) + 1 - (k : Int)).toNat (List.drop (k : Int).toNat x)) 1 := by
  rw [any_never, Int.toNat_natCast] at h3
  rw [ins_plain h h1, if_neg h2, if_neg (by rw [h3]; exact Bool.false_ne_true), k10, Int.toNat_natCast, take_one (by omega)]
theorem ok_end {s : Shared} {h' : Heap} {L r : Addr} {m : Str → Option Value} {Q : Value → Shared → Prop} {y : Array UInt8} {v : List UInt8} {n : Nat} {j : Int} {tv tn : Tok} {tk : Nat}
    (hok : ∀ v n, inside (x.drop k) = .ok v n → ∀ h' tk r tv tn, (∀ b o, s.heap.get? b = some o → h'.get? b = some o) → s.heap.get? r = none → h'.get? r = some { cls := .type "tuple", data := .seq #[.bytes v.toArray tv, .int ((k + n : Nat) : Int) tn] } → Q (.ref r) { s with heap := h', toks := tk })
    (F : Fr s.heap L h' m) (N : News s.heap L h' [(r, { cls := .type "tuple", data := .seq #[.bytes y tv, .int j tn] })]) (hv : inside (x.drop k) = .ok v n) (hy : y = v.toArray) (hj : j = ((k + n : Nat) : Int)) : Q (.ref r) { s with heap := h', toks := tk } := by
  subst hy hj
  exact hok v n hv h' tk r tv tn F.keep (N _ (.head _)).2.2 (N _ (.head _)).1
end

theorem inside_call {prog : Program} {w : World} {p : Program} {loose : List Str} {mean : ExcName → Option Value} {mg mb : Str → Option Value} {dp un : Nat} {gd : Option (List Code)} {l : List Env} {Q E : Value → Shared → Prop} {s : Shared}
    {x : List UInt8} {td ta tb : Tok} {k : Nat} {begun : Int} {base : Heap}
    (B : Below (Ar dp un gd l) base l s.heap) (X : (hd.heap_39 w.params).In s.heap) (T : Top p loose mean mg mb s.heap) (hd : dp + 10 < recursionLimit) (hsz : x.length ≤ 1048576)
    (hover : inside (x.drop k) = .over → ∀ h' tk e, Thrown l s.heap h' e begun → E (.ref e) { s with heap := h', toks := tk })
    (hbad : inside (x.drop k) = .bad → ∀ h' tk e, Thrown l s.heap h' e (k : Int) → E (.ref e) { s with heap := h', toks := tk })
    (hok : ∀ v n, inside (x.drop k) = .ok v n → ∀ h' tk r tv tn, (∀ b o, s.heap.get? b = some o → h'.get? b = some o) → s.heap.get? r = none → h'.get? r = some { cls := .type "tuple", data := .seq #[.bytes v.toArray tv, .int ((k + n : Nat) : Int) tn] } → Q (.ref r) { s with heap := h', toks := tk }) :
    wpAny (model prog w) (Ar dp un gd l) (call (.ref 69) [.bytes x.toArray td, .int (k : Int) ta, .int begun tb]) Q E s := by
  refine' enterG (g := s.heap) (binds := [(Str.ofString "data", .bytes x.toArray td), (Str.ofString "at", .int (k : Int) ta), (Str.ofString "begun", .int begun tb)]) X T.nolimit (fun _ _ q => q) (Nat.le_refl _) ?k1 ?k2 ?k3 ?k4 ?k5 ?_ ?c1 ?c2 ?c3 ?c4
  (case k1 => k_is); (case k2 => k_is); (case k3 => show dp < _; omega)
  (case k4 => exact BindsTo.of_eq rfl); (case k5 => exact locs rfl); (case c1 => rfl); (case c2 => rfl); (case c3 => rfl); (case c4 => decide)
  intro L h₁ hL F hk₁
  have N : News s.heap L h₁ [] := News.nil
  w_strict ((show wpAny _ _ _ _ _ _); k_fold; k_steps)
  · exact hover (ins_over1 (by assumption)) _ _ _ (by assumption)
  · exact hover (inB (by assumption) (by assumption) (by assumption)) _ _ _ (by assumption)
  · exact hbad (inC (by assumption) (by assumption) (by assumption) (by assumption)) _ _ _ (by assumption)
  · rename Fr _ _ _ _ => F9
    rename News _ _ _ _ => N9
    exact ok_end (s := s) hok F9 N9 (inD (by assumption) (by assumption) (by assumption) (by assumption)) rfl (by omega)
  · exact absurd (by assumption : _ = (92 : Int)) (by assumption)
  · exact absurd (by assumption : _ = (92 : Int)) (by assumption)
  · rename Fr _ _ _ _ => F9
    rename News _ _ _ _ => N9
    exact ok_end (s := s) hok F9 N9 (inE (by assumption) (by assumption) (by assumption)) rfl (inE' (by assumption))
  · exact hbad (inF (by assumption) (by assumption) (by assumption) (by assumption)) _ _ _ (by assumption)
  · rename Fr _ _ _ _ => F9
    rename News _ _ _ _ => N9
    exact ok_end (s := s) hok F9 N9 (inG (by assumption) (by assumption) (by assumption) (by assumption)) rfl (by omega)
end Mine
end
section
open PySem PySem.W PySem.Spec PySem.Calls PyProof.Rows
set_option maxHeartbeats 8000000
namespace Mine
theorem set_back_Cl1 : True := by
  w_top off
  trivial
end Mine
namespace Mine
local macro_rules | `(tactic| walk_at "call builtin:len") => `(tactic| ((with_reducible show wpAny _ _ (call (Value.builtin "len") [Value.bytes (List.toArray _) _]) _ _ _); (refine len_B (by omega) ?_); intro _ _))
local macro_rules | `(tactic| walk_at "compareOp Eq bytes bytes") => `(tactic| refine eq_B ?_)
local macro_rules | `(tactic| walk_at "compareOp NotEq bytes bytes") => `(tactic| refine ne_B ?_)
local macro_rules | `(tactic| walk_at "binaryOp Add bytes bytes") => `(tactic| (refine add_B (by omega) ?_; intro _ _))
local macro_rules | `(tactic| walk_at "subscriptTail") => `(tactic| ((with_reducible show wpAny _ _ (subscriptTail _ _ (Value.bytes (List.toArray _) _) (Value.int _ _)) _ _ _); (refine item_B (by omega) (by omega) (by omega) ?_); intro _ _ hLo hHi))
local macro_rules | `(tactic| walk_at "subscriptTail") => `(tactic| ((with_reducible show wpAny _ _ (subscriptTail _ (Expr.Slice _ _ none _) (Value.bytes (List.toArray _) _) (Value.ref _)) _ _ _); (with_reducible rename Fr _ _ _ _ => F'); (with_reducible rename News _ _ _ _ => N'); (refine slice_B (s := ⟨_, _, _, _, _⟩) F' N' (by omega) (by omega) (by omega) ?_); intro _ _ _ _ _))
local macro_rules | `(tactic| walk_at "compareOp In int bytes") => `(tactic| (refine in_bytes (by omega) (by omega) ?_))
local macro_rules | `(tactic| walk_at "compareOp In int ref") => `(tactic| (refine in_tuple_ints (items := #[Value.int 0 247, Value.int 10 248, Value.int 13 249]) (ns := [0, 10, 13]) ⟨_, Frag.In.keeps (by k_asm) (Fr.keep (by k_asm)) _ _ (by k_is), rfl, _, rfl⟩ (.cons _ _ (.cons _ _ (.cons _ _ .nil))) ?_))
theorem fill9 : (hd.heap_39 = hd.heap_39) ∧ PySem.Challenge.rw_or0017_01 = PySem.Challenge.rw_or0017_01 := by
  k_fill
  exact ⟨rfl, rfl⟩
local macro_rules | `(tactic| walk_at "exec Raise some none") => `(tactic| (refine raise_word rfl ?_))
local macro_rules | `(tactic| walk_at "call ref") => `(tactic| ((show wpAny _ _ (call (Value.ref 52) _) _ _ _); (with_reducible rename Fr _ _ _ _ => F'); (refine' word_made ?k1 ?k2 ?k3 ?_); (case k1 => exact Frag.In.keeps (by k_asm) F'.keep); (case k2 => exact Top.keeps (by k_asm) F'.keep); (case k3 => show _ + 1 + 6 < _; (try dsimp only [Ar]); omega); intro h' tk' e' d' t' mA' kp' hn' he' hns' hat' hde' hnd'; refine ⟨e', d', t', rfl, kp' _ _ (word_obj (Frag.In.keeps (by k_asm) F'.keep)), he', ?_⟩; k_unfold; refine throw_first rfl rfl (by intro q; cases q) (Below.stays (by assumption)) (Below.frames (by assumption)) F' kp' hn' hnd' he' hns' hat' hde' ?_; intro h2' R'))
theorem below_push {dp un dp' un' : Nat} {gd gd' : Option (List Code)} {l : List Env} {base h₀ h : Heap} {L a : Addr} {m : Str → Option Value} {name : Str} {scope : Scope} {cd : Value} (K : Below (Ar dp un gd l) base l h₀) (F : Fr h₀ L h m) (hk : scope.kind = .function) :
    Below (Ar dp' un' gd' (envOf name scope L a cd :: l)) base (envOf name scope L a cd :: l) h := by
  have z := Below.push (name := name) (a := a) (cd := cd) K F hk
  exact ⟨rfl, z.stays, z.frames⟩
theorem ne_new {h₀ h : Heap} {L r : Addr} {news : List (Addr × Obj)} (N : News h₀ L h news) (hn : h.get? r = none) : ∀ p ∈ news, @Ne Nat p.1 r := fun p hp z => by
  have := (N p hp).1
  rw [show p.1 = r from z, hn] at this
  cases this
def Hold (P : Prop) : Prop := P
theorem hold_it {P : Prop} (h : Hold P) : P := h
local macro_rules | `(tactic| walk_at "exec While Compare cons nil") => `(tactic| (refine hold_it ?_))
local macro_rules | `(tactic| walk_at "call ref") => `(tactic| focus ((show wpAny _ _ (call (Value.ref 69) _) _ _ _); (with_reducible rename Fr _ _ _ _ => F'); (with_reducible rename News _ _ _ _ => N'); (refine' inside_call ?k0 ?k1 ?k2 ?k3 ?k4 ?_ ?_ ?_); (case k0 => exact below_push (by assumption) F' rfl); (case k1 => exact Frag.In.keeps (by k_asm) F'.keep); (case k2 => exact Top.keeps (by k_asm) F'.keep); (case k3 => show _ + 1 + 10 < _; (try dsimp only [Ar]); omega); (case k4 => omega); all_goals (first | (intro v' n' hi' h' tk' r' tv' tn' kp' hn' hr'; have F2' := F'.keeps kp'; have N2' := News.more F2' (N'.grown kp') hr' (by intro es n q; cases q) (none_of F'.keep hn'); have hq' := ne_new N' hn'; simp only [List.forall_mem_cons, List.not_mem_nil, false_implies, implies_true, and_true] at hq') | (intro hi' h' tk' e' R'; k_unfold; refine throw_next rfl rfl F' R' ?_; intro h2' R2'))))
local macro_rules | `(tactic| walk_at "call builtin:list.append") => `(tactic| ((refine' append_K ?k1 ?k2 ?k3 ?_ ?z); (case k1 => k_asm); (case k2 => k_asm); (case k3 => k_upd); (case z => rw [List.size_toArray, sizeLine_eq]; omega); intro h' F' N'))
local macro_rules | `(tactic| walk_at "getMethod bytes") => `(tactic| (refine method_join ?_))
local macro_rules | `(tactic| walk_at "call builtin:bytes.join") => `(tactic| ((refine' join_K ?k1 ?k2 ?k3 ?_); (case k1 => assumption); (case k2 => exact ⟨_, News.get (by k_asm) (by k_mem), rfl, _, rfl⟩); (case k3 => omega); intro _ _))
structure CSt where
  k : Nat
  vs : List Value
  xs : List (List UInt8)
  ta : Tok
  nn : Nat

section
variable {x bar : List UInt8} {k begun : Nat} {c : UInt8}
theorem hd_take (h : (List.take ((k : Int) + 1 - (k : Int)).toNat (List.drop (k : Int).toNat x) != [c]) = true) : (x.drop k).head? ≠ some c := by
  rw [k10, Int.toNat_natCast] at h
  intro e
  cases hx : x.drop k with
  | nil => rw [hx] at e; cases e
  | cons d r =>
    rw [hx] at e h
    obtain rfl : d = c := Option.some.inj e
    simp at h
theorem hd_takeF (h : (List.take ((k : Int) + 1 - (k : Int)).toNat (List.drop (k : Int).toNat x) != [c]) = false) : (x.drop k).head? = some c := by
  rw [k10, Int.toNat_natCast] at h
  cases hx : x.drop k with
  | nil => rw [hx] at h; simp at h
  | cons d r =>
    rw [hx] at h
    simp at h
    rw [h]; rfl
theorem br1 {b : Bool} (h : (k : Int) < (x.length : Int)) (hc : bar.contains (((x.getD (k : Int).toNat 0).toNat : Int)).toNat.toUInt8 = b) : ((x.drop k).head?.any fun d => bar.contains d) = b := by
  rw [drop_cons (by omega)]
  rw [Int.toNat_natCast, Int.toNat_natCast] at hc
  simpa using hc
theorem br2 (h : ¬ (k : Int) < (x.length : Int)) : ((x.drop k).head?.any fun d => bar.contains d) = false := by
  rw [List.drop_eq_nil_of_le (by omega)]
  rfl
end
abbrev LedC (lp : Addr) (c : CSt) : List (Addr × Obj) := [(lp, W.listOf c.vs.toArray c.nn)]
abbrev PsC (c : CSt) : List (Str × Value) := [(Str.ofString "at", .int (c.k : Int) c.ta)]
abbrev FactsC (c : CSt) : Prop := BytesAre c.vs c.xs
abbrev PC (c : UInt8) (bar : List UInt8) (begun : Nat) (x : List UInt8) (σ : CSt) : Prop :=
  scan c bar begun (x.drop σ.k) σ.k σ.xs.flatten = scan c bar begun (x.drop (begun + 1)) (begun + 1) [] ∧ σ.xs.flatten.length ≤ σ.k ∧ σ.vs.length ≤ σ.k ∧ σ.k ≤ x.length
theorem turn_end {h₀ h' : Heap} {L lp : Addr} {s : Shared} {m₀ m' : Str → Option Value} {c : UInt8} {bar x : List UInt8} {begun k n nn tk : Nat} {v : List UInt8} {vs : List Value} {xs : List (List UInt8)} {ta tv tn : Tok} {p : Addr × Obj}
    (hi : inside (x.drop k) = .ok v n) (hd : (x.drop k).head? ≠ some c) (hb : ((x.drop k).head?.any fun d => bar.contains d) = false) (hF : BytesAre vs xs)
    (hP1 : scan c bar begun (x.drop k) k xs.flatten = scan c bar begun (x.drop (begun + 1)) (begun + 1) []) (hP2 : xs.flatten.length ≤ k) (hP3 : vs.length ≤ k) (hP4 : k ≤ x.length)
    (F : Fr h₀ L h' m') (N : News h₀ L h' [p, (lp, W.listOf (vs.toArray.push (.bytes v.toArray tv)) (nn + 1))]) (hk : m' (Str.ofString "at") = some (.int ((k + n : Nat) : Int) tn))
    (hr : ∀ z, (∀ q ∈ PsC ⟨k + n, vs ++ [.bytes v.toArray tv], xs ++ [v], tn, nn + 1⟩, z ≠ q.1) → [Str.ofString "octets"].contains z = false → m' z = m₀ z) :
    KswEnd h₀ L s (LedC lp) PsC FactsC [Str.ofString "octets"] m₀ (PC c bar begun x) (fun σ => x.length + 1 - σ.k) ⟨k, vs, xs, ta, nn⟩ { s with heap := h', toks := tk } := by
  obtain ⟨n1, n2, n3⟩ := inside_ok hi
  rw [List.length_drop] at n2
  refine ksw_end ⟨k + n, vs ++ [.bytes v.toArray tv], xs ++ [v], tn, nn + 1⟩ F N ?_ (hF.app (.one v tv)) ?_ hr ⟨?_, ?_, ?_, ?_⟩ ?_
  · intro q hq
    rw [List.mem_singleton.mp hq]
    refine .tail _ ?_
    rw [← List.push_toArray]
    exact .head _
  · intro q hq
    rw [List.mem_singleton.mp hq]
    exact hk
  · rw [← hP1, scan_ok hd hb hi, List.drop_drop]
    simp
  · show (xs ++ [v]).flatten.length ≤ k + n
    rw [List.flatten_append]
    simp only [List.length_append, List.flatten_cons, List.flatten_nil, List.append_nil]
    omega
  · show (vs ++ [_]).length ≤ k + n
    simp only [List.length_append, List.length_cons, List.length_nil]
    omega
  · show k + n ≤ x.length; omega
  · show x.length + 1 - (k + n) < x.length + 1 - k; omega
theorem ret_end {s : Shared} {h' : Heap} {L r : Addr} {m : Str → Option Value} {Q : Value → Shared → Prop} {y : Array UInt8} {v : List UInt8} {e : Nat} {j : Int} {tv tn : Tok} {tk : Nat} {rest : List (Addr × Obj)} {P : List UInt8 → Nat → Prop}
    (hok : ∀ v e, P v e → ∀ h' tk r tv tn, (∀ b o, s.heap.get? b = some o → h'.get? b = some o) → s.heap.get? r = none → h'.get? r = some { cls := .type "tuple", data := .seq #[.bytes v.toArray tv, .int (e : Int) tn] } → Q (.ref r) { s with heap := h', toks := tk })
    (F : Fr s.heap L h' m) (N : News s.heap L h' ((r, { cls := .type "tuple", data := .seq #[.bytes y tv, .int j tn] }) :: rest)) (hv : P v e) (hy : y = v.toArray) (hj : j = (e : Int)) : Q (.ref r) { s with heap := h', toks := tk } := by
  subst hy hj
  exact hok v e hv h' tk r tv tn F.keep (N _ (.head _)).2.2 (N _ (.head _)).1

theorem closed_call {prog : Program} {w : World} {p : Program} {loose : List Str} {mean : ExcName → Option Value} {mg mb : Str → Option Value} {dp un : Nat} {gd : Option (List Code)} {l : List Env} {Q E : Value → Shared → Prop} {s : Shared}
    {x bar : List UInt8} {c : UInt8} {td tb tc tr : Tok} {begun : Nat} {base : Heap}
    (B : Below (Ar dp un gd l) base l s.heap) (X : (hd.heap_39 w.params).In s.heap) (T : Top p loose mean mg mb s.heap) (hd : dp + 20 < recursionLimit) (hsz : x.length ≤ 1048576) (hb : begun + 1 ≤ x.length)
    (hbad : ∀ n, scan c bar begun (x.drop (begun + 1)) (begun + 1) [] = .bad n → ∀ h' tk e, Thrown l s.heap h' e (n : Int) → E (.ref e) { s with heap := h', toks := tk })
    (hok : ∀ v e, scan c bar begun (x.drop (begun + 1)) (begun + 1) [] = .ok v e → ∀ h' tk r tv tn, (∀ b o, s.heap.get? b = some o → h'.get? b = some o) → s.heap.get? r = none → h'.get? r = some { cls := .type "tuple", data := .seq #[.bytes v.toArray tv, .int (e : Int) tn] } → Q (.ref r) { s with heap := h', toks := tk }) :
    wpAny (model prog w) (Ar dp un gd l) (call (.ref 76) [.bytes x.toArray td, .int (begun : Int) tb, .bytes [c].toArray tc, .bytes bar.toArray tr]) Q E s := by
  refine' enterG (g := s.heap) (binds := [(Str.ofString "data", .bytes x.toArray td), (Str.ofString "begun", .int (begun : Int) tb), (Str.ofString "closing", .bytes [c].toArray tc), (Str.ofString "barred", .bytes bar.toArray tr)]) X T.nolimit (fun _ _ q => q) (Nat.le_refl _) ?k1 ?k2 ?k3 ?k4 ?k5 ?_ ?c1 ?c2 ?c3 ?c4
  (case k1 => k_is); (case k2 => k_is); (case k3 => show dp < _; omega)
  (case k4 => exact BindsTo.of_eq rfl); (case k5 => exact locs rfl); (case c1 => rfl); (case c2 => rfl); (case c3 => rfl); (case c4 => decide)
  intro L h₁ hL F hk₁
  have N : News s.heap L h₁ [] := News.nil
  w_strict ((show wpAny _ _ _ _ _ _); k_fold; k_steps)
  show wpAny _ _ _ _ _ _
  rename_i lp hA l1 hB hC F9 N9
  refine' ksw_while (σ := CSt) (LedC lp) PsC FactsC [Str.ofString "octets"] (PC c bar begun x) (fun σ => x.length + 1 - σ.k) ⟨begun + 1, [], [], ?tok, 0⟩ F9 N9 .nil ?hk ?hp ?turn
  case hk =>
    intro p hp
    rw [List.mem_singleton.mp hp]
    rfl
  case hp => exact ⟨rfl, Nat.zero_le _, Nat.zero_le _, hb⟩
  case turn =>
    rintro ⟨k, vs, xs, ta, nn⟩ u h2 tk2 hF ⟨hP1, hP2, hP3, hP4⟩ F3 N3
    clear F9 N9
    dsimp only [LedC, PsC, FactsC] at hF hP1 hP2 hP3 hP4 F3 N3
    w_strict ((show wpAny _ _ _ _ _ _); k_steps)
    · exact hbad k (hP1.symm.trans (scan_bar (hd_take (by assumption)) (br1 (by assumption) (by assumption)))) _ _ _ (by assumption)
    · exact hbad begun (hP1.symm.trans (scan_over (hd_take (by assumption)) (br1 (by assumption) (by assumption)) (by assumption))) _ _ _ (by assumption)
    · exact hbad k (hP1.symm.trans (scan_bad (hd_take (by assumption)) (br1 (by assumption) (by assumption)) (by assumption))) _ _ _ (by assumption)
    · rename Fr _ _ _ _ => F8
      rename News _ _ _ _ => N8
      exact turn_end (by assumption) (hd_take (by assumption)) (br1 (by assumption) (by assumption)) hF hP1 hP2 hP3 hP4 F8 N8 rfl (by intro z hz1 hz2; have hz := hz1 _ (List.Mem.head _); simp only [List.contains_cons, List.contains_nil, Bool.or_false, beq_eq_false_iff_ne, ne_eq] at hz2; dsimp only at hz; simp [kstB, hz, hz2])
    · exact hbad begun (hP1.symm.trans (scan_over (hd_take (by assumption)) (br2 (by assumption)) (by assumption))) _ _ _ (by assumption)
    · exact hbad k (hP1.symm.trans (scan_bad (hd_take (by assumption)) (br2 (by assumption)) (by assumption))) _ _ _ (by assumption)
    · rename Fr _ _ _ _ => F8
      rename News _ _ _ _ => N8
      exact turn_end (by assumption) (hd_take (by assumption)) (br2 (by assumption)) hF hP1 hP2 hP3 hP4 F8 N8 rfl (by intro z hz1 hz2; have hz := hz1 _ (List.Mem.head _); simp only [List.contains_cons, List.contains_nil, Bool.or_false, beq_eq_false_iff_ne, ne_eq] at hz2; dsimp only at hz; simp [kstB, hz, hz2])
    · rename Fr _ _ _ _ => F8
      rename News _ _ _ _ => N8
      exact ret_end (s := s) hok F8 N8 (hP1.symm.trans (scan_end (hd_takeF (by assumption)))) rfl (by omega)
end Mine
end
section
open PySem PySem.W PySem.Spec PySem.Calls PyProof.Rows
set_option maxHeartbeats 8000000
namespace Mine
theorem set_back_Ln1 : True := by
  w_top off
  trivial
end Mine
namespace Mine
theorem fillA : (hd.heap_39 = hd.heap_39) ∧ PySem.Challenge.rw_or0017_01 = PySem.Challenge.rw_or0017_01 := by
  k_fill
  exact ⟨rfl, rfl⟩
section
variable {prog : Program} {w : World} {A : Around} {E : Value → Shared → Prop} {s' : Shared} {g0 g : Heap} {envL : Env} {L Lh a e : Addr} {m : Str → Option Value} {name : Str} {scope : Scope} {cd : Value} {oL : Obj} {n : Int}
  {nm : Str} {b₀ : Stmt} {suite : List Stmt} {pos np : Pos} {rest : List ExceptHandler} {Q : Flow → Shared → Prop} {p : Program} {loose : List Str} {mg mb : Str → Option Value}

theorem land (hfr : A.frames = some (envOf name scope Lh a cd :: [envL])) (hL : envL.frame = some L) (F : Fr g0 Lh g m) (N : News g0 Lh g [(L, oL)]) (hoL : ∀ vs, oL.data ≠ .fields vs) (X : (hd.heap_39 w.params).In g0) (T : TopRead p loose mg mb g0)
    (R : Thrown (envOf name scope Lh a cd :: [envL]) g s'.heap e n)
    (k : ∀ h' tk sl, Fr g0 Lh h' (fun y => if y = nm then some (.ref e) else m y) → News g0 Lh h' [(L, { oL with slots := sl })] → ExcAt h' e n →
      wpAny (model prog w) (A.mark (some (.ref e))) (execs (b₀ :: suite) (envOf name scope Lh a cd))
        (fun f s₄ => wpAny (model prog w) A (do bindName (envOf name scope Lh a cd) nm .none; unbindBehindTheSuite (envOf name scope Lh a cd) nm pos) (fun _ s₅ => Q f s₅) E s₄)
        (AsSuiteRaised (model prog w) (A.mark (some (.ref e))) (envOf name scope Lh a cd) nm pos (notedBy (model prog w) (A.mark (some (.ref e))) (envOf name scope Lh a cd) (cameBackBy (model prog w) A (envOf name scope Lh a cd) E)))
        { s' with heap := h', toks := tk })
    (hk : scope.kind = .function := by rfl) (hlo : (envOf name scope Lh a cd).kindOf nm = some .local := by rfl) (hx : (envOf name scope Lh a cd).kindOf "WordFault" = some .globalImplicit := by rfl) :
    wpAny (model prog w) A (noteFrame (.ref e) (envOf name scope Lh a cd))
      (fun _ s₂ => wpAny (model prog w) A (setFlight (.ref e) none) (fun _ s₃ =>
        wpAny (model prog w) A (handleBy (.ref e) (envOf name scope Lh a cd) (.ExceptHandler (some (.Name "WordFault" np)) (some nm) (b₀ :: suite) pos :: rest)) Q E s₃) E s₂) E s' := by
  obtain ⟨u, B, dx, mA, tn, kB, FL, hns, hat⟩ := R
  have hg0L : g0.get? L = none := (N _ (.head _)).2.2
  have hgL : g.get? L = some oL := (N _ (.head _)).1
  have hLL : L ≠ Lh := (N _ (.head _)).2.1
  have k0B : ∀ b o, g0.get? b = some o → B.get? b = some o := fun b o q => kB b o (F.keep b o q) fun hm => by
    rcases mem_frs (env := envOf name scope Lh a cd) rfl hm with z | z
    · rw [z, fr_self F] at q; cases q
    · rcases mem_frs (env := envL) (l := []) hL z with z | z
      · rw [z, hg0L] at q; cases q
      · cases z
  have fr : ∀ {h' : Heap} {fl : Value}, FlyD B (envOf name scope Lh a cd :: [envL]) e dx fl h' → g.UpToSlots h' → Fr g0 Lh h' m := fun F' u' => ⟨u'.ns F.ns, fun b o q => F'.stays b o (k0B b o q), F.above⟩
  refine note_next hfr rfl FL fun h4 F4 u4 => ?_
  refine set_none F4 fun h5 F5 u5 => ?_
  have U5 := u.trans (u4.trans u5)
  have R5 := fr F5 U5
  obtain ⟨oe, vs, he, hc, hdx, hdat⟩ := F5.obj
  have hC := R5.keep _ _ (word_obj X)
  unfold wordObj at hC
  refine wpAny_handleBy_cons (codeAny_handlers_test (name_K R5 X T (by k_is) ?_ hk hx)) (by intro q; cases q)
  refine wpAny_excMatches_sub_self hC he hc (by decide) (codeAny_handlers_suite_as ?_)
  refine set_none F5 fun h6 F6 u6 => ?_
  have U6 := U5.trans u6
  have R6 := fr F6 U6
  obtain ⟨sl, hsl⟩ := U6 L oL hgL hoL
  have N6 : News g0 Lh h6 [(L, { oL with slots := sl })] := fun q hq => by
    rw [List.mem_singleton.mp hq]
    exact ⟨hsl, hLL, hg0L⟩
  refine wpAny_storeName_local hlo R6.ns (fun h7 hn hs => ?_) (by show (scope.kind == .class || (scope.kind == .module && Lh != mainGlobals)) = false; rw [hk]; rfl)
  refine k h7 _ sl (R6.set hn hs) (N6.set hs) ?_
  obtain ⟨oe6, vs6, he6, hc6, hdx6, hdat6⟩ := F6.obj
  have heL : e ≠ Lh := fun z => by
    obtain ⟨o, es, ep, ho, hd, _⟩ := R6.ns
    rw [← z, he6] at ho
    cases ho
    rw [hdat6] at hd; cases hd
  have hdL : dx ≠ Lh := fun z => by
    obtain ⟨o, es, ep, ho, _⟩ := hns
    rw [z, F6.head (env := envOf name scope Lh a cd) rfl] at ho; cases ho
  have hnc : notCls oe6 = true := by unfold notCls; rw [hdat6]
  have hns6 := hns.keeps F6.stays
  obtain ⟨o, es, ep, ho, r⟩ := hns6
  exact ⟨oe6, dx, mA, tn, (hs.2 e heL).trans he6, hc6, hnc, hdx6, ⟨o, es, ep, (hs.2 dx hdL).trans ho, r⟩, hat⟩
end
end Mine
end
section
open PySem PySem.W PySem.Spec PySem.Calls PyProof.Rows
set_option maxHeartbeats 8000000
namespace Mine
theorem set_back_He1 : True := by
  w_top off
  trivial
end Mine
namespace Mine
local macro_rules | `(tactic| walk_at "call builtin:len") => `(tactic| ((with_reducible show wpAny _ _ (call (Value.builtin "len") [Value.bytes (List.toArray _) _]) _ _ _); (refine len_B (by omega) ?_); intro _ _))
local macro_rules | `(tactic| walk_at "compareOp Eq bytes bytes") => `(tactic| refine eq_B ?_)
local macro_rules | `(tactic| walk_at "compareOp NotEq bytes bytes") => `(tactic| refine ne_B ?_)
local macro_rules | `(tactic| walk_at "binaryOp Add bytes bytes") => `(tactic| (refine add_B (by omega) ?_; intro _ _))
local macro_rules | `(tactic| walk_at "subscriptTail") => `(tactic| ((with_reducible show wpAny _ _ (subscriptTail _ _ (Value.bytes (List.toArray _) _) (Value.int _ _)) _ _ _); (refine item_B (by omega) (by omega) (by omega) ?_); intro _ _ hLo hHi))
local macro_rules | `(tactic| walk_at "subscriptTail") => `(tactic| ((with_reducible show wpAny _ _ (subscriptTail _ (Expr.Slice _ _ none _) (Value.bytes (List.toArray _) _) (Value.ref _)) _ _ _); (with_reducible rename Fr _ _ _ _ => F'); (with_reducible rename News _ _ _ _ => N'); (refine slice_B (s := ⟨_, _, _, _, _⟩) F' N' (by omega) (by omega) (by omega) ?_); intro _ _ _ _ _))
local macro_rules | `(tactic| walk_at "compareOp In int bytes") => `(tactic| (refine in_bytes (by omega) (by omega) ?_))
local macro_rules | `(tactic| walk_at "compareOp In int ref") => `(tactic| (refine in_tuple_ints (items := #[Value.int 0 247, Value.int 10 248, Value.int 13 249]) (ns := [0, 10, 13]) ⟨_, Frag.In.keeps (by k_asm) (Fr.keep (by k_asm)) _ _ (by k_is), rfl, _, rfl⟩ (.cons _ _ (.cons _ _ (.cons _ _ .nil))) ?_))
theorem fillB : (hd.heap_39 = hd.heap_39) ∧ PySem.Challenge.rw_or0017_01 = PySem.Challenge.rw_or0017_01 := by
  k_fill
  exact ⟨rfl, rfl⟩
noncomputable def hearR (q : Bool) (x : List UInt8) (begun : Nat) : Res := if q then scan 34 [] begun (x.drop (begun + 1)) (begun + 1) [] else scan 93 [91] begun (x.drop (begun + 1)) (begun + 1) []

structure Outer (h0 g0 : Heap) (envL : Env) (L : Addr) (oL : Obj) : Prop where
  sub : ∀ b o, h0.get? b = some o → g0.get? b = some o
  noL : h0.get? L = none
  frame : envL.frame = some L
  kind : envL.scope.kind ≠ .module
  dict : ∀ vs, oL.data ≠ .fields vs
theorem below_heard {dp un : Nat} {gd : Option (List Code)} {h0 g0 h : Heap} {envL : Env} {L Lh a : Addr} {oL : Obj} {m : Str → Option Value} {name : Str} {scope : Scope} {cd : Value} (O : Outer h0 g0 envL L oL) (F : Fr g0 Lh h m) (hl : h.get? L = some oL) (hk : scope.kind = .function) :
    Below (Ar dp un gd (envOf name scope Lh a cd :: [envL])) h0 (envOf name scope Lh a cd :: [envL]) h :=
  ⟨rfl, fun b o q => F.keep b o (O.sub b o q), .cons (by show scope.kind ≠ .module; rw [hk]; decide) rfl F.ns (none_of O.sub (fr_self F)) ⟨O.kind, ⟨L, oL, O.frame, O.noL, hl, O.dict⟩, trivial⟩⟩

local macro_rules | `(tactic| walk_at "call ref") => `(tactic| focus ((show wpAny _ _ (call (Value.ref 76) _) _ _ _); (with_reducible rename Fr _ _ _ _ => F'); (with_reducible rename News _ _ _ _ => N'); (refine' closed_call ?k0 ?k1 ?k2 ?k3 ?k4 ?k5 ?_ ?_); (case k0 => exact below_heard (by assumption) F' (News.get N' (by k_mem)) rfl); (case k1 => exact Frag.In.keeps (by k_asm) F'.keep); (case k2 => exact Top.keeps (by k_asm) F'.keep); (case k3 => show _ + 1 + 20 < _; (try dsimp only [Ar]); omega); (case k4 => omega); (case k5 => omega); all_goals (first | (intro v' n' hi' h' tk' r' tv' tn' kp' hn' hr'; have F2' := F'.keeps kp'; have N2' := News.more F2' (N'.grown kp') hr' (by intro es n q; cases q) (none_of F'.keep hn')) | (intro n' hi' h' tk' e' R'; (try dsimp only)))))
local macro_rules | `(tactic| walk_at "noteFrame ref") => `(tactic| focus ((rename Thrown _ _ _ _ _ => R'); (refine' land rfl (Outer.frame (by assumption)) ?k1 ?k2 (Outer.dict (by assumption)) ?k3 ?k4 R' ?_); (case k1 => assumption); (case k2 => assumption); (case k3 => assumption); (case k4 => exact topRead_of (by assumption)); intro h' tk' sl' F' N' hX'))
local macro_rules | `(tactic| walk_at "getAttr ref") => `(tactic| ((refine' getattr_at ?k1 ?k2 ?k3 (by assumption) ?_); (case k1 => k_asm); (case k2 => exact Fr.keep (by k_asm)); (case k3 => k_is); intro tn' tk'))

theorem heard_back {h0 hs h' : Heap} {L Lh : Addr} {m0 m9 : Str → Option Value} {news : List (Addr × Obj)} {oL : Obj} {sl : Array (Option Value)} (FN : Fr h0 L hs m0 ∧ News h0 L hs news) (hoL : hs.get? L = some oL) (F9 : Fr (hideAll hs [L]) Lh h' m9) (hl : h'.get? L = some { oL with slots := sl }) :
    Fr h0 L h' m0 ∧ News h0 L h' news := by
  obtain ⟨F0, N0⟩ := FN
  have hh : ∀ b o, b ≠ L → hs.get? b = some o → h'.get? b = some o := fun b o hb z => F9.keep b o (hideAll_get _ z fun hm => hb (List.mem_singleton.mp hm))
  refine ⟨⟨?_, fun b o z => hh b o (fun e => by rw [e, fr_self F0] at z; cases z) (F0.keep b o z), F0.above⟩, fun p hp => ⟨hh _ _ (N0 p hp).2.1 (N0 p hp).1, (N0 p hp).2⟩⟩
  obtain ⟨o, es, ep, ho, hd, r⟩ := F0.ns
  rw [hoL] at ho
  cases ho
  exact ⟨_, es, ep, hl, hd, r⟩
theorem hear_t {x : List UInt8} {q : Bool} {begun : Nat} {R : Res} (hq : q = true) (h : scan 34 [] begun (x.drop (begun + 1)) (begun + 1) [] = R) : hearR q x begun = R := by subst hq; exact h
theorem hear_f {x : List UInt8} {q : Bool} {begun : Nat} {R : Res} (hq : q = false) (h : scan 93 [91] begun (x.drop (begun + 1)) (begun + 1) [] = R) : hearR q x begun = R := by subst hq; exact h
theorem heard_tup {h0 hs h' : Heap} {L Lh r : Addr} {m0 m9 : Str → Option Value} {news : List (Addr × Obj)} {oL o : Obj} (hsub : ∀ b o, h0.get? b = some o → (hideAll hs [L]).get? b = some o) (FN : Fr h0 L hs m0 ∧ News h0 L hs news) (hoL : hs.get? L = some oL) (hne : oL ≠ o)
    (F9 : Fr (hideAll hs [L]) Lh h' m9) (N9 : News (hideAll hs [L]) Lh h' [(r, o), (L, oL)]) :
    Fr h0 L h' m0 ∧ News h0 L h' ((r, o) :: news) ∧ ∀ p ∈ news, @Ne Nat p.1 r := by
  have hl := (N9 _ (.tail _ (.head _))).1
  obtain ⟨hr, _, hrn⟩ := N9 _ (.head _)
  have ho' : h'.get? L = some { oL with slots := oL.slots } := hl
  obtain ⟨F, N⟩ := heard_back FN hoL F9 ho'
  refine ⟨F, fun p hp => ?_, fun p hp z => ?_⟩
  · rcases List.mem_cons.mp hp with rfl | hp
    · exact ⟨hr, fun e => hne (by rw [show r = L from e, hl] at hr; exact Option.some.inj hr), none_of hsub hrn⟩
    · exact N p hp
  · have z1 := hideAll_get [L] (FN.2 p hp).1 fun hm => (FN.2 p hp).2.1 (List.mem_singleton.mp hm)
    rw [show p.1 = r from z, hrn] at z1
    cases z1

theorem heard_call {prog : Program} {w : World} {p : Program} {loose : List Str} {mean : ExcName → Option Value} {mg mb : Str → Option Value} {dp un : Nat} {gd : Option (List Code)} {envL : Env} {L : Addr} {Q E : Value → Shared → Prop} {s : Shared}
    {x : List UInt8} {q : Bool} {td tb : Tok} {begun : Nat} {h0 : Heap} {m0 : Str → Option Value} {news : List (Addr × Obj)}
    (X0 : (hd.heap_39 w.params).In h0) (T0 : Top p loose mean mg mb h0) (F0 : Fr h0 L s.heap m0) (N0 : News h0 L s.heap news) (hfL : envL.frame = some L) (hkL : envL.scope.kind ≠ .module) (hd : dp + 30 < recursionLimit) (hsz : x.length ≤ 1048576) (hb : begun + 1 ≤ x.length)
    (hok : ∀ v e, hearR q x begun = .ok v e → ∀ h' tk r tv tn, Fr h0 L h' m0 → News h0 L h' ((r, { cls := .type "tuple", data := .seq #[.bytes v.toArray tv, .int (e : Int) tn] }) :: news) → (∀ p ∈ news, @Ne Nat p.1 r) → Q (.ref r) { s with heap := h', toks := tk })
    (hbad : ∀ n, hearR q x begun = .bad n → ∀ h' tk tn, Fr h0 L h' m0 → News h0 L h' news → Q (.int (n : Int) tn) { s with heap := h', toks := tk }) :
    wpAny (model prog w) (Ar dp un gd [envL]) (call (.ref 97) [.bytes x.toArray td, .int (begun : Int) tb, .bool q]) Q E s := by
  obtain ⟨oL, es, ep, hoL, hdatL, hrestL⟩ := id F0.ns
  have h0L : h0.get? L = none := fr_self F0
  have hh : ∀ b o, h0.get? b = some o → (hideAll s.heap [L]).get? b = some o := fun b o z => hideAll_get _ (F0.keep b o z) fun hm => by
    rw [List.mem_singleton.mp hm, h0L] at z; cases z
  have O : Outer h0 (hideAll s.heap [L]) envL L oL := ⟨hh, h0L, hfL, hkL, fun vs z => by rw [hdatL] at z; cases z⟩
  have X := X0.keeps hh
  have T := T0.keeps hh
  refine' enterG (g := hideAll s.heap [L]) (binds := [(Str.ofString "octets", .bytes x.toArray td), (Str.ofString "begun", .int (begun : Int) tb), (Str.ofString "is_quoted", .bool q)]) X T.nolimit (fun _ _ z => of_hideAll _ z) (Nat.le_of_eq (hideAll_size _ _)) ?k1 ?k2 ?k3 ?k4 ?k5 ?_ ?c1 ?c2 ?c3 ?c4
  (case k1 => k_is); (case k2 => k_is); (case k3 => show dp < _; omega)
  (case k4 => exact BindsTo.of_eq rfl); (case k5 => exact locs rfl); (case c1 => rfl); (case c2 => rfl); (case c3 => rfl); (case c4 => decide)
  intro Lh h₁ hLh F hk₁
  have N : News (hideAll s.heap [L]) Lh h₁ [(L, oL)] := fun z hz => by
    rw [List.mem_singleton.mp hz]
    exact ⟨hk₁ _ _ hoL, by rw [hLh]; exact Nat.ne_of_lt (Heap.lt_size hoL), hideAll_none _ (List.mem_singleton.mpr rfl)⟩
  have FN0 : Fr h0 L s.heap m0 ∧ News h0 L s.heap news := ⟨F0, N0⟩
  have hneL : ∀ (its : Array Value) (k : Nat), oL ≠ { cls := .type "tuple", data := .seq its k } := fun its k z => by rw [z] at hdatL; cases hdatL
  clear F0 N0
  w_strict ((show wpAny _ _ _ _ _ _); k_fold; k_steps)
  · rename Fr _ _ _ _ => F9
    rename News _ _ _ _ => N9
    obtain ⟨F8, N8⟩ := heard_back FN0 hoL F9 (N9 _ (.head _)).1
    exact hbad _ (hear_t (by assumption) (by assumption)) _ _ _ F8 N8
  · rename Fr _ _ _ _ => F9
    rename News _ _ _ _ => N9
    obtain ⟨F8, N8, hn8⟩ := heard_tup hh FN0 hoL (hneL _ _) F9 N9
    exact hok _ _ (hear_t (by assumption) (by assumption)) _ _ _ _ _ F8 N8 hn8
  · rename Fr _ _ _ _ => F9
    rename News _ _ _ _ => N9
    obtain ⟨F8, N8⟩ := heard_back FN0 hoL F9 (N9 _ (.head _)).1
    exact hbad _ (hear_f (by assumption) (by assumption)) _ _ _ F8 N8
  · rename Fr _ _ _ _ => F9
    rename News _ _ _ _ => N9
    obtain ⟨F8, N8, hn8⟩ := heard_tup hh FN0 hoL (hneL _ _) F9 N9
    exact hok _ _ (hear_f (by assumption) (by assumption)) _ _ _ _ _ F8 N8 hn8
end Mine
end
section
open PySem PySem.W PySem.Spec PySem.Calls PyProof.Rows
set_option maxHeartbeats 8000000
namespace Mine
theorem set_back_Ta1 : True := by
  w_top off
  trivial
end Mine
namespace Mine
theorem fillC : (hd.heap_39 = hd.heap_39) ∧ PySem.Challenge.rw_or0017_01 = PySem.Challenge.rw_or0017_01 := by
  k_fill
  exact ⟨rfl, rfl⟩

local macro_rules | `(tactic| walk_at "call builtin:len") => `(tactic| ((with_reducible show wpAny _ _ (call (Value.builtin "len") [Value.ref _]) _ _ _); (refine' len_list (items := ((_ : List Value).toArray)) ?k1 ?k2 ?_); (case k1 => exact ⟨_, News.get (by k_asm) (by k_mem), rfl, _, rfl⟩); (case k2 => (simp only [List.size_toArray, List.length_cons, List.length_nil]; omega)); simp only [List.size_toArray, List.length_cons, List.length_nil]))
local macro_rules | `(tactic| walk_at "subscriptTail") => `(tactic| ((with_reducible show wpAny _ _ (subscriptTail _ _ (Value.ref _) (Value.int _ _)) _ _ _); (refine' ksa_sub ?k1 ?k2 ?k3 ?k4 ?k5 ?k6 ?_ ?k7); (case k1 => k_asm); (case k2 => k_mem); (case k3 => with_reducible assumption); (case k4 => decide); (case k5 => (simp only [List.length_cons]; omega)); (case k6 => decide); (case k7 => with_unfolding_all rfl); intro tt; (try dsimp only [List.getD_cons_zero, Int.toNat_zero, List.set_cons_zero])))
local macro_rules | `(tactic| walk_at "setItem ref int") => `(tactic| ((with_reducible show wpAny _ _ (setItem (Value.ref _) (Value.int _ _) (Value.int _ _)) _ _ _); (refine' ksa_set ?k1 ?k2 ?k3 ?k4 ?k5 ?k6 ?k7 ?_); (case k1 => k_asm); (case k2 => k_asm); (case k3 => k_upd); (case k4 => with_reducible assumption); (case k5 => decide); (case k6 => (simp only [List.length_cons]; omega)); (case k7 => decide); intro h' F' N' hi' hl' hs'; clear hl' hs'; (try dsimp only [List.getD_cons_zero, Int.toNat_zero, List.set_cons_zero] at N' hi')))
theorem seq0 {v : Value} {vs : List Value} : seqIndex? 0 (v :: vs).toArray.size = some 0 := by
  unfold seqIndex?
  simp
local macro_rules | `(tactic| walk_at "call builtin:list.pop") => `(tactic| ((refine' kl_popAt (k := 0) ?k1 ?k2 ?k3 ?k4 ?k5 ?k6 ?k7 ?_); (case k1 => k_asm); (case k2 => k_asm); (case k6 => k_upd); (case k3 => rfl); (case k4 => exact seq0); (case k5 => rfl); (case k7 => (simp only [List.length_cons, sizeLine_eq]; omega)); intro h' F' N'; (try dsimp only [List.nil_append] at N')))
local macro_rules | `(tactic| walk_at "binaryOp FloorDiv int int") => `(tactic| (refine floordiv_int (by omega) ?_ (Or.inl (PyProof.noPylong_small (by omega)))))
theorem take_call {prog : Program} {w : World} {p : Program} {loose : List Str} {mean : ExcName → Option Value} {mg mb : Str → Option Value} {dp un : Nat} {gd : Option (List Code)} {l : List Env} {Q E : Value → Shared → Prop} {s : Shared}
    {pool : Addr} {vs : List Value} {ns : List Int} {nn : Nat} {many : Int} {tm : Tok} {g : Heap}
    (X : (hd.heap_39 w.params).In g) (T : Top p loose mean mg mb g) (hg : ∀ b o, g.get? b = some o → s.heap.get? b = some o) (hgs : g.objs.size ≤ s.heap.objs.size) (hgp : g.get? pool = none)
    (hp : s.heap.get? pool = some (W.listOf vs.toArray nn)) (hi : IntsAre vs ns) (hlen : vs.length ≤ 63) (hd : dp + 30 < recursionLimit) (hm : 0 < many) (hm2 : many < 1000)
    (hQ : ∀ h' tk d t vs' ns' n', IntsAre vs' ns' → vs'.length ≤ 63 → 0 ≤ d → d < many → (∀ b o, g.get? b = some o → h'.get? b = some o) → h'.get? pool = some (W.listOf vs'.toArray n') → Q (.int d t) { s with heap := h', toks := tk }) :
    wpAny (model prog w) (Ar dp un gd l) (call (.ref 90) [.ref pool, .int many tm]) Q E s := by
  refine' enterG (g := g) (binds := [(Str.ofString "pool", .ref pool), (Str.ofString "many", .int many tm)]) X T.nolimit hg hgs ?k1 ?k2 ?k3 ?k4 ?k5 ?_ ?c1 ?c2 ?c3 ?c4
  (case k1 => k_is); (case k2 => k_is); (case k3 => show dp < _; omega)
  (case k4 => exact BindsTo.of_eq rfl); (case k5 => exact locs rfl); (case c1 => rfl); (case c2 => rfl); (case c3 => rfl); (case c4 => decide)
  intro L h₁ hL F hk₁
  have N : News g L h₁ [(pool, W.listOf vs.toArray nn)] := fun z hz => by
    rw [List.mem_singleton.mp hz]
    exact ⟨hk₁ _ _ hp, by rw [hL]; exact Nat.ne_of_lt (Heap.lt_size hp), hgp⟩
  have hkg := fun b o z => hk₁ b o (hg b o z)
  cases hi with
  | nil =>
    w_strict ((show wpAny _ _ _ _ _ _); k_fold; k_steps)
    exact hQ _ _ _ _ _ _ _ .nil (by decide) (Int.le_refl _) hm hkg (hk₁ _ _ hp)
  | cons a ta hi =>
    rename_i vs ns
    have hi0 := IntsAre.cons a ta hi
    have hl0 := hi.length
    simp only [List.length_cons] at hlen
    w_strict ((show wpAny _ _ _ _ _ _); k_fold; k_steps)
    · exact absurd ‹_ = _› (by omega)
    · rename Fr _ _ _ _ => F8
      rename News _ _ _ _ => N8
      exact hQ _ _ _ _ _ _ _ hi (by omega) (fmod_lo _ hm) (fmod_hi _ hm) F8.keep (N8 _ (.head _)).1
    · rename Fr _ _ _ _ => F8
      rename News _ _ _ _ => N8
      rename IntsAre _ _ => I8
      exact hQ _ _ _ _ _ _ _ I8 (by simp only [List.length_cons]; omega) (fmod_lo _ hm) (fmod_hi _ hm) F8.keep (N8 _ (.head _)).1
end Mine
end
section
open PySem PySem.W PySem.Spec PySem.Calls PyProof.Rows
set_option maxHeartbeats 8000000
namespace Mine
theorem take_law {prog : Program} {w : World} {p : Program} {loose : List Str} {mean : ExcName → Option Value} {mg mb : Str → Option Value} {dp un : Nat} {gd : Option (List Code)} {l : List Env} {Q E : Value → Shared → Prop} {s : Shared}
    {pool L : Addr} {vs : List Value} {ns : List Int} {nn : Nat} {many : Int} {tm : Tok} {h0 : Heap} {m0 : Str → Option Value} {news : List (Addr × Obj)} {g : Obj → List (Addr × Obj)}
    (X0 : (hd.heap_39 w.params).In h0) (T0 : Top p loose mean mg mb h0) (F : Fr h0 L s.heap m0) (N : News h0 L s.heap news) (U : UpdF pool (W.listOf vs.toArray nn) news g) (hi : IntsAre vs ns) (hlen : vs.length ≤ 63) (hd : dp + 30 < recursionLimit) (hm : 0 < many) (hm2 : many < 1000)
    (hQ : ∀ h' tk d t vs' ns' n', IntsAre vs' ns' → vs'.length ≤ 63 → 0 ≤ d → d < many → Fr h0 L h' m0 → News h0 L h' (g (W.listOf vs'.toArray n')) → Q (.int d t) { s with heap := h', toks := tk }) :
    wpAny (model prog w) (Ar dp un gd l) (call (.ref 90) [.ref pool, .int many tm]) Q E s := by
  obtain ⟨pre, post, rfl, hg, a, b⟩ := U.split
  obtain ⟨hp, hpL, hp0⟩ := N (pool, W.listOf vs.toArray nn) (List.mem_append.mpr (.inr (.head _)))
  have hh : ∀ b o, h0.get? b = some o → (hideAll s.heap [pool]).get? b = some o := fun b o z => hideAll_get _ (F.keep b o z) fun hm => by
    rw [List.mem_singleton.mp hm] at z
    rw [show h0.get? pool = none from hp0] at z; cases z
  refine take_call (X0.keeps hh) (T0.keeps hh) (fun _ _ z => of_hideAll _ z) (Nat.le_of_eq (hideAll_size _ _)) (hideAll_none _ (List.mem_singleton.mpr rfl)) hp hi hlen hd hm hm2 ?_
  intro h' tk d t vs' ns' n' hi' hl' hd0 hd1 kp hp'
  have hk : ∀ b o, b ≠ pool → s.heap.get? b = some o → h'.get? b = some o := fun b o hb z => kp b o (hideAll_get _ z fun hm => hb (List.mem_singleton.mp hm))
  refine hQ _ _ _ _ vs' ns' n' hi' hl' hd0 hd1 ⟨?_, fun b o z => hk b o (fun e => by rw [e, show h0.get? pool = none from hp0] at z; cases z) (F.keep b o z), F.above⟩ ?_
  · obtain ⟨o, es, ep, ho, hd, r⟩ := F.ns
    exact ⟨o, es, ep, hk _ _ (fun e => hpL e.symm) ho, hd, r⟩
  · rw [hg]
    intro q hq
    rcases List.mem_append.mp hq with hq | hq
    · have z := N q (List.mem_append.mpr (.inl hq))
      exact ⟨hk _ _ (a q hq) z.1, z.2⟩
    · rcases List.mem_cons.mp hq with rfl | hq
      · exact ⟨hp', hpL, hp0⟩
      · have z := N q (List.mem_append.mpr (.inr (.tail _ hq)))
        exact ⟨hk _ _ (b q hq) z.1, z.2⟩
end Mine
end
section
open PySem PySem.W PySem.Spec PySem.Calls PyProof.Rows
set_option maxHeartbeats 8000000
namespace Mine
theorem set_back_Es1 : True := by
  w_top off
  trivial
end Mine
namespace Mine
local macro_rules | `(tactic| walk_at "call builtin:len") => `(tactic| ((with_reducible show wpAny _ _ (call (Value.builtin "len") [Value.bytes (List.toArray _) _]) _ _ _); (refine len_B (by omega) ?_); intro _ _))
local macro_rules | `(tactic| walk_at "compareOp Eq bytes bytes") => `(tactic| refine eq_B ?_)
local macro_rules | `(tactic| walk_at "compareOp NotEq bytes bytes") => `(tactic| refine ne_B ?_)
local macro_rules | `(tactic| walk_at "binaryOp Add bytes bytes") => `(tactic| (refine add_B (by omega) ?_; intro _ _))
local macro_rules | `(tactic| walk_at "subscriptTail") => `(tactic| ((with_reducible show wpAny _ _ (subscriptTail _ _ (Value.bytes (List.toArray _) _) (Value.int _ _)) _ _ _); (refine item_B (by omega) (by omega) (by omega) ?_); intro _ _ hLo hHi))
local macro_rules | `(tactic| walk_at "subscriptTail") => `(tactic| ((with_reducible show wpAny _ _ (subscriptTail _ (Expr.Slice _ _ none _) (Value.bytes (List.toArray _) _) (Value.ref _)) _ _ _); (with_reducible rename Fr _ _ _ _ => F'); (with_reducible rename News _ _ _ _ => N'); (refine slice_B (s := ⟨_, _, _, _, _⟩) F' N' (by omega) (by omega) (by omega) ?_); intro _ _ _ _ _))
local macro_rules | `(tactic| walk_at "compareOp In int bytes") => `(tactic| (refine in_bytes (by omega) (by omega) ?_))
local macro_rules | `(tactic| walk_at "compareOp In int ref") => `(tactic| (refine in_tuple_ints (items := #[Value.int 0 247, Value.int 10 248, Value.int 13 249]) (ns := [0, 10, 13]) ⟨_, Frag.In.keeps (by k_asm) (Fr.keep (by k_asm)) _ _ (by k_is), rfl, _, rfl⟩ (.cons _ _ (.cons _ _ (.cons _ _ .nil))) ?_))
theorem fillE : (hd.heap_39 = hd.heap_39) ∧ PySem.Challenge.rw_or0017_01 = PySem.Challenge.rw_or0017_01 := by
  k_fill
  exact ⟨rfl, rfl⟩
local macro_rules | `(tactic| walk_at "pyIter ref") => `(tactic| (refine hold_it ?_))
local macro_rules | `(tactic| walk_at "call builtin:list.append") => `(tactic| ((refine' append_K ?k1 ?k2 ?k3 ?_ ?z); (case k1 => k_asm); (case k2 => k_asm); (case k3 => k_upd); (case z => rw [List.size_toArray, sizeLine_eq]; omega); intro h' F' N'))
local macro_rules | `(tactic| walk_at "getMethod bytes") => `(tactic| (refine method_join ?_))
local macro_rules | `(tactic| walk_at "call builtin:bytes.join") => `(tactic| ((refine' join_K ?k1 ?k2 ?k3 ?_); (case k1 => assumption); (case k2 => exact ⟨_, News.get (by k_asm) (by k_mem), rfl, _, rfl⟩); (case k3 => omega); intro _ _))

structure EsSt where
  vs : List Value
  xs : List (List UInt8)
  nn : Nat
abbrev LedE (lp : Addr) (c : EsSt) : List (Addr × Obj) := [(lp, W.listOf c.vs.toArray c.nn)]
abbrev FactsE (c : EsSt) : Prop := BytesAre c.vs c.xs
abbrev PE (sg x : List UInt8) (pre : List Int) (c : EsSt) : Prop := c.xs.flatten = esc sg (x.take pre.length) ∧ c.vs.length ≤ 2 * pre.length
theorem esc_snoc {sg x : List UInt8} {n : Nat} (h : n < x.length) : esc sg (x.take (n + 1)) = esc sg (x.take n) ++ (if sg.contains (x.getD n 0) then [92, x.getD n 0] else [x.getD n 0]) := by
  unfold esc
  rw [List.take_add_one, List.getD_eq_getElem?_getD, List.getElem?_eq_getElem h, List.map_append, List.flatten_append]
  simp
theorem nv_absurd {x : List UInt8} {n : Nat} (hnv : ∀ d ∈ x, never d = false) (h : n < x.length) (h2 : ([0, 10, 13] : List Int).any (fun y => y == ((x.getD ((n : Nat) : Int).toNat 0).toNat : Int)) = true) : False := by
  rw [any_never, Int.toNat_natCast] at h2
  have := hnv (x.getD n 0) (by rw [List.getD_eq_getElem?_getD, List.getElem?_eq_getElem h]; exact List.getElem_mem h)
  rw [h2] at this
  cases this
theorem br3 {sg x : List UInt8} {n : Nat} {b : Bool} (hc : sg.contains (((x.getD (n : Int).toNat 0).toNat : Int)).toNat.toUInt8 = b) : sg.contains (x.getD n 0) = b := by
  rw [Int.toNat_natCast, Int.toNat_natCast] at hc
  simpa using hc
theorem one_at {x : List UInt8} {n : Nat} (h : n < x.length) : (x.drop (n : Int).toNat).take ((n : Int) + 1 - (n : Int)).toNat = [x.getD n 0] := by
  rw [k10, Int.toNat_natCast, take_one (by omega)]
local macro_rules | `(tactic| walk_at "exec Raise some none") => `(tactic| (exfalso; exact nv_absurd (by assumption) (by assumption) (by assumption)))
theorem es_end {h₀ h' : Heap} {L lp : Addr} {s : Shared} {m₀ u : Str → Option Value} {sg x : List UInt8} {pre : List Int} {n' tk : Nat} {k : Int} {v : Value} {vs ys : List Value} {xs zs : List (List UInt8)} {own : List (Addr × Obj)} {A : Array Value}
    (F : Fr h₀ L h' (fun y => if y = Str.ofString "at" then some v else kstB (fun z => if ([] : List Str).contains z then u z else m₀ z) [] y)) (N : News h₀ L h' ((lp, W.listOf A n') :: own)) (hA : A = (vs ++ ys).toArray) (hF : BytesAre vs xs) (hy : BytesAre ys zs) (hl : ys.length ≤ 2)
    (hP1 : xs.flatten = esc sg (x.take pre.length)) (hP2 : vs.length ≤ 2 * pre.length) (hn : pre.length < x.length) (hz : zs.flatten = if sg.contains (x.getD pre.length 0) then [92, x.getD pre.length 0] else [x.getD pre.length 0]) :
    InvEndN h₀ L (KstS (LedE lp) (fun _ => []) FactsE (Str.ofString "at") [] m₀ (PE sg x) (pre ++ [k])) own ((LedE lp ⟨[], [], 0⟩).map (·.1)) s { s with heap := h', toks := tk } := by
  subst hA
  refine kst_end (⟨vs ++ ys, xs ++ zs, n'⟩ : EsSt) F N ?_ ?_ rfl (hF.app hy) (List.forall_mem_nil _) ?_ ⟨?_, ?_⟩
  · intro p hp
    rw [List.mem_singleton.mp hp]
    exact .head _
  · intro p hp
    exact .tail _ hp
  · intro z hz _ _
    rw [if_neg hz]
    rfl
  · rw [List.length_append, List.length_cons, List.length_nil, Nat.zero_add, esc_snoc hn, ← hz, ← hP1, List.flatten_append]
  · rw [List.length_append, List.length_append, List.length_cons, List.length_nil]
    omega
theorem es_end2 {h₀ h' : Heap} {L lp : Addr} {s : Shared} {m₀ u : Str → Option Value} {sg x d : List UInt8} {pre : List Int} {n' tk : Nat} {k : Int} {v : Value} {vs : List Value} {xs : List (List UInt8)} {own : List (Addr × Obj)} {t1 t2 : Tok}
    (F : Fr h₀ L h' (fun y => if y = Str.ofString "at" then some v else kstB (fun z => if ([] : List Str).contains z then u z else m₀ z) [] y)) (N : News h₀ L h' ((lp, W.listOf ((vs.toArray.push (.bytes #[92] t1)).push (.bytes d.toArray t2)) n') :: own)) (hF : BytesAre vs xs)
    (hP1 : xs.flatten = esc sg (x.take pre.length)) (hP2 : vs.length ≤ 2 * pre.length) (hn : pre.length < x.length) (hd : d = [x.getD pre.length 0]) (hc : sg.contains (x.getD pre.length 0) = true) :
    InvEndN h₀ L (KstS (LedE lp) (fun _ => []) FactsE (Str.ofString "at") [] m₀ (PE sg x) (pre ++ [k])) own ((LedE lp ⟨[], [], 0⟩).map (·.1)) s { s with heap := h', toks := tk } := by
  refine es_end (ys := [.bytes [92].toArray t1, .bytes d.toArray t2]) (zs := [[92], d]) F N ?_ hF (.cons _ _ (.cons _ _ .nil)) (Nat.le_refl 2) hP1 hP2 hn ?_
  · rw [List.push_toArray, List.push_toArray, List.append_assoc]; rfl
  · rw [if_pos hc, hd]; rfl
theorem es_end1 {h₀ h' : Heap} {L lp : Addr} {s : Shared} {m₀ u : Str → Option Value} {sg x d : List UInt8} {pre : List Int} {n' tk : Nat} {k : Int} {v : Value} {vs : List Value} {xs : List (List UInt8)} {own : List (Addr × Obj)} {t2 : Tok}
    (F : Fr h₀ L h' (fun y => if y = Str.ofString "at" then some v else kstB (fun z => if ([] : List Str).contains z then u z else m₀ z) [] y)) (N : News h₀ L h' ((lp, W.listOf (vs.toArray.push (.bytes d.toArray t2)) n') :: own)) (hF : BytesAre vs xs)
    (hP1 : xs.flatten = esc sg (x.take pre.length)) (hP2 : vs.length ≤ 2 * pre.length) (hn : pre.length < x.length) (hd : d = [x.getD pre.length 0]) (hc : sg.contains (x.getD pre.length 0) = false) :
    InvEndN h₀ L (KstS (LedE lp) (fun _ => []) FactsE (Str.ofString "at") [] m₀ (PE sg x) (pre ++ [k])) own ((LedE lp ⟨[], [], 0⟩).map (·.1)) s { s with heap := h', toks := tk } := by
  refine es_end (ys := [.bytes d.toArray t2]) (zs := [d]) F N ?_ hF (.cons _ _ .nil) (show 1 ≤ 2 by decide) hP1 hP2 hn ?_
  · rw [List.push_toArray]
  · rw [if_neg (by rw [hc]; decide), hd]; rfl
theorem escaped_call {prog : Program} {w : World} {p : Program} {loose : List Str} {mean : ExcName → Option Value} {mg mb : Str → Option Value} {dp un : Nat} {gd : Option (List Code)} {l : List Env} {Q E : Value → Shared → Prop} {s : Shared}
    {x sg : List UInt8} {td ts : Tok}
    (X : (hd.heap_39 w.params).In s.heap) (T : Top p loose mean mg mb s.heap) (hd : dp + 20 < recursionLimit) (hsz : x.length ≤ 100000) (hnv : ∀ d ∈ x, never d = false)
    (hQ : ∀ h' tk t, (∀ b o, s.heap.get? b = some o → h'.get? b = some o) → Q (.bytes (esc sg x).toArray t) { s with heap := h', toks := tk }) :
    wpAny (model prog w) (Ar dp un gd l) (call (.ref 83) [.bytes x.toArray td, .bytes sg.toArray ts]) Q E s := by
  refine' enterG (g := s.heap) (binds := [(Str.ofString "octets", .bytes x.toArray td), (Str.ofString "signs", .bytes sg.toArray ts)]) X T.nolimit (fun _ _ q => q) (Nat.le_refl _) ?k1 ?k2 ?k3 ?k4 ?k5 ?_ ?c1 ?c2 ?c3 ?c4
  (case k1 => k_is); (case k2 => k_is); (case k3 => show dp < _; omega)
  (case k4 => exact BindsTo.of_eq rfl); (case k5 => exact locs rfl); (case c1 => rfl); (case c2 => rfl); (case c3 => rfl); (case c4 => decide)
  intro L h₁ hL F hk₁
  have N : News s.heap L h₁ [] := News.nil
  w_strict ((show wpAny _ _ _ _ _ _); k_fold; k_steps)
  show wpAny _ _ _ _ _ _
  rename_i lp hA l1 hB F9 N9 tb kk hD tkE t1 u1 v1 hR F8 N8 hkE
  clear F9 N9 hkE
  refine' kst_range (σ := EsSt) (LedE lp) (fun _ => []) FactsE [] (PE sg x) ⟨[], [], 0⟩ rfl hR (small_one (by omega) (by omega) (by omega) (by omega)) (rangeSize_nat _ _) F8 N8 .nil (List.forall_mem_nil _) ⟨rfl, Nat.le_refl _⟩ ?turn ?done
  case turn =>
    rintro ⟨vs, xs, nn⟩ pre k t u h2 tk2 own hk hlt hoff hF ⟨hP1, hP2⟩ F3 N3
    clear F8 N8
    obtain rfl : k = ((pre.length : Nat) : Int) := by omega
    have hlt' : pre.length < x.length := by omega
    dsimp only [LedE, FactsE] at hF hP1 hP2 F3 N3 hoff
    simp only [List.map_cons, List.map_nil] at hoff
    rw [List.cons_append, List.nil_append] at N3
    w_strict ((show wpAny _ _ _ _ _ _); k_steps)
    · rename Fr _ _ _ _ => F8
      rename News _ _ _ _ => N8
      exact es_end2 F8 N8 hF hP1 hP2 hlt' (one_at hlt') (br3 (by assumption))
    · rename Fr _ _ _ _ => F8
      rename News _ _ _ _ => N8
      exact es_end1 F8 N8 hF hP1 hP2 hlt' (one_at hlt') (br3 (by assumption))
  case done =>
    rintro ⟨vs, xs, nn⟩ u h2 tk2 hF ⟨hP1, hP2⟩ F3 N3
    clear F8 N8
    dsimp only [LedE, FactsE] at hF hP1 hP2 F3 N3
    rw [rangeKs_length] at hP1 hP2
    have hlx : ((x.length : Int) - 0).toNat = x.length := by omega
    rw [hlx] at hP1 hP2
    rw [List.take_length] at hP1
    have hel := esc_len sg x
    rw [← hP1] at hel
    w_strict ((show wpAny _ _ _ _ _ _); k_steps)
    rw [hP1]
    exact hQ _ _ _ F3.keep
end Mine
end
section
open PySem PySem.W PySem.Spec PySem.Calls PyProof.Rows
set_option maxHeartbeats 8000000
namespace Mine
theorem hearR_eq {q q' : Bool} (h : q = q') (x : List UInt8) (b : Nat) : hearR q x b = hear q' x b := by
  subst h
  cases q <;> rfl
theorem heard_ok {prog : Program} {w : World} {p : Program} {loose : List Str} {mean : ExcName → Option Value} {mg mb : Str → Option Value} {dp un : Nat} {gd : Option (List Code)} {envL : Env} {L : Addr} {Q E : Value → Shared → Prop} {s : Shared}
    {x : List UInt8} {q q' : Bool} {td tb : Tok} {begun : Nat} {h0 : Heap} {m0 : Str → Option Value} {news : List (Addr × Obj)} {v : List UInt8} {e : Nat}
    (hR : hear q' x begun = .ok v e) (hq : q = q') (X0 : (hd.heap_39 w.params).In h0) (T0 : Top p loose mean mg mb h0) (F0 : Fr h0 L s.heap m0) (N0 : News h0 L s.heap news) (hfL : envL.frame = some L) (hkL : envL.scope.kind ≠ .module) (hd : dp + 30 < recursionLimit) (hsz : x.length ≤ 1048576) (hb : begun + 1 ≤ x.length)
    (hok : ∀ h' tk r tv tn, Fr h0 L h' m0 → News h0 L h' ((r, { cls := .type "tuple", data := .seq #[.bytes v.toArray tv, .int (e : Int) tn] }) :: news) → (∀ p ∈ news, @Ne Nat p.1 r) → Q (.ref r) { s with heap := h', toks := tk }) :
    wpAny (model prog w) (Ar dp un gd [envL]) (call (.ref 97) [.bytes x.toArray td, .int (begun : Int) tb, .bool q]) Q E s := by
  refine heard_call X0 T0 F0 N0 hfL hkL hd hsz hb (fun v' e' h => ?_) fun n h => ?_
  · rw [hearR_eq hq, hR] at h
    cases h
    exact hok
  · rw [hearR_eq hq, hR] at h
    cases h
theorem heard_bad {prog : Program} {w : World} {p : Program} {loose : List Str} {mean : ExcName → Option Value} {mg mb : Str → Option Value} {dp un : Nat} {gd : Option (List Code)} {envL : Env} {L : Addr} {Q E : Value → Shared → Prop} {s : Shared}
    {x : List UInt8} {q q' : Bool} {td tb : Tok} {begun : Nat} {h0 : Heap} {m0 : Str → Option Value} {news : List (Addr × Obj)} {n : Nat}
    (hR : hear q' x begun = .bad n) (hq : q = q') (X0 : (hd.heap_39 w.params).In h0) (T0 : Top p loose mean mg mb h0) (F0 : Fr h0 L s.heap m0) (N0 : News h0 L s.heap news) (hfL : envL.frame = some L) (hkL : envL.scope.kind ≠ .module) (hd : dp + 30 < recursionLimit) (hsz : x.length ≤ 1048576) (hb : begun + 1 ≤ x.length)
    (hbad : ∀ h' tk tn, Fr h0 L h' m0 → News h0 L h' news → Q (.int (n : Int) tn) { s with heap := h', toks := tk }) :
    wpAny (model prog w) (Ar dp un gd [envL]) (call (.ref 97) [.bytes x.toArray td, .int (begun : Int) tb, .bool q]) Q E s := by
  refine heard_call X0 T0 F0 N0 hfL hkL hd hsz hb (fun v' e' h => ?_) fun n h => ?_
  · rw [hearR_eq hq, hR] at h
    cases h
  · rw [hearR_eq hq, hR] at h
    cases h
    exact hbad
theorem escaped_law {prog : Program} {w : World} {p : Program} {loose : List Str} {mean : ExcName → Option Value} {mg mb : Str → Option Value} {dp un : Nat} {gd : Option (List Code)} {l : List Env} {Q E : Value → Shared → Prop} {s : Shared}
    {x sg : List UInt8} {td ts : Tok} {L : Addr} {h0 : Heap} {m0 : Str → Option Value} {news : List (Addr × Obj)}
    (X0 : (hd.heap_39 w.params).In h0) (T0 : Top p loose mean mg mb h0) (F0 : Fr h0 L s.heap m0) (N0 : News h0 L s.heap news) (hd : dp + 30 < recursionLimit) (hsz : x.length ≤ 100000) (hnv : ∀ d ∈ x, never d = false)
    (hQ : ∀ h' tk t, Fr h0 L h' m0 → News h0 L h' news → Q (.bytes (esc sg x).toArray t) { s with heap := h', toks := tk }) :
    wpAny (model prog w) (Ar dp un gd l) (call (.ref 83) [.bytes x.toArray td, .bytes sg.toArray ts]) Q E s :=
  escaped_call (X0.keeps F0.keep) (T0.keeps F0.keep) (by omega) hsz hnv fun h' tk t kp => hQ h' tk t (F0.keeps kp) (N0.grown kp)
section
variable {prog : Program} {w : World} {A : Around} {E : Value → Shared → Prop} {s : Shared}
theorem item_menu {value slice : Expr} {a : Addr} {vs : List Value} {xs : List (List UInt8)} {d : Int} {u : Tok} {Q : Value → Shared → Prop} (ht : IsTup s.heap a vs.toArray) (hb : BytesAre vs xs) (h0 : 0 ≤ d) (h1 : d < (xs.length : Int)) (h2 : xs.length < 1000)
    (h : ∀ x t, x ∈ xs → Q (.bytes x.toArray t) s) (hs : subscripted slice false (.ref a) (.int d u) = operate [.ref a, .int d u] (getItem (.ref a) (.int d u)) := by with_unfolding_all rfl) :
    wpAny (model prog w) A (subscriptTail value slice (.ref a) (.int d u)) Q E s := by
  obtain ⟨hl, hg⟩ := hb.get
  obtain ⟨x, t, e1, e2⟩ := hg d.toNat (by omega)
  have a1 : -(2 ^ 63) ≤ d := by have : (-(2 ^ 63) : Int) = -9223372036854775808 := by decide
                                omega
  have a2 : d < 2 ^ 63 := by have : (2 ^ 63 : Int) = 9223372036854775808 := by decide
                             omega
  have a3 : seqIndex? d vs.length = some d.toNat := by
    have n1 : ¬ d < 0 := by omega
    have n2 : d < (vs.length : Int) := by omega
    simp [seqIndex?, n1, n2, h0]
  exact item_tupleT ht a1 a2 a3 e1 (h x t (List.mem_of_getElem? e2)) hs
end
end Mine
end
section
open PySem PySem.W PySem.Spec PySem.Calls PyProof.Rows
set_option maxHeartbeats 8000000
namespace Mine
section
variable {prog : Program} {w : World} {A : Around} {E : Value → Shared → Prop} {s : Shared} {Q : Value → Shared → Prop}
theorem eqAt_bytes (x : List UInt8) (t u : Tok) : SeqAt.EqAt A s (.bytes x.toArray t) (.bytes x.toArray u) true := fun prog w E Q h => by
  unfold eqBool
  refine wpAny_holding ?_
  refine wpAny_ite_split (fun _ => ?_) (fun _ => ?_)
  · exact wpAny_bind (wpAny_rule (wpAny_pure h))
  · refine wpAny_bind (eq_B (Q := _) (wpAny_truthy_bool ?_))
    rw [beq_self_eq_true]
    exact h
theorem eqAt_pair {x : List UInt8} {e : Int} {t u t2 u2 : Tok} : ∀ j (h1 : j < (#[Value.bytes x.toArray t, .int e u]).size) (h2 : j < (#[Value.bytes x.toArray t2, .int e u2]).size), SeqAt.EqAt A s (#[Value.bytes x.toArray t, .int e u])[j] (#[Value.bytes x.toArray t2, .int e u2])[j] ((fun _ => true) j)
  | 0, _, _ => eqAt_bytes x t t2
  | 1, _, _ => by
    have := SeqAt.EqAt.int_int (A := A) (s := s) e u e u2
    rw [beq_self_eq_true] at this
    exact this
  | j + 2, h1, _ => absurd h1 (by simp)
theorem ne_pair {a b : Addr} {x y : List UInt8} {e f : Int} {t u t2 u2 : Tok} (ha : s.heap.IsTuple a #[.bytes x.toArray t, .int e u]) (hb : s.heap.IsTuple b #[.bytes y.toArray t2, .int f u2]) (hu : A.units < cLine) (hx : x = y) (he : e = f) (h : Q (.bool false) s) :
    wpAny (model prog w) A (compareOp .NotEq (.ref a) (.ref b)) Q E s := by
  subst hx he
  exact SeqAt.RcNeAt.tuples ha hb hu eqAt_pair prog w E Q h
theorem eq_pair {a b : Addr} {x y : List UInt8} {e f : Int} {t u t2 u2 : Tok} (ha : s.heap.IsTuple a #[.bytes x.toArray t, .int e u]) (hb : s.heap.IsTuple b #[.bytes y.toArray t2, .int f u2]) (hu : A.units < cLine) (hx : x = y) (he : e = f) (h : Q (.bool true) s) :
    wpAny (model prog w) A (compareOp .Eq (.ref a) (.ref b)) Q E s := by
  subst hx he
  exact SeqAt.RcAt.tuples ha hb hu eqAt_pair prog w E Q h
theorem ne_int_K {a b : Int} {t u : Tok} (e : a = b) (h : Q (.bool false) s) : wpAny (model prog w) A (compareOp .NotEq (.int a t) (.int b u)) Q E s := by
  subst e
  refine ne_int ?_
  rw [bne_self_eq_false]
  exact h
theorem item_menu2 {value slice : Expr} {a : Addr} {vs : List Value} {xs : List (List UInt8)} {d : Int} {u : Tok} (ht : IsTup s.heap a vs.toArray) (hb : BytesAre vs xs) (h0 : 0 ≤ d) (h1 : d < (xs.length : Int)) (h2 : xs.length < 1000) (h3 : ∀ x ∈ xs, x.length ≤ 2)
    (h : ∀ (x : List UInt8) (t : Tok), x.length ≤ 2 → Q (.bytes x.toArray t) s) (hs : subscripted slice false (.ref a) (.int d u) = operate [.ref a, .int d u] (getItem (.ref a) (.int d u)) := by with_unfolding_all rfl) :
    wpAny (model prog w) A (subscriptTail value slice (.ref a) (.int d u)) Q E s :=
  item_menu ht hb h0 h1 h2 (fun x t hm => h x t (h3 x hm)) hs
theorem pick_upto (vs : List Value) {y : Int} (h : 0 ≤ y) : (slicePick vs.toArray none (some y) none).toList = vs.take y.toNat := by
  rw [← Int.toNat_of_nonneg h, slicePick_upto', Int.toNat_natCast]
theorem pick_from (vs : List Value) {x : Int} (h : 0 ≤ x) : (slicePick vs.toArray (some x) none none).toList = vs.drop x.toNat := by
  rw [← Int.toNat_of_nonneg h, slicePick_from', Int.toNat_natCast]
end
theorem take_le {xs : List (List UInt8)} {n k : Nat} (h : xs.flatten.length ≤ k) : (xs.take n).flatten.length ≤ k := by
  have e : (xs.take n).flatten.length + (xs.drop n).flatten.length = xs.flatten.length := by
    rw [← List.length_append, ← List.flatten_append, List.take_append_drop]
  omega
theorem drop_le {xs : List (List UInt8)} {n k : Nat} (h : xs.flatten.length ≤ k) : (xs.drop n).flatten.length ≤ k := by
  have e : (xs.take n).flatten.length + (xs.drop n).flatten.length = xs.flatten.length := by
    rw [← List.length_append, ← List.flatten_append, List.take_append_drop]
  omega
theorem join_K2 {prog : Program} {w : World} {A : Around} {E : Value → Shared → Prop} {s : Shared} {t : Tok} {a : Addr} {vs : List Value} {xs : List (List UInt8)} {Q : Value → Shared → Prop} (hl : s.heap.IsList a vs.toArray) (hb : BytesAre vs xs) (hsz : xs.flatten.length ≤ 1000) (h : xs.flatten.length ≤ 1000 → ∀ t' k, Q (.bytes xs.flatten.toArray t') { s with toks := k }) :
    wpAny (model prog w) A (call (.builtin "bytes.join") [.bytes #[] t, .ref a]) Q E s :=
  join_K hb hl (by omega) (h hsz)
theorem bar_len {ws : List (List UInt8)} {n : Nat} : (((ws.take n).flatten ++ [91] ++ (ws.drop n).flatten).length : Int) = (ws.flatten.length : Int) + 1 := by
  have e : (ws.take n).flatten.length + (ws.drop n).flatten.length = ws.flatten.length := by
    rw [← List.length_append, ← List.flatten_append, List.take_append_drop]
  simp only [List.length_append, List.length_cons, List.length_nil]
  omega
theorem len_L {prog : Program} {w : World} {A : Around} {E : Value → Shared → Prop} {s : Shared} {l : Addr} {vs : List Value} {Q : Value → Shared → Prop} (hl : s.heap.IsList l vs.toArray) (hz : vs.length ≤ 1000) (h : ∀ t k, Q (.int (vs.length : Nat) t) { s with toks := k }) :
    wpAny (model prog w) A (call (.builtin "len") [.ref l]) Q E s := by
  refine len_list hl ?_ ?_
  · have : (2 ^ 63 : Int) = 9223372036854775808 := by decide
    rw [List.size_toArray]
    omega
  · rw [List.size_toArray]
    exact h _ _
theorem escaped_law2 {prog : Program} {w : World} {p : Program} {loose : List Str} {mean : ExcName → Option Value} {mg mb : Str → Option Value} {dp un : Nat} {gd : Option (List Code)} {l : List Env} {Q E : Value → Shared → Prop} {s : Shared}
    {x sg : List UInt8} {td ts : Tok} {L : Addr} {h0 : Heap} {m0 : Str → Option Value} {news : List (Addr × Obj)}
    (X0 : (hd.heap_39 w.params).In h0) (T0 : Top p loose mean mg mb h0) (F0 : Fr h0 L s.heap m0) (N0 : News h0 L s.heap news) (hd : dp + 30 < recursionLimit) (hsz : x.length ≤ 100000) (hnv : ∀ d ∈ x, never d = false)
    (hQ : ∀ h' tk t, (esc sg x).length ≤ 2 * x.length → Fr h0 L h' m0 → News h0 L h' news → Q (.bytes (esc sg x).toArray t) { s with heap := h', toks := tk }) :
    wpAny (model prog w) (Ar dp un gd l) (call (.ref 83) [.bytes x.toArray td, .bytes sg.toArray ts]) Q E s :=
  escaped_law X0 T0 F0 N0 hd hsz hnv fun h' tk t F N => hQ h' tk t (esc_len sg x) F N
theorem bar_le {ws : List (List UInt8)} {n : Nat} (h : ws.flatten.length ≤ 1000) : ((ws.take n).flatten ++ [91] ++ (ws.drop n).flatten).length ≤ 16777216 := by
  have h1 := take_le (n := n) h
  have h2 := drop_le (n := n) h
  simp only [List.length_append, List.length_cons, List.length_nil]
  omega
theorem hear_againT {w : List UInt8} (h : ∀ d ∈ w, never d = false) : hear true ([34] ++ esc [34, 92] w ++ [34]) 0 = .ok w ([34] ++ esc [34, 92] w ++ [34]).length := hear_again (o := 34) (q := true) h
theorem hear_againF {w : List UInt8} (h : ∀ d ∈ w, never d = false) : hear false ([91] ++ esc [91, 93, 92] w ++ [93]) 0 = .ok w ([91] ++ esc [91, 93, 92] w ++ [93]).length := hear_again (o := 91) (q := false) h
theorem cut_len {xs : List (List UInt8)} (n : Nat) : (xs.take n).flatten.length + (xs.drop n).flatten.length = xs.flatten.length := by
  rw [← List.length_append, ← List.flatten_append, List.take_append_drop]
end Mine
end
section
open PySem PySem.W PySem.Spec PySem.Calls PyProof.Rows
set_option maxHeartbeats 8000000
namespace Mine
theorem set_back_Law3 : True := by
  w_top off
  trivial
end Mine
namespace Mine
local macro_rules | `(tactic| walk_at "compareOp Eq bytes bytes") => `(tactic| refine eq_B ?_)
local macro_rules | `(tactic| walk_at "compareOp NotEq bytes bytes") => `(tactic| refine ne_B ?_)
local macro_rules | `(tactic| walk_at "binaryOp Add bytes bytes") => `(tactic| (refine add_B (by omega) ?_; intro _ _))
local macro_rules | `(tactic| walk_at "compareOp In int bytes") => `(tactic| (refine in_bytes (by omega) (by omega) ?_))
local macro_rules | `(tactic| walk_at "compareOp In int ref") => `(tactic| (refine in_tuple_ints (items := #[Value.int 0 247, Value.int 10 248, Value.int 13 249]) (ns := [0, 10, 13]) ⟨_, Frag.In.keeps (by k_asm) (Fr.keep (by k_asm)) _ _ (by k_is), rfl, _, rfl⟩ (.cons _ _ (.cons _ _ (.cons _ _ .nil))) ?_))
theorem fillL : (hd.heap_39 = hd.heap_39) ∧ PySem.Challenge.rw_or0017_01 = PySem.Challenge.rw_or0017_01 := by
  k_fill
  exact ⟨rfl, rfl⟩
local macro_rules | `(tactic| walk_at "call ref") => `(tactic| focus ((show wpAny _ _ (call (Value.ref 97) _) _ _ _); refine hold_it ?_))
local macro_rules | `(tactic| walk_at "call ref") => `(tactic| focus ((show wpAny _ _ (call (Value.ref 90) _) _ _ _); (with_reducible rename Fr _ _ _ _ => F'); (with_reducible rename News _ _ _ _ => N'); (refine' take_law ?x ?t F' N' ?u ?i ?l ?d ?m ?m2 ?_); (case u => k_updF); (case x => assumption); (case t => assumption); (case i => assumption); (case l => first | assumption | omega); (case d => show _ + 1 + 30 < _; (try dsimp only [Ar]); omega); (case m => first | decide | omega); (case m2 => first | decide | omega); intro h' tk' d' t' vs' ns' n' hi' hl' hd0' hd1' F2' N2'; (try clear N'); (try clear F'); (try dsimp only at N2')))
local macro_rules | `(tactic| walk_at "exec For Name Call cons nil") => `(tactic| ((rename Fr _ _ _ _ => lF'); (with_unfolding_all refine' For_invVF lF' ?k1 ?k2 ?_); (case k1 => exact rfl); (case k2 => exact rfl)))
local macro_rules | `(tactic| walk_at "pyIter ref") => `(tactic| ((with_reducible show wpAny _ _ (pyIter (Value.ref _)) (fun it s₂ => LoopAtV _ _ _ _ _ _ _ _ _ it s₂) _ _); refine hold_it ?_))
local macro_rules | `(tactic| walk_at "execs cons") => `(tactic| ((with_reducible show wpAny _ _ (execs (Stmt.Assign [Expr.Name (Str.ofString "is_quoted") _] _ _ :: _) _) _ _ _); (rename Heap.CodeRec _ _ _ => hz); refine hold_it ?_))
local macro_rules | `(tactic| walk_at "call type:range") => `(tactic| ((rename Fr _ _ _ _ => F'); (rename News _ _ _ _ => N'); (with_unfolding_all refine range1_rows F' N' ?_); intro h' tk' t1' u1' v1' R' F2' N2' k2'; clear k2' N' F'))
local macro_rules | `(tactic| walk_at "subscriptTail Tuple cons Call ref int") => `(tactic| (refine hold_it ?_))
local macro_rules | `(tactic| walk_at "call builtin:list.append") => `(tactic| ((refine' append_K ?k1 ?k2 ?k3 ?_ ?z); (case k1 => k_asm); (case k2 => k_asm); (case k3 => k_upd); (case z => rw [List.size_toArray, sizeLine_eq]; omega); intro h' F' N'))
local macro_rules | `(tactic| walk_at "binaryOp Add bytes bytes") => `(tactic| (refine add_B (by simp only [List.length_append, List.length_cons, List.length_nil] <;> omega) ?_; intro _ _))
local macro_rules | `(tactic| walk_at "my own_news") => `(tactic| repeat (first | assumption | apply List.Mem.tail))
local macro_rules | `(tactic| walk_at "my off_turn") => `(tactic| (intro z hz1 hz2 hz3; have hz := hz2 _ (List.Mem.head _); simp only [List.contains_cons, List.contains_nil, Bool.or_false, Bool.or_eq_false_iff, beq_eq_false_iff_ne, ne_eq] at hz3; dsimp only at hz; obtain ⟨hz4, hz5⟩ := hz3; simp [kstB, hz1, hz, hz4, hz5]))
local macro_rules | `(tactic| walk_at "compareOp NotEq ref ref") => `(tactic| (refine hold_it ?_))
local macro_rules | `(tactic| walk_at "compareOp Eq ref ref") => `(tactic| (refine hold_it ?_))
local macro_rules | `(tactic| walk_at "subscriptTail Tuple cons Call ref int") => `(tactic| ((show wpAny _ _ (subscriptTail _ _ (Value.ref _) (Value.int _ _)) _ _ _); with_unfolding_all refine' item_menu2 ?mq1 ?mq2 (by assumption) ?mq3 ?mq4 ?mq5 ?_; (case mq1 => with_unfolding_all exact ⟨_, News.get (by k_asm) (by k_mem), rfl, _, rfl⟩); (case mq2 => with_unfolding_all first | exact BytesAre.cons _ _ (.cons _ _ (.cons _ _ .nil)) | exact BytesAre.cons _ _ (.cons _ _ (.cons _ _ (.cons _ _ .nil)))); (case mq3 => first | assumption | (simp only [List.length_cons, List.length_nil]; omega)); (case mq4 => with_unfolding_all decide); (case mq5 => with_unfolding_all decide); intro x' t' hl'))
local macro_rules | `(tactic| walk_at "getMethod bytes") => `(tactic| (refine method_join ?_))
local macro_rules | `(tactic| walk_at "call builtin:bytes.join") => `(tactic| ((with_unfolding_all refine' join_K2 ?mj1 ?mj2 ?mj3 ?_); (case mj1 => with_unfolding_all exact ⟨_, News.get (by k_asm) (by k_mem), rfl, _, rfl⟩); (case mj2 => first | assumption | exact BytesAre.take (by assumption) _ | exact BytesAre.drop (by assumption) _); (case mj3 => first | omega | exact take_le (by omega) | exact drop_le (by omega)); intro hz' _ _))
local macro_rules | `(tactic| walk_at "call builtin:len") => `(tactic| ((with_reducible show wpAny _ _ (call (Value.builtin "len") [Value.bytes (List.toArray _) _]) _ _ _); (refine len_B (by first | exact bar_le (by omega) | ((try simp only [List.length_append, List.length_cons, List.length_nil]); omega)) ?_); intro _ _))
local macro_rules | `(tactic| walk_at "compareOp NotEq ref ref") => `(tactic| ((show wpAny _ _ (compareOp CmpOp.NotEq (Value.ref _) (Value.ref _)) _ _ _); with_unfolding_all refine' ne_pair ?mp1 ?mp2 ?mp3 ?mp4 ?mp5 ?_; (case mp1 => with_unfolding_all exact ⟨_, News.get (by k_asm) (by k_mem), rfl, _, rfl⟩); (case mp2 => with_unfolding_all exact ⟨_, News.get (by k_asm) (by k_mem), rfl, _, rfl⟩); (case mp3 => show _ < cLine; dsimp only [Around.deeper, Ar]; omega); (case mp4 => with_reducible rfl); (case mp5 => first | with_reducible rfl | (simp only [List.length_append, List.length_cons, List.length_nil] <;> omega) | decide)))
local macro_rules | `(tactic| walk_at "compareOp Eq ref ref") => `(tactic| ((show wpAny _ _ (compareOp CmpOp.Eq (Value.ref _) (Value.ref _)) _ _ _); with_unfolding_all refine' eq_pair ?mp1 ?mp2 ?mp3 ?mp4 ?mp5 ?_; (case mp1 => with_unfolding_all exact ⟨_, News.get (by k_asm) (by k_mem), rfl, _, rfl⟩); (case mp2 => with_unfolding_all exact ⟨_, News.get (by k_asm) (by k_mem), rfl, _, rfl⟩); (case mp3 => show _ < cLine; dsimp only [Around.deeper, Ar]; omega); (case mp4 => with_reducible rfl); (case mp5 => first | with_reducible rfl | (simp only [List.length_append, List.length_cons, List.length_nil] <;> omega) | decide)))
local macro_rules | `(tactic| walk_at "compareOp NotEq int int") => `(tactic| ((show wpAny _ _ (compareOp CmpOp.NotEq (Value.int _ _) (Value.int _ _)) _ _ _); refine ne_int_K (by first | with_reducible rfl | exact bar_len | (simp only [List.length_append, List.length_cons, List.length_nil]; omega)) ?_))
local macro_rules | `(tactic| walk_at "subscriptTail Name Slice ref ref") => `(tactic| ((show wpAny _ _ (subscriptTail _ (PySem.Expr.Slice _ _ none _) (Value.ref _) (Value.ref _)) _ _ _); (with_reducible rename Fr _ _ _ _ => F'); (with_reducible rename News _ _ _ _ => N'); with_unfolding_all refine' kmk_slice_lit F' N' ?ml1 ?ml2 ?ml3 ?ml4 ?_ ?ml5 ?ml6 ?ml7; (case ml1 => with_unfolding_all exact ⟨_, News.get (by k_asm) (by k_mem), rfl, _, rfl⟩); (case ml2 => first | exact IsPart.none | exact IsPart.int _ _); (case ml3 => first | exact IsPart.none | exact IsPart.int _ _); (case ml4 => first | exact pick_upto _ (by assumption) | exact pick_from _ (by assumption)); (case ml5 => with_unfolding_all rfl); (case ml6 => intro _; with_unfolding_all rfl); (case ml7 => rw [List.size_toArray, sizeLine_eq]; omega); intro D' h' F' N' l1))
local macro_rules | `(tactic| walk_at "call builtin:len") => `(tactic| ((show wpAny _ _ (call (Value.builtin "len") [Value.ref _]) _ _ _); (with_unfolding_all refine' len_L ?mz1 ?mz2 ?_); (case mz1 => with_unfolding_all exact ⟨_, News.get (by k_asm) (by k_mem), rfl, _, rfl⟩); (case mz2 => omega); intro _ _))
local macro_rules | `(tactic| walk_at "call ref") => `(tactic| focus ((show wpAny _ _ (call (Value.ref 83) _) _ _ _); (with_reducible rename Fr _ _ _ _ => F'); (with_reducible rename News _ _ _ _ => N'); (with_unfolding_all refine' escaped_law2 ?me1 ?me2 F' N' ?me3 ?me4 ?me5 ?_); (case me1 => assumption); (case me2 => assumption); (case me3 => show _ + 1 + 30 < _; (try dsimp only [Ar]); omega); (case me4 => omega); (case me5 => exact Pcs.never (by assumption)); intro h' tk' t' hel' F2' N2'; (try clear N'); (try clear F')))
local macro_rules | `(tactic| walk_at "call builtin:isinstance") => `(tactic| ((with_reducible show wpAny _ _ (call (Value.builtin "isinstance") [Value.ref _, Value.type _]) _ _ _); with_unfolding_all refine' PySem.IsiPair.tuple_int ?mi1 ?mi2 ?_; (case mi1 => exact News.get (by k_asm) (by k_mem)); (case mi2 => with_unfolding_all rfl)))
structure LSt where
  vs : List Value
  ns : List Int
  n : Nat
  bs : List Value
  xs : List (List UInt8)
  nb : Nat
  ws : List (List UInt8)
  tw : Tok
abbrev LedL (lp D : Addr) (c : LSt) : List (Addr × Obj) := [(lp, W.listOf c.bs.toArray c.nb), (D, W.listOf c.vs.toArray c.n)]
abbrev PsL (c : LSt) : List (Str × Value) := [(Str.ofString "worth", .bytes c.ws.flatten.toArray c.tw)]
abbrev FactsL (c : LSt) : Prop := IntsAre c.vs c.ns ∧ c.vs.length ≤ 63 ∧ BytesAre c.bs c.xs
abbrev PL (q : Bool) (pre : List Int) (c : LSt) : Prop := Pcs q c.xs c.ws ∧ c.xs.length = pre.length
theorem BytesAre.len {vs : List Value} {xs : List (List UInt8)} (h : BytesAre vs xs) : vs.length = xs.length := by
  induction h with
  | nil => rfl
  | cons x t h ih => rw [List.length_cons, List.length_cons, ih]
theorem cases8 {d : Int} (h0 : 0 ≤ d) (h : d < 8) : d = 0 ∨ d = 1 ∨ d = 2 ∨ d = 3 ∨ d = 4 ∨ d = 5 ∨ d = 6 ∨ d = 7 := by omega
theorem turn_law {q : Bool} {h₀ h' : Heap} {L lp D : Addr} {s : Shared} {m₀ m' : Str → Option Value} {pre : List Int} {n' nb tk : Nat} {k : Int} {x w : List UInt8} {vs' bs : List Value} {ns' : List Int} {xs ws : List (List UInt8)} {own news : List (Addr × Obj)} {tx tw : Tok} {c0 : LSt}
    (hm : (x, w) ∈ menu q) (F : Fr h₀ L h' m') (N : News h₀ L h' news) (h1 : (lp, W.listOf (bs.toArray.push (.bytes x.toArray tx)) (nb + 1)) ∈ news) (h2 : (D, W.listOf vs'.toArray n') ∈ news) (ho : ∀ p ∈ own, p ∈ news) (hi : IntsAre vs' ns') (hl : vs'.length ≤ 63) (hF : BytesAre bs xs)
    (hP1 : Pcs q xs ws) (hP2 : xs.length = pre.length) (hk : m' (Str.ofString "worth") = some (.bytes (ws.flatten ++ w).toArray tw))
    (hr : ∀ z, z ≠ Str.ofString "turn" → (∀ p ∈ PsL ⟨vs', ns', n', bs ++ [.bytes x.toArray tx], xs ++ [x], nb + 1, ws ++ [w], tw⟩, z ≠ p.1) → [Str.ofString "one", Str.ofString "told"].contains z = false → m' z = m₀ z) :
    InvEndN h₀ L (KstS (LedL lp D) PsL FactsL (Str.ofString "turn") [Str.ofString "one", Str.ofString "told"] m₀ (PL q) (pre ++ [k])) own ((LedL lp D c0).map (·.1)) s { s with heap := h', toks := tk } := by
  refine kst_end (⟨vs', ns', n', bs ++ [.bytes x.toArray tx], xs ++ [x], nb + 1, ws ++ [w], tw⟩ : LSt) F N ?_ ho rfl ⟨hi, hl, hF.app (.one x tx)⟩ ?_ hr ⟨hP1.snoc hm, ?_⟩
  · intro p hp
    rcases List.mem_cons.mp hp with rfl | hp
    · rw [← List.push_toArray]
      exact h1
    · rw [List.mem_singleton.mp hp]
      exact h2
  · intro p hp
    rw [List.mem_singleton.mp hp]
    show m' (Str.ofString "worth") = some (.bytes (ws ++ [w]).flatten.toArray tw)
    rw [hk, List.flatten_append, List.flatten_cons, List.flatten_nil, List.append_nil]
  · rw [List.length_append, List.length_append, hP2]
    rfl
set_option maxHeartbeats 0 in
theorem law1 : PySem.Challenge.rw_or0017_01.Holds := hd (by
  w_strict (k_go0; (all_goals try k_fold); k_steps)
  show wpAny _ _ _ _ _ _
  rename_i w s0 s1 mg mb G Y fa o pm doc kV ho hg KX X V GL T B TE TW w9 w8 M w7 w6 hcd w5 hs hlay0 hL1 hr1 hl2 w4 w3 w2 w1 w0 hL ra ww1 r0 hI hr hc1 hc K0 hD h₁ D1 ws h1 F1 nD hI' hC' hL' l1 hkl1 hkl g' hI8 hL8 D h2 tk2 F2 N2 o1
  have hA : callerA = Ar callerA.depth callerA.units callerA.guards [] := rfl
  have hdp : callerA.depth + 40 < recursionLimit := by decide
  have hun : callerA.units + 100 < cLine := by decide
  rw [hA]
  clear hA
  generalize callerA.depth = dp at hdp ⊢
  generalize callerA.units = un at hun ⊢
  generalize callerA.guards = gd
  show wpAny _ _ _ _ _ _
  k_fold
  have hT : ∀ h' tk m' news', Fr s1.heap s1.heap.objs.size h' m' → News s1.heap s1.heap.objs.size h' news' → qk (Flow.ret (.bool true)) ⟨h', s1.gens, s1.drawn, tk, s1.os⟩ := by
    intro h' tk m' news' F9 N9
    clear F1 nD F2 N2
    w_strict k_steps
  have hlen : ys.length ≤ 24 := by rw [hL8, List.length_map, List.length_take]; omega
  clear_value qk
  clear G Y ho hg X V GL B TE TW M hcd hs hlay0 hL1 hr1 hl2 hL ra ww1 r0 hI hr hc1 hc K0 hD F1 nD hI' hC' hL' l1 hkl1 hkl hL8
  have N3 : News s1.heap s1.heap.objs.size h2 [(D, W.listOf ys.toArray ys.length)] := fun p hp => by
    rw [List.mem_singleton.mp hp]
    exact N2 _ (.head _)
  clear N2 o1
  generalize List.map _ (List.take 24 w5) = ns at hI8
  obtain ⟨m, hm⟩ : ∃ m, m = ys.length := ⟨_, rfl⟩
  rw [← hm] at N3
  clear hm
  w_strict k_steps
  · show wpAny _ _ _ _ _ _
    rename_i h13 tka dq tq vs1 ns1 n1 hi1 hl1 hdq0 hdq1 h12 tkb hq Dt h11 l12 h10 h9 h8 h7 tkw lp h6 l11 Du h5 l13 h4 h3 h2b h1b tkc d t0 vs0 ns0 n0 hi0 hl0 hd0 hd1 h0b tkd t1 u1 v1 R F3 N4
    have hDl : @LT.lt Nat _ D lp := l11.2
    clear hI8 hi1 hl1 l12 l11 l13
    have hqb : (dq == 0) = true := by rw [hq]; rfl
    rw [hqb] at F3
    clear hqb
    have N5 : News s1.heap s1.heap.objs.size h0b [(lp, W.listOf #[] 0), (D, W.listOf vs0.toArray n0)] := kst_newsOf N4 (by
      intro p hp
      rcases List.mem_cons.mp hp with rfl | hp
      · exact .tail _ (.head _)
      · rw [List.mem_singleton.mp hp]
        exact .tail _ (.tail _ (.tail _ (.head _))))
    clear N4
    refine' kst_range (σ := LSt) (LedL lp D) PsL FactsL [Str.ofString "one", Str.ofString "told"] (PL true) ⟨vs0, ns0, n0, [], [], 0, [], ?toktrue⟩ rfl R (small_one (by omega) (by omega) (by omega) (by omega)) (rangeSize_nat _ _) F3 N5 ⟨hi0, hl0, .nil⟩ ?hk ⟨.nil, rfl⟩ ?turn ?done
    case hk =>
      intro p hp
      rw [List.mem_singleton.mp hp]
      rfl
    case turn =>
      rintro ⟨vs, ns, nn, bs, xs, nb, ws, tw⟩ pre k t u h tk2 own hk hlt hoff ⟨hF1, hF2, hF3⟩ ⟨hP1, hP2⟩ F6 N6
      clear F3 N5 hi0 hl0 R
      dsimp only [LedL, PsL, FactsL] at hF1 hF2 hF3 hP1 hP2 F6 N6 hoff
      simp only [List.map_cons, List.map_nil] at hoff
      simp only [List.cons_append, List.nil_append] at N6
      have hb1 := hF3.len
      have hb2 := hP1.len
      have hb3 : pre.length < 8 := by omega
      w_strict ((show wpAny _ _ _ _ _ _); k_steps)
      show wpAny _ _ _ _ _ _
      rename_i h7 tk7 d7 t7 vs7 ns7 n7 hi7 hl7 hA7 hB7 F7 N7
      rcases cases8 hA7 hB7 with rfl | rfl | rfl | rfl | rfl | rfl | rfl | rfl
      · refine item_tupleT (l := [_, _, _, _, _, _, _, _]) (j := 0) ⟨_, (N7 _ (.head _)).1, rfl, _, rfl⟩ (by decide) (by decide) rfl rfl ?_
        clear hA7 hB7 hF1 hF2
        w_strict k_steps
        rename Fr _ _ _ _ => F8
        rename News _ _ _ _ => N8
        exact turn_law (x := [97, 98]) (w := [97, 98]) (by decide) F8 N8 (by k_mem) (by k_mem) (fun p hp => by walk_at "my own_news") hi7 hl7 hF3 hP1 hP2 rfl (by walk_at "my off_turn")
      · refine item_tupleT (l := [_, _, _, _, _, _, _, _]) (j := 1) ⟨_, (N7 _ (.head _)).1, rfl, _, rfl⟩ (by decide) (by decide) rfl rfl ?_
        clear hA7 hB7 hF1 hF2
        w_strict k_steps
        rename Fr _ _ _ _ => F8
        rename News _ _ _ _ => N8
        exact turn_law (x := [92, 34]) (w := [34]) (by decide) F8 N8 (by k_mem) (by k_mem) (fun p hp => by walk_at "my own_news") hi7 hl7 hF3 hP1 hP2 rfl (by walk_at "my off_turn")
      · refine item_tupleT (l := [_, _, _, _, _, _, _, _]) (j := 2) ⟨_, (N7 _ (.head _)).1, rfl, _, rfl⟩ (by decide) (by decide) rfl rfl ?_
        clear hA7 hB7 hF1 hF2
        w_strict k_steps
        rename Fr _ _ _ _ => F8
        rename News _ _ _ _ => N8
        exact turn_law (x := [92, 92]) (w := [92]) (by decide) F8 N8 (by k_mem) (by k_mem) (fun p hp => by walk_at "my own_news") hi7 hl7 hF3 hP1 hP2 rfl (by walk_at "my off_turn")
      · refine item_tupleT (l := [_, _, _, _, _, _, _, _]) (j := 3) ⟨_, (N7 _ (.head _)).1, rfl, _, rfl⟩ (by decide) (by decide) rfl rfl ?_
        clear hA7 hB7 hF1 hF2
        w_strict k_steps
        rename Fr _ _ _ _ => F8
        rename News _ _ _ _ => N8
        exact turn_law (x := [13, 10, 32]) (w := [32]) (by decide) F8 N8 (by k_mem) (by k_mem) (fun p hp => by walk_at "my own_news") hi7 hl7 hF3 hP1 hP2 rfl (by walk_at "my off_turn")
      · refine item_tupleT (l := [_, _, _, _, _, _, _, _]) (j := 4) ⟨_, (N7 _ (.head _)).1, rfl, _, rfl⟩ (by decide) (by decide) rfl rfl ?_
        clear hA7 hB7 hF1 hF2
        w_strict k_steps
        rename Fr _ _ _ _ => F8
        rename News _ _ _ _ => N8
        exact turn_law (x := [10]) (w := []) (by decide) F8 N8 (by k_mem) (by k_mem) (fun p hp => by walk_at "my own_news") hi7 hl7 hF3 hP1 hP2 rfl (by walk_at "my off_turn")
      · refine item_tupleT (l := [_, _, _, _, _, _, _, _]) (j := 5) ⟨_, (N7 _ (.head _)).1, rfl, _, rfl⟩ (by decide) (by decide) rfl rfl ?_
        clear hA7 hB7 hF1 hF2
        w_strict k_steps
        rename Fr _ _ _ _ => F8
        rename News _ _ _ _ => N8
        exact turn_law (x := [40, 93]) (w := [40, 93]) (by decide) F8 N8 (by k_mem) (by k_mem) (fun p hp => by walk_at "my own_news") hi7 hl7 hF3 hP1 hP2 rfl (by walk_at "my off_turn")
      · refine item_tupleT (l := [_, _, _, _, _, _, _, _]) (j := 6) ⟨_, (N7 _ (.head _)).1, rfl, _, rfl⟩ (by decide) (by decide) rfl rfl ?_
        clear hA7 hB7 hF1 hF2
        w_strict k_steps
        rename Fr _ _ _ _ => F8
        rename News _ _ _ _ => N8
        exact turn_law (x := [255]) (w := [255]) (by decide) F8 N8 (by k_mem) (by k_mem) (fun p hp => by walk_at "my own_news") hi7 hl7 hF3 hP1 hP2 rfl (by walk_at "my off_turn")
      · refine item_tupleT (l := [_, _, _, _, _, _, _, _]) (j := 7) ⟨_, (N7 _ (.head _)).1, rfl, _, rfl⟩ (by decide) (by decide) rfl rfl ?_
        clear hA7 hB7 hF1 hF2
        w_strict k_steps
        rename Fr _ _ _ _ => F8
        rename News _ _ _ _ => N8
        exact turn_law (x := [92, 120]) (w := [120]) (by decide) F8 N8 (by k_mem) (by k_mem) (fun p hp => by walk_at "my own_news") hi7 hl7 hF3 hP1 hP2 rfl (by walk_at "my off_turn")
    case done =>
      rintro ⟨vs, ns, nn, bs, xs, nb, ws, tw⟩ u h tk2 ⟨hF1, hF2, hF3⟩ ⟨hP1, hP2⟩ F6 N6
      clear F3 N5 hi0 hl0 R
      dsimp only [LedL, PsL, FactsL] at hF1 hF2 hF3 hP1 hP2 F6 N6
      rw [rangeKs_length] at hP2
      have hb1 := hF3.len
      have hb2 := hP1.len
      have hb3 : xs.length ≤ 8 := by omega
      w_strict ((show wpAny _ _ _ _ _ _); k_steps)
      show wpAny _ _ _ _ _ _
      rename Fr _ _ _ _ => F7
      rename News _ _ _ _ => N7
      refine heard_ok (hear_whole hP1.good) rfl KX T F7 N7 rfl (by intro q; cases q) ?_ ?_ ?_ ?_
      · show _ + 1 + 30 < _; (try dsimp only [Ar]); omega
      · simp only [List.length_append, List.length_cons, List.length_nil]; omega
      · simp only [List.length_append, List.length_cons, List.length_nil]; omega
      intro h10 tk10 r10 tv10 tn10 F10 N10 hn10
      simp only [List.forall_mem_cons, List.not_mem_nil, false_implies, implies_true, and_true] at hn10
      clear F7 N7
      w_strict k_steps
      show wpAny _ _ _ _ _ _
      rename Fr _ _ _ _ => F7
      rename News _ _ _ _ => N7
      refine heard_bad (hear_cut hP1.good) rfl KX T F7 N7 rfl (by intro q; cases q) ?_ ?_ ?_ ?_
      · show _ + 1 + 30 < _; (try dsimp only [Ar]); omega
      · simp only [List.length_append, List.length_cons, List.length_nil]; omega
      · simp only [List.length_append, List.length_cons, List.length_nil]; omega
      intro h10 tk10 tn10 F10 N10
      clear F7 N7
      w_strict k_steps
      show wpAny _ _ _ _ _ _
      rename Fr _ _ _ _ => F7
      rename News _ _ _ _ => N7
      refine heard_bad (hear_slash hP1.good) rfl KX T F7 N7 rfl (by intro q; cases q) ?_ ?_ ?_ ?_
      · show _ + 1 + 30 < _; (try dsimp only [Ar]); omega
      · simp only [List.length_append, List.length_cons, List.length_nil]; omega
      · simp only [List.length_append, List.length_cons, List.length_nil]; omega
      intro h10 tk10 tn10 F10 N10
      clear F7 N7
      w_strict k_steps
      show wpAny _ _ _ _ _ _
      rename Fr _ _ _ _ => F7
      rename News _ _ _ _ => N7
      refine heard_bad (hear_odd (hP1.take _).good (by decide)) rfl KX T F7 N7 rfl (by intro q; cases q) ?_ ?_ ?_ ?_
      · show _ + 1 + 30 < _; (try dsimp only [Ar]); omega
      · simp only [List.length_append, List.length_cons, List.length_nil]; omega
      · simp only [List.length_append, List.length_cons, List.length_nil]; omega
      intro h10 tk10 tn10 F10 N10
      clear F7 N7
      w_strict k_steps
      show wpAny _ _ _ _ _ _
      rename Fr _ _ _ _ => F7
      rename News _ _ _ _ => N7
      refine heard_bad (hear_odd (hP1.take _).good (by decide)) rfl KX T F7 N7 rfl (by intro q; cases q) ?_ ?_ ?_ ?_
      · show _ + 1 + 30 < _; (try dsimp only [Ar]); omega
      · simp only [List.length_append, List.length_cons, List.length_nil]; omega
      · simp only [List.length_append, List.length_cons, List.length_nil]; omega
      intro h10 tk10 tn10 F10 N10
      clear F7 N7
      w_strict k_steps
      show wpAny _ _ _ _ _ _
      rename Fr _ _ _ _ => F7
      rename News _ _ _ _ => N7
      refine heard_bad (hear_odd (hP1.take _).good (by decide)) rfl KX T F7 N7 rfl (by intro q; cases q) ?_ ?_ ?_ ?_
      · show _ + 1 + 30 < _; (try dsimp only [Ar]); omega
      · simp only [List.length_append, List.length_cons, List.length_nil]; omega
      · simp only [List.length_append, List.length_cons, List.length_nil]; omega
      intro h10 tk10 tn10 F10 N10
      clear F7 N7
      w_strict k_steps
      show wpAny _ _ _ _ _ _
      rename Fr _ _ _ _ => F7
      rename News _ _ _ _ => N7
      refine heard_bad (hear_odd (hP1.take _).good (by decide)) rfl KX T F7 N7 rfl (by intro q; cases q) ?_ ?_ ?_ ?_
      · show _ + 1 + 30 < _; (try dsimp only [Ar]); omega
      · simp only [List.length_append, List.length_cons, List.length_nil]; omega
      · simp only [List.length_append, List.length_cons, List.length_nil]; omega
      intro h10 tk10 tn10 F10 N10
      clear F7 N7
      w_strict k_steps
      show wpAny _ _ _ _ _ _
      rename Fr _ _ _ _ => F7
      rename News _ _ _ _ => N7
      refine heard_ok (hear_barT rfl (hP1.take _).good (hP1.drop _).good) rfl KX T F7 N7 rfl (by intro q; cases q) ?_ ?_ ?_ ?_
      · show _ + 1 + 30 < _; (try dsimp only [Ar]); omega
      · simp only [List.length_append, List.length_cons, List.length_nil]; omega
      · simp only [List.length_append, List.length_cons, List.length_nil]; omega
      intro h10 tk10 r10 tv10 tn10 F10 N10 hn10
      simp only [List.forall_mem_cons, List.not_mem_nil, false_implies, implies_true, and_true] at hn10
      clear F7 N7
      w_strict k_steps
      show wpAny _ _ _ _ _ _
      rename Fr _ _ _ _ => F7
      rename News _ _ _ _ => N7
      refine heard_ok (hear_againT hP1.never) rfl KX T F7 N7 rfl (by intro q; cases q) ?_ ?_ ?_ ?_
      · show _ + 1 + 30 < _; (try dsimp only [Ar]); omega
      · simp only [List.length_append, List.length_cons, List.length_nil]; omega
      · simp only [List.length_append, List.length_cons, List.length_nil]; omega
      intro h10 tk10 r10 tv10 tn10 F10 N10 hn10
      simp only [List.forall_mem_cons, List.not_mem_nil, false_implies, implies_true, and_true] at hn10
      clear F7 N7
      w_strict k_steps
      show wpAny _ _ _ _ _ _
      rename Fr _ _ _ _ => F7
      rename News _ _ _ _ => N7
      refine heard_ok (hear_last) rfl KX T F7 N7 rfl (by intro q; cases q) ?_ ?_ ?_ ?_
      · show _ + 1 + 30 < _; (try dsimp only [Ar]); omega
      · decide
      · decide
      intro h10 tk10 r10 tv10 tn10 F10 N10 hn10
      simp only [List.forall_mem_cons, List.not_mem_nil, false_implies, implies_true, and_true] at hn10
      clear F7 N7
      w_strict k_steps
      rename Fr _ _ _ _ => F7
      rename News _ _ _ _ => N7
      exact hT _ _ _ _ F7 N7
  · show wpAny _ _ _ _ _ _
    rename_i h13 tka dq tq vs1 ns1 n1 hi1 hl1 hdq0 hdq1 h12 tkb hq Dt h11 l12 h10 h9 h8 h7 tkw lp h6 l11 Du h5 l13 h4 h3 h2b h1b tkc d t0 vs0 ns0 n0 hi0 hl0 hd0 hd1 h0b tkd t1 u1 v1 R F3 N4
    have hDl : @LT.lt Nat _ D lp := l11.2
    clear hI8 hi1 hl1 l12 l11 l13
    have hqb : (dq == 0) = false := by simpa using hq
    rw [hqb] at F3
    clear hqb
    have N5 : News s1.heap s1.heap.objs.size h0b [(lp, W.listOf #[] 0), (D, W.listOf vs0.toArray n0)] := kst_newsOf N4 (by
      intro p hp
      rcases List.mem_cons.mp hp with rfl | hp
      · exact .tail _ (.head _)
      · rw [List.mem_singleton.mp hp]
        exact .tail _ (.tail _ (.tail _ (.head _))))
    clear N4
    refine' kst_range (σ := LSt) (LedL lp D) PsL FactsL [Str.ofString "one", Str.ofString "told"] (PL false) ⟨vs0, ns0, n0, [], [], 0, [], ?tokfalse⟩ rfl R (small_one (by omega) (by omega) (by omega) (by omega)) (rangeSize_nat _ _) F3 N5 ⟨hi0, hl0, .nil⟩ ?hk ⟨.nil, rfl⟩ ?turn ?done
    case hk =>
      intro p hp
      rw [List.mem_singleton.mp hp]
      rfl
    case turn =>
      rintro ⟨vs, ns, nn, bs, xs, nb, ws, tw⟩ pre k t u h tk2 own hk hlt hoff ⟨hF1, hF2, hF3⟩ ⟨hP1, hP2⟩ F6 N6
      clear F3 N5 hi0 hl0 R
      dsimp only [LedL, PsL, FactsL] at hF1 hF2 hF3 hP1 hP2 F6 N6 hoff
      simp only [List.map_cons, List.map_nil] at hoff
      simp only [List.cons_append, List.nil_append] at N6
      have hb1 := hF3.len
      have hb2 := hP1.len
      have hb3 : pre.length < 8 := by omega
      w_strict ((show wpAny _ _ _ _ _ _); k_steps)
      show wpAny _ _ _ _ _ _
      rename_i h7 tk7 d7 t7 vs7 ns7 n7 hi7 hl7 hA7 hB7 F7 N7
      rcases cases8 hA7 hB7 with rfl | rfl | rfl | rfl | rfl | rfl | rfl | rfl
      · refine item_tupleT (l := [_, _, _, _, _, _, _, _]) (j := 0) ⟨_, (N7 _ (.head _)).1, rfl, _, rfl⟩ (by decide) (by decide) rfl rfl ?_
        clear hA7 hB7 hF1 hF2
        w_strict k_steps
        rename Fr _ _ _ _ => F8
        rename News _ _ _ _ => N8
        exact turn_law (x := [97, 98]) (w := [97, 98]) (by decide) F8 N8 (by k_mem) (by k_mem) (fun p hp => by walk_at "my own_news") hi7 hl7 hF3 hP1 hP2 rfl (by walk_at "my off_turn")
      · refine item_tupleT (l := [_, _, _, _, _, _, _, _]) (j := 1) ⟨_, (N7 _ (.head _)).1, rfl, _, rfl⟩ (by decide) (by decide) rfl rfl ?_
        clear hA7 hB7 hF1 hF2
        w_strict k_steps
        rename Fr _ _ _ _ => F8
        rename News _ _ _ _ => N8
        exact turn_law (x := [92, 93]) (w := [93]) (by decide) F8 N8 (by k_mem) (by k_mem) (fun p hp => by walk_at "my own_news") hi7 hl7 hF3 hP1 hP2 rfl (by walk_at "my off_turn")
      · refine item_tupleT (l := [_, _, _, _, _, _, _, _]) (j := 2) ⟨_, (N7 _ (.head _)).1, rfl, _, rfl⟩ (by decide) (by decide) rfl rfl ?_
        clear hA7 hB7 hF1 hF2
        w_strict k_steps
        rename Fr _ _ _ _ => F8
        rename News _ _ _ _ => N8
        exact turn_law (x := [92, 92]) (w := [92]) (by decide) F8 N8 (by k_mem) (by k_mem) (fun p hp => by walk_at "my own_news") hi7 hl7 hF3 hP1 hP2 rfl (by walk_at "my off_turn")
      · refine item_tupleT (l := [_, _, _, _, _, _, _, _]) (j := 3) ⟨_, (N7 _ (.head _)).1, rfl, _, rfl⟩ (by decide) (by decide) rfl rfl ?_
        clear hA7 hB7 hF1 hF2
        w_strict k_steps
        rename Fr _ _ _ _ => F8
        rename News _ _ _ _ => N8
        exact turn_law (x := [13, 10, 32]) (w := [32]) (by decide) F8 N8 (by k_mem) (by k_mem) (fun p hp => by walk_at "my own_news") hi7 hl7 hF3 hP1 hP2 rfl (by walk_at "my off_turn")
      · refine item_tupleT (l := [_, _, _, _, _, _, _, _]) (j := 4) ⟨_, (N7 _ (.head _)).1, rfl, _, rfl⟩ (by decide) (by decide) rfl rfl ?_
        clear hA7 hB7 hF1 hF2
        w_strict k_steps
        rename Fr _ _ _ _ => F8
        rename News _ _ _ _ => N8
        exact turn_law (x := [10]) (w := []) (by decide) F8 N8 (by k_mem) (by k_mem) (fun p hp => by walk_at "my own_news") hi7 hl7 hF3 hP1 hP2 rfl (by walk_at "my off_turn")
      · refine item_tupleT (l := [_, _, _, _, _, _, _, _]) (j := 5) ⟨_, (N7 _ (.head _)).1, rfl, _, rfl⟩ (by decide) (by decide) rfl rfl ?_
        clear hA7 hB7 hF1 hF2
        w_strict k_steps
        rename Fr _ _ _ _ => F8
        rename News _ _ _ _ => N8
        exact turn_law (x := [34, 41]) (w := [34, 41]) (by decide) F8 N8 (by k_mem) (by k_mem) (fun p hp => by walk_at "my own_news") hi7 hl7 hF3 hP1 hP2 rfl (by walk_at "my off_turn")
      · refine item_tupleT (l := [_, _, _, _, _, _, _, _]) (j := 6) ⟨_, (N7 _ (.head _)).1, rfl, _, rfl⟩ (by decide) (by decide) rfl rfl ?_
        clear hA7 hB7 hF1 hF2
        w_strict k_steps
        rename Fr _ _ _ _ => F8
        rename News _ _ _ _ => N8
        exact turn_law (x := [255]) (w := [255]) (by decide) F8 N8 (by k_mem) (by k_mem) (fun p hp => by walk_at "my own_news") hi7 hl7 hF3 hP1 hP2 rfl (by walk_at "my off_turn")
      · refine item_tupleT (l := [_, _, _, _, _, _, _, _]) (j := 7) ⟨_, (N7 _ (.head _)).1, rfl, _, rfl⟩ (by decide) (by decide) rfl rfl ?_
        clear hA7 hB7 hF1 hF2
        w_strict k_steps
        rename Fr _ _ _ _ => F8
        rename News _ _ _ _ => N8
        exact turn_law (x := [92, 120]) (w := [120]) (by decide) F8 N8 (by k_mem) (by k_mem) (fun p hp => by walk_at "my own_news") hi7 hl7 hF3 hP1 hP2 rfl (by walk_at "my off_turn")
    case done =>
      rintro ⟨vs, ns, nn, bs, xs, nb, ws, tw⟩ u h tk2 ⟨hF1, hF2, hF3⟩ ⟨hP1, hP2⟩ F6 N6
      clear F3 N5 hi0 hl0 R
      dsimp only [LedL, PsL, FactsL] at hF1 hF2 hF3 hP1 hP2 F6 N6
      rw [rangeKs_length] at hP2
      have hb1 := hF3.len
      have hb2 := hP1.len
      have hb3 : xs.length ≤ 8 := by omega
      w_strict ((show wpAny _ _ _ _ _ _); k_steps)
      show wpAny _ _ _ _ _ _
      rename Fr _ _ _ _ => F7
      rename News _ _ _ _ => N7
      refine heard_ok (hear_whole hP1.good) rfl KX T F7 N7 rfl (by intro q; cases q) ?_ ?_ ?_ ?_
      · show _ + 1 + 30 < _; (try dsimp only [Ar]); omega
      · simp only [List.length_append, List.length_cons, List.length_nil]; omega
      · simp only [List.length_append, List.length_cons, List.length_nil]; omega
      intro h10 tk10 r10 tv10 tn10 F10 N10 hn10
      simp only [List.forall_mem_cons, List.not_mem_nil, false_implies, implies_true, and_true] at hn10
      clear F7 N7
      w_strict k_steps
      show wpAny _ _ _ _ _ _
      rename Fr _ _ _ _ => F7
      rename News _ _ _ _ => N7
      refine heard_bad (hear_cut hP1.good) rfl KX T F7 N7 rfl (by intro q; cases q) ?_ ?_ ?_ ?_
      · show _ + 1 + 30 < _; (try dsimp only [Ar]); omega
      · simp only [List.length_append, List.length_cons, List.length_nil]; omega
      · simp only [List.length_append, List.length_cons, List.length_nil]; omega
      intro h10 tk10 tn10 F10 N10
      clear F7 N7
      w_strict k_steps
      show wpAny _ _ _ _ _ _
      rename Fr _ _ _ _ => F7
      rename News _ _ _ _ => N7
      refine heard_bad (hear_slash hP1.good) rfl KX T F7 N7 rfl (by intro q; cases q) ?_ ?_ ?_ ?_
      · show _ + 1 + 30 < _; (try dsimp only [Ar]); omega
      · simp only [List.length_append, List.length_cons, List.length_nil]; omega
      · simp only [List.length_append, List.length_cons, List.length_nil]; omega
      intro h10 tk10 tn10 F10 N10
      clear F7 N7
      w_strict k_steps
      show wpAny _ _ _ _ _ _
      rename Fr _ _ _ _ => F7
      rename News _ _ _ _ => N7
      refine heard_bad (hear_odd (hP1.take _).good (by decide)) rfl KX T F7 N7 rfl (by intro q; cases q) ?_ ?_ ?_ ?_
      · show _ + 1 + 30 < _; (try dsimp only [Ar]); omega
      · simp only [List.length_append, List.length_cons, List.length_nil]; omega
      · simp only [List.length_append, List.length_cons, List.length_nil]; omega
      intro h10 tk10 tn10 F10 N10
      clear F7 N7
      w_strict k_steps
      show wpAny _ _ _ _ _ _
      rename Fr _ _ _ _ => F7
      rename News _ _ _ _ => N7
      refine heard_bad (hear_odd (hP1.take _).good (by decide)) rfl KX T F7 N7 rfl (by intro q; cases q) ?_ ?_ ?_ ?_
      · show _ + 1 + 30 < _; (try dsimp only [Ar]); omega
      · simp only [List.length_append, List.length_cons, List.length_nil]; omega
      · simp only [List.length_append, List.length_cons, List.length_nil]; omega
      intro h10 tk10 tn10 F10 N10
      clear F7 N7
      w_strict k_steps
      show wpAny _ _ _ _ _ _
      rename Fr _ _ _ _ => F7
      rename News _ _ _ _ => N7
      refine heard_bad (hear_odd (hP1.take _).good (by decide)) rfl KX T F7 N7 rfl (by intro q; cases q) ?_ ?_ ?_ ?_
      · show _ + 1 + 30 < _; (try dsimp only [Ar]); omega
      · simp only [List.length_append, List.length_cons, List.length_nil]; omega
      · simp only [List.length_append, List.length_cons, List.length_nil]; omega
      intro h10 tk10 tn10 F10 N10
      clear F7 N7
      w_strict k_steps
      show wpAny _ _ _ _ _ _
      rename Fr _ _ _ _ => F7
      rename News _ _ _ _ => N7
      refine heard_bad (hear_odd (hP1.take _).good (by decide)) rfl KX T F7 N7 rfl (by intro q; cases q) ?_ ?_ ?_ ?_
      · show _ + 1 + 30 < _; (try dsimp only [Ar]); omega
      · simp only [List.length_append, List.length_cons, List.length_nil]; omega
      · simp only [List.length_append, List.length_cons, List.length_nil]; omega
      intro h10 tk10 tn10 F10 N10
      clear F7 N7
      w_strict k_steps
      show wpAny _ _ _ _ _ _
      rename Fr _ _ _ _ => F7
      rename News _ _ _ _ => N7
      refine heard_bad (hear_barF rfl (hP1.take _).good) rfl KX T F7 N7 rfl (by intro q; cases q) ?_ ?_ ?_ ?_
      · show _ + 1 + 30 < _; (try dsimp only [Ar]); omega
      · simp only [List.length_append, List.length_cons, List.length_nil]; omega
      · simp only [List.length_append, List.length_cons, List.length_nil]; omega
      intro h10 tk10 tn10 F10 N10
      clear F7 N7
      w_strict k_steps
      show wpAny _ _ _ _ _ _
      rename Fr _ _ _ _ => F7
      rename News _ _ _ _ => N7
      refine heard_ok (hear_againF hP1.never) rfl KX T F7 N7 rfl (by intro q; cases q) ?_ ?_ ?_ ?_
      · show _ + 1 + 30 < _; (try dsimp only [Ar]); omega
      · simp only [List.length_append, List.length_cons, List.length_nil]; omega
      · simp only [List.length_append, List.length_cons, List.length_nil]; omega
      intro h10 tk10 r10 tv10 tn10 F10 N10 hn10
      simp only [List.forall_mem_cons, List.not_mem_nil, false_implies, implies_true, and_true] at hn10
      clear F7 N7
      w_strict k_steps
      show wpAny _ _ _ _ _ _
      rename Fr _ _ _ _ => F7
      rename News _ _ _ _ => N7
      refine heard_ok (hear_last) rfl KX T F7 N7 rfl (by intro q; cases q) ?_ ?_ ?_ ?_
      · show _ + 1 + 30 < _; (try dsimp only [Ar]); omega
      · decide
      · decide
      intro h10 tk10 r10 tv10 tn10 F10 N10 hn10
      simp only [List.forall_mem_cons, List.not_mem_nil, false_implies, implies_true, and_true] at hn10
      clear F7 N7
      w_strict k_steps
      rename Fr _ _ _ _ => F7
      rename News _ _ _ _ => N7
      exact hT _ _ _ _ F7 N7)
end Mine
end
theorem PySem.Challenge.cw_or0017_01_holds : PySem.Challenge.rw_or0017_01.Holds := by
  exact Mine.law1
