import PyProof.Rows.All
import Wide.All
import OpenK.AllK
import Wide.FinOn
import PySem.Challenge.RW_or0038_01
open PySem PySem.W PyProof.Rows
set_option Elab.async false
set_option compiler.extract_closed false
namespace Mine
section
open PySem PySem.W PyProof.Rows
set_option maxRecDepth 100000
set_option maxRecDepth 100000 in
set_option maxHeartbeats 8000000 in
open_top hd for PySem.Challenge.rw_or0038_01
end
section
open PySem PySem.W PyProof.Rows
set_option maxRecDepth 100000
open Builtin
/-! ## rules for bytes' methods -/
theorem slot_find : Slot "bytes" "find" "bytes.find" :=
  .of (owner := "bytes") (n := "find") (by rw [typeLookup_type, builtinLookup_eq_fast]; kernel_rfl) (by decide +kernel) (by decide +kernel) (by decide +kernel)
    (by first | exact .inl (by decide +kernel) | exact .inr (by decide +kernel)) (by rw [isSubtype_type]; kernel_rfl)
theorem type_find : typeOf (.builtin "bytes.find") = pure (.type "method_descriptor") := by show builtinType _ = _; rw [builtinType_eq_fast]; kernel_rfl
theorem entry_find : entryFor table "bytes.find" = some Builtin.«bytes.find» := entryFor_of_tree (by kernel_rfl)
theorem args_find (a b c d : Value) : argsOk "bytes.find" ⟨[a, b, c, d], []⟩ := by
  unfold argsOk; rw [signature?_of (id := "bytes.find") (n := ['d', 'n', 'i', 'f']) (o := ['s', 'e', 't', 'y', 'b']) (by kernel_rfl) FB.owner_bytes]; kernel_rfl
theorem slot_strip : Slot "bytes" "strip" "bytes.strip" :=
  .of (owner := "bytes") (n := "strip") (by rw [typeLookup_type, builtinLookup_eq_fast]; kernel_rfl) (by decide +kernel) (by decide +kernel) (by decide +kernel)
    (by first | exact .inl (by decide +kernel) | exact .inr (by decide +kernel)) (by rw [isSubtype_type]; kernel_rfl)
theorem type_strip : typeOf (.builtin "bytes.strip") = pure (.type "method_descriptor") := by show builtinType _ = _; rw [builtinType_eq_fast]; kernel_rfl
theorem entry_strip : entryFor table "bytes.strip" = some Builtin.«bytes.strip» := entryFor_of_tree (by kernel_rfl)
theorem args_strip (a b : Value) : argsOk "bytes.strip" ⟨[a, b], []⟩ := by
  unfold argsOk; rw [signature?_of (id := "bytes.strip") (n := ['p', 'i', 'r', 't', 's']) (o := ['s', 'e', 't', 'y', 'b']) (by kernel_rfl) FB.owner_bytes]; kernel_rfl
theorem slot_join : Slot "bytes" "join" "bytes.join" :=
  .of (owner := "bytes") (n := "join") (by rw [typeLookup_type, builtinLookup_eq_fast]; kernel_rfl) (by decide +kernel) (by decide +kernel) (by decide +kernel)
    (by first | exact .inl (by decide +kernel) | exact .inr (by decide +kernel)) (by rw [isSubtype_type]; kernel_rfl)
theorem type_join : typeOf (.builtin "bytes.join") = pure (.type "method_descriptor") := by show builtinType _ = _; rw [builtinType_eq_fast]; kernel_rfl
theorem entry_join : entryFor table "bytes.join" = some Builtin.«bytes.join» := entryFor_of_tree (by kernel_rfl)
theorem args_join (a b : Value) : argsOk "bytes.join" ⟨[a, b], []⟩ := by
  unfold argsOk; rw [signature?_of (id := "bytes.join") (n := ['n', 'i', 'o', 'j']) (o := ['s', 'e', 't', 'y', 'b']) (by kernel_rfl) FB.owner_bytes]; kernel_rfl
def winOf (b : Array UInt8) (a e : Int) : Option (Nat × Nat) :=
  if (Bytes.window b.size (some a) (some e)).2 - (Bytes.window b.size (some a) (some e)).1 < 1 then none else some ((Bytes.window b.size (some a) (some e)).1.toNat, (Bytes.window b.size (some a) (some e)).2.toNat)
theorem find_eq {b : Array UInt8} {c : UInt8} {a e : Int} {t u ta te : Tok} :
    «bytes.find» ⟨[.bytes b t, .bytes #[c] u, .int a ta, .int e te], []⟩ = (match (winOf b a e).bind fun p => Bytes.find? b #[c] p.1 p.2 with
      | some i => retInt i
      | none => (rule "bytes.find.not-found" >>= fun _ => retInt (-1))) := by kernel_rfl
/-- the first place of c from a on, ahead of e -/
def fnd (l : List UInt8) (c : UInt8) (a e : Nat) : Option Nat := ((List.range (e - a)).map (· + a)).find? fun i => l[i]? == some c
def fndI (l : List UInt8) (c : UInt8) (a e : Nat) : Int := match fnd l c a e with | some i => (i : Int) | none => -1
theorem extract_one (l : List UInt8) (c : UInt8) (i : Nat) : (l.toArray.extract i (i + 1) == #[c]) = (l[i]? == some c) := by
  rw [Bool.eq_iff_iff]
  simp only [beq_iff_eq]
  constructor
  · intro h
    have h1 : (l.toArray.extract i (i + 1)).toList = [c] := by rw [h]
    simp only [List.extract_toArray, List.extract_eq_take_drop] at h1
    have h2 : ((l.drop i).take (i + 1 - i))[0]? = some c := by rw [h1]; rfl
    rw [List.getElem?_take] at h2
    simpa using h2
  · intro h
    apply Array.ext'
    simp only [List.extract_toArray, List.extract_eq_take_drop]
    have e : i + 1 - i = 1 := by omega
    rw [e, List.take_one, List.head?_drop, h]
    rfl
theorem find_fnd {l : List UInt8} {c : UInt8} {a e : Nat} (h1 : a ≤ e) (h2 : e ≤ l.length) : ((winOf l.toArray (a : Int) (e : Int)).bind fun p => Bytes.find? l.toArray #[c] p.1 p.2) = fnd l c a e := by
  have hw : Bytes.window l.toArray.size (some (a : Int)) (some (e : Int)) = ((a : Int), (e : Int)) := by
    unfold Bytes.window
    have g1 : ¬ ((a : Int) < 0) := by omega
    have g2 : ¬ ((e : Int) < 0) := by omega
    simp only [Option.getD_some, g1, g2, if_false]
    rw [Int.min_eq_right (by simpa using h2)]
  unfold winOf
  rw [hw]
  by_cases h : (e : Int) - (a : Int) < 1
  · have hae : e - a = 0 := by omega
    simp only [h, if_true, Option.bind_none, fnd, hae, List.range_zero, List.map_nil, List.find?_nil]
  · simp only [h, if_false, Option.bind_some, Int.toNat_natCast]
    unfold Bytes.find? fnd
    have e1 : e + 1 - (a + (#[c] : Array UInt8).size) = e - a := by
      have : (#[c] : Array UInt8).size = 1 := rfl
      rw [this]; omega
    rw [e1]
    congr 1
    funext i
    exact extract_one l c i
theorem gives_find {l : List UInt8} {c : UInt8} {a e : Nat} {t u ta te : Tok} (h1 : a ≤ e) (h2 : e ≤ l.length) :
    Gives («bytes.find» ⟨[.bytes l.toArray t, .bytes #[c] u, .int a ta, .int e te], []⟩) (.int (fndI l c a e)) := by
  refine .of_wp fun M A E s Q hq => ?_
  rw [find_eq, find_fnd h1 h2]
  unfold fndI at hq
  cases h : fnd l c a e with
  | some i => rw [h] at hq; exact wpAny_bind (wpAny_mkInt (wpAny_pure ⟨_, rfl, hq⟩))
  | none => rw [h] at hq; exact wpAny_bind (wpAny_rule (wpAny_bind (wpAny_mkInt (wpAny_pure ⟨_, rfl, hq⟩))))
theorem strip_eq {b d : Array UInt8} {t u : Tok} :
    «bytes.strip» ⟨[.bytes b t, .bytes d u], []⟩ = (if (((b.toList.dropWhile d.contains).reverse.dropWhile d.contains).reverse.length == b.size) = true then (rule "bytes.strip.unchanged" >>= fun _ => ret (.bytes b t)) else
      mkBytes (((b.toList.dropWhile d.contains).reverse.dropWhile d.contains).reverse.toArray) >>= fun v => ret v) := by kernel_rfl
def isW (c : UInt8) : Bool := c == 32 || c == 9
def stripW (l : List UInt8) : List UInt8 := ((l.dropWhile isW).reverse.dropWhile isW).reverse
theorem contW : (#[32, 9] : Array UInt8).contains = isW := by
  funext c
  simp [isW, Array.contains]
theorem length_dropWhile_le {α : Type} (p : α → Bool) (l : List α) : (l.dropWhile p).length ≤ l.length := (List.dropWhile_sublist p).length_le
theorem dropWhile_full {α : Type} {p : α → Bool} {l : List α} (h : (l.dropWhile p).length = l.length) : l.dropWhile p = l := (List.dropWhile_sublist p).eq_of_length h
theorem stripW_full {l : List UInt8} (h : (stripW l).length = l.length) : stripW l = l := by
  unfold stripW at h ⊢
  rw [List.length_reverse] at h
  have h1 := length_dropWhile_le isW (l.dropWhile isW).reverse
  have h2 := length_dropWhile_le isW l
  rw [List.length_reverse] at h1
  have h3 : (l.dropWhile isW).length = l.length := by omega
  have h4 := dropWhile_full h3
  have h5 : ((l.dropWhile isW).reverse.dropWhile isW).length = (l.dropWhile isW).reverse.length := by rw [List.length_reverse]; omega
  rw [dropWhile_full h5, List.reverse_reverse, h4]
theorem length_stripW (l : List UInt8) : (stripW l).length ≤ l.length := by
  unfold stripW
  rw [List.length_reverse]
  have h1 := length_dropWhile_le isW (l.dropWhile isW).reverse
  have h2 := length_dropWhile_le isW l
  rw [List.length_reverse] at h1
  omega
theorem meets_strip {l : List UInt8} {t u : Tok} : Meets («bytes.strip» ⟨[.bytes l.toArray t, .bytes #[32, 9] u], []⟩) (fun _ R s => (stripW l).length ≤ sizeLine ∧ ∀ t' k, R (.ok (.ret (.bytes (stripW l).toArray t'))) { s with toks := k }) := by
  refine .of_wp fun prog w A R s hS => ?_
  obtain ⟨hz, h⟩ := hS
  rw [strip_eq, contW]
  show wpAny _ _ (if ((stripW l).length == l.length) = true then _ else mkBytes (stripW l).toArray >>= fun v => ret v) _ _ s
  by_cases hc : (stripW l).length = l.length
  · rw [if_pos (by simpa using hc)]
    have h' := h t s.toks
    rw [stripW_full hc] at h'
    exact wpAny_bind (wpAny_rule (wpAny_pure ⟨_, rfl, h'⟩))
  · rw [if_neg (by simpa using hc)]
    exact wpAny_bind (wpAny_mkBytes (wpAny_pure ⟨_, rfl, h _ _⟩) (by simpa using hz))
section
variable {prog : Program} {w : World} {A : Around} {E : Value → Shared → Prop} {s : Shared} {l : List UInt8} {c : UInt8} {t u ta te : Tok} {Q : Value → Shared → Prop}
theorem call_find {a e : Nat} (h1 : a ≤ e) (h2 : e ≤ l.length) (h : ∀ t', Q (.int (fndI l c a e) t') { s with toks := s.toks + 1 }) :
    wpAny (model prog w) A (call (.builtin "bytes.find") [.bytes l.toArray t, .bytes [c].toArray u, .int a ta, .int e te]) Q E s :=
  call_gives slot_find (typeIs_bytes _ _ _) entry_find (args_find _ _ _ _) (gives_find h1 h2) (h _)
theorem call_strip (hz : l.length ≤ 16777216) (h : ∀ t' k, Q (.bytes (stripW l).toArray t') { s with toks := k }) :
    wpAny (model prog w) A (call (.builtin "bytes.strip") [.bytes l.toArray t, .bytes [32, 9].toArray u]) Q E s :=
  call_meets slot_strip (typeIs_bytes _ _ _) entry_strip (args_strip _ _) meets_strip ⟨by rw [sizeLine_eq]; exact Nat.le_trans (length_stripW l) hz, h⟩
theorem meth_find {M : Model} {b : Array UInt8} {pl : Sem Bool} {Q : Value × List Value → Shared → Prop} (h : Q (.builtin "bytes.find", [.bytes b t]) s) : wpAny M A (getMethod (.bytes b t) "find" pl) Q E s := by
  with_reducible exact KBd.method_of (.bytes b t) (typeIs_bytes _ _ _) slot_find type_find KBd.noRef h
theorem meth_strip {M : Model} {b : Array UInt8} {pl : Sem Bool} {Q : Value × List Value → Shared → Prop} (h : Q (.builtin "bytes.strip", [.bytes b t]) s) : wpAny M A (getMethod (.bytes b t) "strip" pl) Q E s := by
  with_reducible exact KBd.method_of (.bytes b t) (typeIs_bytes _ _ _) slot_strip type_strip KBd.noRef h
theorem meth_join {M : Model} {b : Array UInt8} {pl : Sem Bool} {Q : Value × List Value → Shared → Prop} (h : Q (.builtin "bytes.join", [.bytes b t]) s) : wpAny M A (getMethod (.bytes b t) "join" pl) Q E s := by
  with_reducible exact KBd.method_of (.bytes b t) (typeIs_bytes _ _ _) slot_join type_join KBd.noRef h
end
end
section
open PySem PySem.W PyProof.Rows
set_option maxRecDepth 100000
open Builtin
section
variable {prog : Program} {w : World} {A : Around} {E : Value → Shared → Prop} {s : Shared} {l r : List UInt8} {c : UInt8} {t u ta te : Tok} {Q : Value → Shared → Prop} {value slice : PySem.Expr}
theorem fnd_some {l : List UInt8} {c : UInt8} {a e i : Nat} (h : fnd l c a e = some i) : a ≤ i ∧ i < e ∧ l.getD i 0 = c ∧ i < l.length := by
  unfold fnd at h
  have h1 := List.mem_of_find?_eq_some h
  have h2 := List.find?_some h
  simp only [List.mem_map, List.mem_range] at h1
  obtain ⟨j, hj, rfl⟩ := h1
  simp only [beq_iff_eq] at h2
  have h3 := (List.getElem?_eq_some_iff.mp h2).1
  refine ⟨by omega, by omega, ?_, h3⟩
  rw [List.getD_eq_getElem?_getD, h2]; rfl
theorem find2 {a e : Nat} (h1 : a ≤ e) (h2 : e ≤ l.length) (hn : ∀ t', fnd l c a e = none → Q (.int (-1) t') { s with toks := s.toks + 1 })
    (hs : ∀ (i : Nat) t', fnd l c a e = some i → a ≤ i → i < e → Q (.int (i : Int) t') { s with toks := s.toks + 1 }) :
    wpAny (model prog w) A (call (.builtin "bytes.find") [.bytes l.toArray t, .bytes [c].toArray u, .int a ta, .int e te]) Q E s := by
  refine call_find h1 h2 fun t' => ?_
  unfold fndI
  cases h : fnd l c a e with
  | none => exact hn t' h
  | some i => exact hs i t' h (fnd_some h).1 (fnd_some h).2.1
theorem item_i {i : Int} {ui : Tok} (h0 : 0 ≤ i) (h1 : i < (l.length : Int)) (hz : l.length ≤ 16777216) (h : ∀ t' k, Q (.int ((l.getD i.toNat 0).toNat : Int) t') { s with toks := k })
    (hs : subscripted slice false (.bytes l.toArray t) (.int i ui) = operate [.bytes l.toArray t, .int i ui] (getItem (.bytes l.toArray t) (.int i ui)) := by with_unfolding_all rfl)
    (ht : ∀ r, letTemporaryGo value (.bytes l.toArray t) r = pure () := by intro _; with_unfolding_all rfl) :
    wpAny (model prog w) A (subscriptTail value slice (.bytes l.toArray t) (.int i ui)) Q E s :=
  KBy.item_N (by omega) h0 h1 (h _ _) hs ht
theorem add_b (hz : l.length + r.length ≤ 16777216) (h : ∀ t' k, Q (.bytes (l ++ r).toArray t') { s with toks := k }) : wpAny (model prog w) A (binaryOp .Add (.bytes l.toArray t) (.bytes r.toArray u)) Q E s :=
  bytes_add_K (by simpa using hz) rfl h
theorem len_b (hz : l.length ≤ 16777216) (h : ∀ t' k, Q (.int (l.length : Int) t') { s with toks := k }) : wpAny (model prog w) A (call (.builtin "len") [.bytes l.toArray t]) Q E s :=
  len_bytes (by simp only [List.size_toArray]; omega) (by simpa using h _ _)
theorem item_b {i : Int} {ui : Tok} (n : Nat) (hi : i = (n : Int)) (hz : l.length ≤ 16777216) (hn : n < l.length) (h : ∀ t' k, Q (.int ((l.getD n 0).toNat : Int) t') { s with toks := k })
    (hs : subscripted slice false (.bytes l.toArray t) (.int i ui) = operate [.bytes l.toArray t, .int i ui] (getItem (.bytes l.toArray t) (.int i ui)) := by with_unfolding_all rfl)
    (ht : ∀ r, letTemporaryGo value (.bytes l.toArray t) r = pure () := by intro _; with_unfolding_all rfl) :
    wpAny (model prog w) A (subscriptTail value slice (.bytes l.toArray t) (.int i ui)) Q E s := by
  subst hi
  exact KBy.item_N (by omega) (by omega) (by omega) (by rw [Int.toNat_natCast]; exact h _ _) hs ht
/-- the cut of a list by two places, as the slice reads them -/
def cutL (l : List UInt8) (lo hi : Option Int) : List UInt8 := (l.drop (lo.elim 0 (clipAt l.length))).take (hi.elim l.length (clipAt l.length) - lo.elim 0 (clipAt l.length))
theorem picked_b (l : List UInt8) (lo hi : Option Int) : KBy.picked l.toArray lo hi = (cutL l lo hi).toArray := by
  rw [KBc.picked_eq]
  simp only [cutL, List.size_toArray]
theorem slice_b {h₀ : Heap} {L : Addr} {m : PySem.Str → Option Value} {news : List (Addr × Obj)} {x y : Value} {lo hi : Option Int} (hF : Fr h₀ L s.heap m) (hN : News h₀ L s.heap news) (hl : IsPart x lo) (hu : IsPart y hi) (hz : l.length ≤ 16777216)
    (h : ∀ h' t' k, Fr h₀ L h' m → News h₀ L h' news → Q (.bytes (cutL l lo hi).toArray t') { s with heap := h', toks := k })
    (hs : subscripted slice false (.bytes l.toArray t) (.ref s.heap.objs.size) = operate [.ref s.heap.objs.size, .bytes l.toArray t] (getItem (.bytes l.toArray t) (.ref s.heap.objs.size)) := by with_unfolding_all rfl)
    (ht : ∀ r, letTemporaryGo value (.bytes l.toArray t) r = pure () := by intro _; with_unfolding_all rfl) :
    wpAny (model prog w) A (subscriptTail value slice (.bytes l.toArray t) (.ref s.heap.objs.size)) Q E { s with heap := s.heap.push { cls := .type "slice", data := .fields #[x, y, .none] } } :=
  tail_of_ItemOn ⟨"bytes", _, FB.slot_bytes_getitem.lookup, typeIs_bytes _ _ _, getItem_meets (typeIs_bytes _ _ _) (by decide) FB.slot_bytes_getitem FB.entry_bytes_getitem (FB.args_bytes_getitem_2 _ _) (KBc.meets_slice2 l.toArray t _ hl hu)
    ⟨Heap.IsSliceOf.new _ _ _ _, Nat.le_trans (KBc.size_picked_le l.toArray lo hi) (by rw [sizeLine_eq]; simpa using hz), fun t' k => by rw [picked_b]; exact h _ _ _ (hF.push _) (News.pushKeep hN _)⟩⟩ hs ht
theorem eq_b (h : Q (.bool (l == r)) s) : wpAny (model prog w) A (compareOp .Eq (.bytes l.toArray t) (.bytes r.toArray u)) Q E s := eq_bytes (by simpa using h)
theorem ne_b (h : Q (.bool (l != r)) s) : wpAny (model prog w) A (compareOp .NotEq (.bytes l.toArray t) (.bytes r.toArray u)) Q E s := ne_bytes (by simpa using h)
theorem cutL_nn {l : List UInt8} {i j : Int} (a b : Nat) (hi : i = (a : Int)) (hj : j = (b : Int)) (h2 : b ≤ l.length) : cutL l (some i) (some j) = (l.drop a).take (b - a) := by
  subst hi; subst hj
  unfold cutL
  simp only [Option.elim, clipAt_nat]
  have e2 : min b l.length = b := Nat.min_eq_left h2
  rw [e2]
  by_cases h1 : a ≤ l.length
  · have e1 : min a l.length = a := Nat.min_eq_left h1
    rw [e1]
  · have e1 : min a l.length = l.length := Nat.min_eq_right (by omega)
    rw [e1, List.drop_length, List.drop_eq_nil_of_le (by omega)]; simp
theorem cutL_ns {l : List UInt8} {i : Int} (a : Nat) (hi : i = (a : Int)) : cutL l (some i) none = l.drop a := by
  subst hi
  unfold cutL
  simp only [Option.elim, clipAt_nat]
  by_cases h1 : a ≤ l.length
  · rw [Nat.min_eq_left h1, List.take_of_length_le (by rw [List.length_drop]; omega)]
  · rw [Nat.min_eq_right (by omega), List.drop_length, List.drop_eq_nil_of_le (by omega)]; simp
theorem length_cutL (l : List UInt8) (lo hi : Option Int) : (cutL l lo hi).length ≤ l.length := by
  unfold cutL
  rw [List.length_take, List.length_drop]
  omega
end
end
local macro_rules | `(tactic| walk_at "getMethod bytes") => `(tactic| (k_here; with_reducible refine meth_find ?_))
local macro_rules | `(tactic| walk_at "getMethod bytes") => `(tactic| (k_here; with_reducible refine meth_strip ?_))
local macro_rules | `(tactic| walk_at "getMethod bytes") => `(tactic| (k_here; with_reducible refine meth_join ?_))
local macro_rules | `(tactic| walk_at "call builtin:bytes.find") => `(tactic| (k_here; (show wpAny _ _ (call (Value.builtin "bytes.find") [Value.bytes (List.toArray _) _, Value.bytes (List.toArray [_]) _, Value.int (Int.ofNat _) _, Value.int (Int.ofNat _) _]) _ _ _); (refine find2 (by omega) (by omega) (fun _ hnone9 => ?_) (fun i9 _ hsome9 hlo9 hhi9 => ?_))))
local macro_rules | `(tactic| walk_at "call builtin:bytes.strip") => `(tactic| (k_here; (show wpAny _ _ (call (Value.builtin "bytes.strip") [Value.bytes (List.toArray _) _, Value.bytes (List.toArray [32, 9]) _]) _ _ _); (refine call_strip (by first | omega | (simp only [List.length_append, List.length_cons, List.length_nil]; omega)) ?_); intro _ _))
local macro_rules | `(tactic| walk_at "binaryOp Add bytes bytes") => `(tactic| (k_here; (with_reducible show wpAny _ _ (binaryOp Operator.Add (Value.bytes (List.toArray _) _) (Value.bytes (List.toArray _) _)) _ _ _); (refine add_b (by first | omega | (simp only [List.length_append, List.length_cons, List.length_nil]; omega)) ?_); intro _ _))
local macro_rules | `(tactic| walk_at "call builtin:len") => `(tactic| (k_here; (with_reducible show wpAny _ _ (call (Value.builtin "len") [Value.bytes (List.toArray _) _]) _ _ _); (refine len_b (by first | omega | (simp only [List.length_append, List.length_cons, List.length_nil]; omega)) ?_); intro _ _))
local macro_rules | `(tactic| walk_at "compareOp Eq bytes bytes") => `(tactic| (k_here; (with_reducible show wpAny _ _ (compareOp CmpOp.Eq (Value.bytes (List.toArray _) _) (Value.bytes (List.toArray _) _)) _ _ _); refine eq_b ?_))
local macro_rules | `(tactic| walk_at "compareOp NotEq bytes bytes") => `(tactic| (k_here; (with_reducible show wpAny _ _ (compareOp CmpOp.NotEq (Value.bytes (List.toArray _) _) (Value.bytes (List.toArray _) _)) _ _ _); refine ne_b ?_))
local macro_rules | `(tactic| walk_at "subscriptTail") => `(tactic| (k_here; (with_reducible show wpAny _ _ (subscriptTail _ (Expr.Slice _ _ none _) (Value.bytes (List.toArray _) _) (Value.ref _)) _ _ _); (with_reducible rename Fr _ _ _ _ => F'); (with_reducible rename News _ _ _ _ => N'); (refine slice_b (s := ⟨_, _, _, _, _⟩) F' N' (by constructor) (by constructor) (by first | omega | (simp only [List.length_append, List.length_cons, List.length_nil]; omega)) ?_); intro _ _ _ _ _))
local macro_rules | `(tactic| walk_at "subscriptTail") => `(tactic| (k_here; (with_reducible show wpAny _ _ (subscriptTail _ _ (Value.bytes (List.toArray _) _) (Value.int _ _)) _ _ _); (refine item_i (by omega) (by omega) (by omega) ?_); intro _ _))
local macro_rules | `(tactic| walk_at "subscriptTail") => `(tactic| (k_here; (with_reducible show wpAny _ _ (subscriptTail _ _ (Value.bytes (List.toArray _) _) (Value.int (Nat.cast _) _)) _ _ _); (refine item_b _ rfl (by omega) (by omega) ?_); intro _ _))
section
open PySem PySem.W PyProof.Rows
set_option maxRecDepth 100000
/-- a contract of the def at f: its arguments, the ledger ahead, what it hands back and the ledger behind; d: the frames that it wants -/
def Con (w : World) (p : Program) (loose : List PySem.Str) (mean : ExcName → Option Value) (mg mb : PySem.Str → Option Value) (d : Nat) (f : Addr) (vs : List Value) (kw : List (PySem.Str × Value)) (news : List (Addr × Obj))
    (Out : Value → List (Addr × Obj) → Prop) : Prop :=
  ∀ (dp un : Nat) (gd : Option (List Code)) (cn : PySem.Str) (cs : Scope) (a : Addr) (ccd : Value) (cl : List (PySem.Str × Addr)) (outer : List Env) (A₀ : Around) (base h₀ : Heap) (L : Addr) (m : PySem.Str → Option Value) (s : Shared) (Q E : Value → Shared → Prop),
    Below A₀ base outer h₀ → Fr h₀ L s.heap m → (hd.heap_39 w.params).In h₀ → News h₀ L s.heap news → Top p loose mean mg mb h₀ → cs.kind = .function → dp + d < recursionLimit → un + 8 * d < cLine →
    (∀ r news' h' tk', Fr h₀ L h' m → News h₀ L h' news' → Out r news' → Q r { s with heap := h', toks := tk' }) →
    wpAny (model PySem.Challenge.rw_or0038_01.row.prog w) (ktrTop dp un gd cn cs L a ccd cl outer) (call (.ref f) vs kw) Q E s
theorem con_use {w : World} {p : Program} {loose : List PySem.Str} {mean : ExcName → Option Value} {mg mb : PySem.Str → Option Value} {d : Nat} {f : Addr} {vs : List Value} {kw : List (PySem.Str × Value)} {news : List (Addr × Obj)}
    {Out : Value → List (Addr × Obj) → Prop} {dp un : Nat} {gd : Option (List Code)} {cn : PySem.Str} {cs : Scope} {a : Addr} {ccd : Value} {cl : List (PySem.Str × Addr)} {outer : List Env} {A₀ : Around} {base h₀ : Heap} {L : Addr} {m : PySem.Str → Option Value} {s : Shared} {Q E : Value → Shared → Prop}
    (C : Con w p loose mean mg mb d f vs kw news Out) (B : Below A₀ base outer h₀) (F : Fr h₀ L s.heap m) (X : (hd.heap_39 w.params).In h₀) (N : News h₀ L s.heap news) (T : Top p loose mean mg mb h₀) (hk : cs.kind = .function) (h1 : dp + d < recursionLimit) (h2 : un + 8 * d < cLine)
    (ret : ∀ r news' h' tk', Fr h₀ L h' m → News h₀ L h' news' → Out r news' → Q r { s with heap := h', toks := tk' }) :
    wpAny (model PySem.Challenge.rw_or0038_01.row.prog w) (ktrTop dp un gd cn cs L a ccd cl outer) (call (.ref f) vs kw) Q E s := C _ _ _ _ _ _ _ _ _ _ _ _ _ _ _ _ _ B F X N T hk h1 h2 ret
/-- a frame's map told by names -/
theorem fr_kst {h₀ h : Heap} {L : Addr} {m : PySem.Str → Option Value} (ps : List (PySem.Str × Value)) (F : Fr h₀ L h m) (hk : ∀ p ∈ ps, m p.1 = some p.2) : Fr h₀ L h (kstB m ps) := by
  have e : kstB m ps = m := by
    funext z
    exact kstB_eq hk fun _ => rfl
  rw [e]; exact F
/-- the same, the rest of the map forgotten -/
theorem fr_gen {h₀ h : Heap} {L : Addr} {m : PySem.Str → Option Value} (ps : List (PySem.Str × Value)) (F : Fr h₀ L h m) (hk : ∀ p ∈ ps, m p.1 = some p.2) : ∃ m', Fr h₀ L h (kstB m' ps) := ⟨m, fr_kst ps F hk⟩
/-- the count of tokens plays no part -/
theorem any_tok {α : Type} {M : Model} {A : Around} {c : Sem α} {Q : α → Shared → Prop} {E : Value → Shared → Prop} {h : Heap} {g : Array GenState} {d : Drawn} {k : Nat} {o : OsState} (H : ∀ k', wpAny M A c Q E ⟨h, g, d, k', o⟩) : wpAny M A c Q E ⟨h, g, d, k, o⟩ := H k
theorem news_sub {h₀ h : Heap} {L : Addr} {l l' : List (Addr × Obj)} (N : News h₀ L h l) (hs : ∀ p ∈ l', p ∈ l) : News h₀ L h l' := fun p hp => N p (hs p hp)
/-! ## line_at -/
def lnEnd (l : List UInt8) (a e : Nat) : Nat × Nat := match fnd l 10 a e with
  | none => (e, e)
  | some i => if a < i ∧ l.getD (i - 1) 0 = 13 then (i - 1, i + 1) else (i, i + 1)
theorem lnEnd_none {l : List UInt8} {a e : Nat} (h : fnd l 10 a e = none) : lnEnd l a e = (e, e) := by unfold lnEnd; rw [h]
theorem lnEnd_cr {l : List UInt8} {a e i : Nat} (h : fnd l 10 a e = some i) (h1 : (a : Int) < (i : Int)) (h2 : ((l.getD ((i : Int) - 1).toNat 0).toNat : Int) = 13) : lnEnd l a e = (i - 1, i + 1) := by
  unfold lnEnd; rw [h]
  have e1 : ((i : Int) - 1).toNat = i - 1 := by omega
  rw [e1] at h2
  have h3 : (l.getD (i - 1) 0).toNat = 13 := by omega
  have h4 : l.getD (i - 1) 0 = 13 := UInt8.toNat_inj.mp h3
  exact if_pos ⟨by omega, h4⟩
theorem lnEnd_lf {l : List UInt8} {a e i : Nat} (h : fnd l 10 a e = some i) (h1 : ¬ (a : Int) < (i : Int) ∨ ((l.getD ((i : Int) - 1).toNat 0).toNat : Int) ≠ 13) : lnEnd l a e = (i, i + 1) := by
  unfold lnEnd; rw [h]
  refine if_neg ?_
  rintro ⟨h2, h3⟩
  rcases h1 with h1 | h1
  · omega
  · have e1 : ((i : Int) - 1).toNat = i - 1 := by omega
    rw [e1, h3] at h1
    exact h1 rfl
abbrev tup2 (x y : Value) : Obj := { cls := .type "tuple", data := .seq #[x, y] 0 }
theorem line_at_con {w : World} {p : Program} {loose : List PySem.Str} {mean : ExcName → Option Value} {mg mb : PySem.Str → Option Value} {l : List UInt8} {t ta te : Tok} {a e : Nat} {news : List (Addr × Obj)} (h1 : a ≤ e) (h2 : e ≤ l.length) (h3 : l.length ≤ 16777216) :
    Con w p loose mean mg mb 1 104 [.bytes l.toArray t, .int a ta, .int e te] [] news (fun r news' => ∃ q t1 t2, r = .ref q ∧ news' = (q, tup2 (.int ((lnEnd l a e).1 : Nat) t1) (.int ((lnEnd l a e).2 : Nat) t2)) :: news ∧ ∀ p ∈ news, p.1 < q) := by
  unfold Con
  k_fill
  intro dp un gd cn cs ca ccd cl outer A₀ base h₀ L m s Q E B F X N T hk hdp hun hret
  refine wpAny_call ?_
  k_dflt ktr_enter
  rename Fr _ _ _ _ => Fo
  obtain ⟨m0, F0⟩ := fr_gen [(PySem.Str.ofString "data", _), (PySem.Str.ofString "at", _), (PySem.Str.ofString "end", _)] Fo (List.forall_mem_cons.mpr ⟨rfl, List.forall_mem_cons.mpr ⟨rfl, List.forall_mem_cons.mpr ⟨rfl, List.forall_mem_nil _⟩⟩⟩)
  clear Fo
  dsimp only [kstB] at F0
  refine any_tok fun tk0 => ?_
  k_steps
  · have e1 := lnEnd_none (by assumption)
    refine hret _ _ _ _ (by assumption) (by assumption) ⟨_, _, _, rfl, by rw [e1], by assumption⟩
  · rename fnd l 10 a e = some _ => hs
    have e1 := lnEnd_cr hs (by assumption) (by assumption)
    refine hret _ _ _ _ (by assumption) (by assumption) ⟨_, _, _, rfl, by rw [e1, Int.natCast_sub (by omega)]; rfl, by assumption⟩
  · rename fnd l 10 a e = some _ => hs
    have e1 := lnEnd_lf hs (.inr (by assumption))
    refine hret _ _ _ _ (by assumption) (by assumption) ⟨_, _, _, rfl, by rw [e1]; rfl, by assumption⟩
  · rename fnd l 10 a e = some _ => hs
    have e1 := lnEnd_lf hs (.inl (by assumption))
    refine hret _ _ _ _ (by assumption) (by assumption) ⟨_, _, _, rfl, by rw [e1]; rfl, by assumption⟩
end
section
open PySem PySem.W PyProof.Rows
set_option maxRecDepth 100000
/-! ## is_name -/
def okC (c : UInt8) : Bool := !(c.toNat < 33 || c.toNat > 126 || c.toNat == 58)
def nameOk (l : List UInt8) : Bool := l.all okC && decide (0 < l.length)
theorem bInts_at {l : List UInt8} {i : Nat} {k : Int} (h : (KBw.bInts l.toArray)[i]? = some k) : ∃ c, l[i]? = some c ∧ k = (c.toNat : Int) := by
  have h' : (l.map fun c : UInt8 => (c.toNat : Int))[i]? = some k := h
  rw [List.getElem?_map] at h'
  obtain ⟨c, h1, h2⟩ := Option.map_eq_some_iff.mp h'
  exact ⟨c, h1, h2.symm⟩
theorem okC_of {c : UInt8} (h1 : ¬ (c.toNat : Int) < 33) (h2 : ¬ (126 : Int) < (c.toNat : Int)) (h3 : (c.toNat : Int) ≠ 58) : okC c = true := by
  unfold okC
  have a1 : ¬ c.toNat < 33 := by omega
  have a2 : ¬ c.toNat > 126 := by omega
  have a3 : ¬ c.toNat = 58 := by omega
  simp [a1, a2, a3]
theorem not_okC {l : List UInt8} {i : Nat} {k : Int} (h : (KBw.bInts l.toArray)[i]? = some k) (hb : k < 33 ∨ (126 : Int) < k ∨ k = 58) : nameOk l = false := by
  obtain ⟨c, h1, rfl⟩ := bInts_at h
  have h2 : okC c = false := by
    unfold okC
    simp only [Bool.not_eq_false', Bool.or_eq_true, decide_eq_true_eq, beq_iff_eq]
    omega
  unfold nameOk
  rw [Bool.and_eq_false_iff]
  left
  rw [List.all_eq_false]
  exact ⟨c, List.mem_of_getElem? h1, by simp [h2]⟩
theorem okC_next {l : List UInt8} {i : Nat} {k : Int} (h : (KBw.bInts l.toArray)[i]? = some k) (h1 : ¬ k < 33) (h2 : ¬ (126 : Int) < k) (h3 : k ≠ 58) (hall : ∀ c ∈ l.take i, okC c = true) : ∀ c ∈ l.take (i + 1), okC c = true := by
  obtain ⟨c, hc, rfl⟩ := bInts_at h
  intro d hd
  rw [List.take_add_one, hc, List.mem_append] at hd
  rcases hd with hd | hd
  · exact hall d hd
  · simp at hd; subst hd; exact okC_of h1 h2 h3
theorem nameOk_all {l : List UInt8} (hall : ∀ c ∈ l.take (KBw.bInts l.toArray).length, okC c = true) : nameOk l = decide (0 < (l.length : Int)) := by
  have e : (KBw.bInts l.toArray).length = l.length := by rw [KBw.ints_length]; rfl
  rw [e, List.take_length] at hall
  unfold nameOk
  have h1 : l.all okC = true := List.all_eq_true.mpr hall
  rw [h1, Bool.true_and]
  simp
theorem is_name_con {w : World} {p : Program} {loose : List PySem.Str} {mean : ExcName → Option Value} {mg mb : PySem.Str → Option Value} {l : List UInt8} {t : Tok} {news : List (Addr × Obj)} (h3 : l.length ≤ 16777216) :
    Con w p loose mean mg mb 1 111 [.bytes l.toArray t] [] news (fun r news' => r = .bool (nameOk l) ∧ news' = news) := by
  unfold Con
  k_fill
  intro dp un gd cn cs ca ccd cl outer A₀ base h₀ L m s Q E B F X N T hk hdp hun hret
  refine wpAny_call ?_
  k_dflt ktr_enter
  k_with "pyIter bytes" => (fail)
  k_steps
  rename Fr _ _ _ _ => F'
  rename News _ _ _ _ => N'
  refine KBmo.iter_bytesN (fun i m nx => nx = news ∧ m (PySem.Str.ofString "octets") = some (.bytes l.toArray t) ∧ ∀ c ∈ l.take i, okC c = true) rfl rfl F' N' ⟨rfl, rfl, by simp⟩ ?_ ?_
  · rintro i k t' m₁ news₁ h tk own hget hk0 hk1 hoff ⟨rfl, hm, hall⟩ F₁ N₁
    clear F' N'
    have N₂ := news_sub N₁ (l' := news₁) (fun p hp => List.mem_append_left _ hp)
    k_steps
    · exact hret _ _ _ _ (by assumption) (by assumption) ⟨by rw [not_okC hget (.inl (by assumption))], rfl⟩
    · exact hret _ _ _ _ (by assumption) (by assumption) ⟨by rw [not_okC hget (.inr (.inl (by assumption)))], rfl⟩
    · exact hret _ _ _ _ (by assumption) (by assumption) ⟨by rw [not_okC hget (.inr (.inr (by assumption)))], rfl⟩
    · exact InvEndN.intro F₁ N₁ ⟨rfl, (if_neg (by decide)).trans hm, okC_next hget (by assumption) (by assumption) (by assumption) hall⟩ rfl (fun p hp => List.mem_append_left _ hp) (fun p hp => List.mem_append_right _ hp)
  · rintro m₁ news₁ h tk ⟨rfl, hm, hall⟩ F₁ N₁
    clear F' N'
    replace F₁ := fr_kst [(PySem.Str.ofString "octets", .bytes l.toArray t)] F₁ (by intro p hp; rcases List.mem_singleton.mp hp with rfl; exact hm)
    dsimp only [kstB] at F₁
    dsimp only
    k_steps
    exact hret _ _ _ _ (by assumption) (by assumption) ⟨by rw [nameOk_all hall], rfl⟩
end
section
open PySem PySem.W PyProof.Rows
set_option maxRecDepth 100000
/-! ## colon_in -/
def colI (l : List UInt8) (a e : Nat) : Int := match fnd l 58 a e with
  | none => -1
  | some i => if nameOk ((l.drop a).take (i - a)) = true then (i : Int) else -1
theorem colI_none {l : List UInt8} {a e : Nat} (h : fnd l 58 a e = none) : colI l a e = -1 := by unfold colI; rw [h]
theorem colI_some {l : List UInt8} {a e i : Nat} (h : fnd l 58 a e = some i) (h1 : nameOk ((l.drop a).take (i - a)) = true) : colI l a e = (i : Int) := by unfold colI; rw [h]; exact if_pos h1
theorem colI_bad {l : List UInt8} {a e i : Nat} (h : fnd l 58 a e = some i) (h1 : nameOk ((l.drop a).take (i - a)) = false) : colI l a e = -1 := by unfold colI; rw [h]; exact if_neg (by rw [h1]; decide)
theorem colon_in_con {w : World} {p : Program} {loose : List PySem.Str} {mean : ExcName → Option Value} {mg mb : PySem.Str → Option Value} {l : List UInt8} {t ta te : Tok} {a e : Nat} {news : List (Addr × Obj)} (h1 : a ≤ e) (h2 : e ≤ l.length) (h3 : l.length ≤ 16777216) :
    Con w p loose mean mg mb 2 118 [.bytes l.toArray t, .int a ta, .int e te] [] news (fun r news' => ∃ t', r = .int (colI l a e) t' ∧ news' = news) := by
  unfold Con
  k_fill
  intro dp un gd cn cs ca ccd cl outer A₀ base h₀ L m s Q E B F X N T hk hdp hun hret
  refine wpAny_call ?_
  k_dflt ktr_enter
  k_with "call ref" => (k_dflt (refine' con_use (is_name_con (Nat.le_trans (length_cutL _ _ _) h3)) ?B ?F ?X ?N ?T ?hk ?hd ?hu ?_); (case B => k_asm); (case F => k_asm); (case X => k_asm); (case N => k_asm); (case T => k_asm); (case hk => first | exact rfl | assumption); (case hd => ktr_room); (case hu => ktr_units); rintro r9 news9 h9 tk9 F9 N9 ⟨rfl, rfl⟩; (try dsimp only); (try k_fold))
  k_steps
  all_goals (try dsimp only at *)
  · refine hret _ _ _ _ (by assumption) (by assumption) ⟨_, by rw [colI_none (by assumption)], rfl⟩
  · rename fnd l 58 a e = some _ => hs
    have h4 := (fnd_some hs)
    refine hret _ _ _ _ (by assumption) (by assumption) ⟨_, by rw [colI_some hs (by rw [← cutL_nn a _ rfl rfl (by omega)]; assumption)], rfl⟩
  · rename fnd l 58 a e = some _ => hs
    have h4 := (fnd_some hs)
    refine hret _ _ _ _ (by assumption) (by assumption) ⟨_, by rw [colI_bad hs (by rw [← cutL_nn a _ rfl rfl (by omega)]; assumption)], rfl⟩
end
section
open PySem PySem.W PyProof.Rows
set_option maxRecDepth 100000
/-! ## rows_of -/
def rowsF : Nat → List UInt8 → Nat → List (List UInt8)
  | 0, _, _ => []
  | n + 1, l, a => (l.drop a).take ((lnEnd l a l.length).1 - a) :: (if (lnEnd l a l.length).1 = l.length then [] else rowsF n l (lnEnd l a l.length).2)
abbrev BT := List (List UInt8 × Tok)
/-- bytes' values -/
def valsB (ps : BT) : List Value := ps.map fun p => .bytes p.1.toArray p.2
theorem valsB_length (ps : BT) : (valsB ps).length = ps.length := by simp [valsB]
theorem append_b {prog : Program} {w : World} {A : Around} {E : Value → Shared → Prop} {s : Shared} {h₀ : Heap} {L D : Addr} {m : PySem.Str → Option Value} {ps : BT} {n : Nat} {x : List UInt8} {t : Tok} {rest nx : List (Addr × Obj)} {Q : Value → Shared → Prop}
    (F : Fr h₀ L s.heap m) (N : News h₀ L s.heap nx) (hm : ∀ p ∈ (D, listOf (valsB ps).toArray n) :: rest, p ∈ nx) (hne : ∀ p ∈ rest, p.1 ≠ D) (hz : ps.length ≤ 16777216)
    (h : ∀ h' n', Fr h₀ L h' m → News h₀ L h' ((D, listOf (valsB (ps ++ [(x, t)])).toArray n') :: rest) → Q .none { s with heap := h' }) :
    wpAny (model prog w) A (call (.builtin "list.append") [.ref D, .bytes x.toArray t]) Q E s := by
  refine append_K (its := (valsB ps).toArray) F (news_sub N hm) (.head hne) (fun h' F' N' => ?_) (by rw [List.size_toArray, valsB_length, sizeLine_eq]; exact hz)
  refine h h' (n + 1) F' ?_
  have e : (valsB (ps ++ [(x, t)])).toArray = (valsB ps).toArray.push (.bytes x.toArray t) := by simp [valsB]
  rw [e]
  exact N'
def Hold (P : Prop) : Prop := P
theorem hold_of {P : Prop} (h : Hold P) : P := h
theorem named {h₀ h : Heap} {L q : Addr} {o : Obj} {rest : List (Addr × Obj)} (_N : News h₀ L h ((q, o) :: rest)) : ∃ q', q' = q := ⟨_, rfl⟩
theorem lnEnd_le {l : List UInt8} {a e : Nat} (h1 : a ≤ e) : a ≤ (lnEnd l a e).1 ∧ (lnEnd l a e).1 ≤ e ∧ a ≤ (lnEnd l a e).2 ∧ (lnEnd l a e).2 ≤ e ∧ (lnEnd l a e).1 ≤ (lnEnd l a e).2 ∧ ((lnEnd l a e).1 < e → a < (lnEnd l a e).2) ∧ (a < e → a < (lnEnd l a e).2) := by
  unfold lnEnd
  cases h : fnd l 10 a e with
  | none => simp only; omega
  | some i =>
    have h2 := fnd_some h
    simp only
    split <;> simp only <;> omega
@[reducible] def InvR (l : List UInt8) (t : Tok) (lr : Addr) (news : List (Addr × Obj)) (n : Nat) (mm : PySem.Str → Option Value) (nx : List (Addr × Obj)) : Prop := ∃ (a : Nat) (ta : Tok) (ps : BT) (cnt k : Nat), n = l.length + 1 - a ∧ a ≤ l.length ∧ ps.length ≤ a ∧ nx = (lr, listOf (valsB ps).toArray cnt) :: news ∧ (∀ p ∈ [(PySem.Str.ofString "raw", Value.bytes l.toArray t), (PySem.Str.ofString "rows", .ref lr), (PySem.Str.ofString "at", .int a ta)], mm p.1 = some p.2) ∧ l.length - a < k ∧ ps.map (·.1) ++ rowsF k l a = rowsF (l.length + 1) l 0
theorem rows_of_con {w : World} {p : Program} {loose : List PySem.Str} {mean : ExcName → Option Value} {mg mb : PySem.Str → Option Value} {l : List UInt8} {t : Tok} {news : List (Addr × Obj)} (h3 : l.length ≤ 16777216) :
    Con w p loose mean mg mb 2 139 [.bytes l.toArray t] [] news (fun r news' => ∃ q ps n, r = .ref q ∧ news' = (q, listOf (valsB ps).toArray n) :: news ∧ (∀ p ∈ news, p.1 < q) ∧ ps.map (·.1) = rowsF (l.length + 1) l 0) := by
  unfold Con
  k_fill
  intro dp un gd cn cs ca ccd cl outer A₀ base h₀ L m s Q E B F X N T hk hdp hun hret
  refine wpAny_call ?_
  k_dflt ktr_enter
  rename Fr _ _ _ _ => Fo
  obtain ⟨m0, F0⟩ := fr_gen [(PySem.Str.ofString "raw", _)] Fo (List.forall_mem_cons.mpr ⟨rfl, List.forall_mem_nil _⟩)
  clear Fo
  dsimp only [kstB] at F0
  refine any_tok fun tk0 => ?_
  k_with "call ref" => (k_dflt (refine' con_use (line_at_con (by omega) (by omega) h3) ?B ?F ?X ?N ?T ?hk ?hd ?hu ?_); (case B => k_asm); (case F => k_asm); (case X => k_asm); (case N => k_asm); (case T => k_asm); (case hk => first | exact rfl | assumption); (case hd => ktr_room); (case hu => ktr_units); rintro r9 news9 h9 tk9 F9 N9 ⟨q9, t9, u9, rfl, rfl, l9⟩; (try dsimp only); (try k_fold))
  k_with "exec While Constant cons nil" => (refine hold_of ?_)
  k_steps
  unfold Hold
  rename Fr _ _ _ _ => F'
  rename News _ _ _ ((_, listOf _ _) :: news) => N'
  rename (∀ p ∈ news, p.1 < _) => l1
  obtain ⟨lr, hlr⟩ := named N'
  subst hlr
  refine While_inv2 (InvR l t lr news) F' N' ⟨0, _, [], 0, l.length + 1, rfl, by omega, by simp, rfl, by kst_all, by omega, rfl⟩ ?_ (by first | passes_own | with_unfolding_all passes_own)
  clear F' N'
  rintro n mm nx h₁ tk₁ F₁ N₁ ⟨a, ta, ps, cnt, k, rfl, ha, hpa, rfl, hm, hk9, hrow⟩
  replace F₁ := fr_kst _ F₁ hm
  dsimp only [kstB] at F₁
  clear hm
  have hle := lnEnd_le (l := l) (e := l.length) ha
  have hps : ps.length ≤ 16777216 := by omega
  k_with "call builtin:list.append" => ((rename Fr _ _ _ _ => F'); (rename News _ _ _ _ => N'); (refine append_b F' N' (rest := news) (fun p hp => List.mem_cons_of_mem _ hp) (fun p hp => Nat.ne_of_lt (l1 p hp)) hps ?_); clear F' N'; intro h8 n8 F8 N8; (try dsimp only))
  obtain ⟨k, rfl⟩ : ∃ k', k = k' + 1 := ⟨k - 1, by omega⟩
  rw [rowsF] at hrow
  k_steps
  all_goals (try dsimp only at *)
  · rename ((lnEnd l a l.length).1 : Int) = (l.length : Int) => heq
    have heq' : (lnEnd l a l.length).1 = l.length := by omega
    rw [if_pos heq'] at hrow
    dsimp only [WhileStep2]
    k_steps
    refine hret _ _ _ _ (by assumption) (by assumption) ⟨lr, _, _, rfl, rfl, l1, ?_⟩
    rw [← hrow, List.map_append, List.map_singleton]
    dsimp only
    rw [cutL_nn a _ rfl rfl (by omega)]
  · rename ((lnEnd l a l.length).1 : Int) ≠ (l.length : Int) => heq
    have heq' : ¬ (lnEnd l a l.length).1 = l.length := by omega
    rw [if_neg heq'] at hrow
    rename Fr _ _ _ _ => F'
    rename News _ _ _ _ => N'
    refine ⟨_, _, _, _, l.length + 1 - (lnEnd l a l.length).2, rfl, F', N', by omega, (lnEnd l a l.length).2, _, _, _, k, rfl, by omega, ?_, rfl, by kst_all, by omega, ?_⟩
    · rw [List.length_append]; simp only [List.length_singleton]; omega
    · rw [← hrow, List.map_append, List.map_singleton, List.append_assoc]
      dsimp only
      rw [cutL_nn a _ rfl rfl (by omega)]
      rfl
end
section
open PySem PySem.W PyProof.Rows
set_option maxRecDepth 100000
open Builtin
/-! ## bytes.join -/
def joinL (sep : List UInt8) : List (List UInt8) → List UInt8
  | [] => []
  | x :: r => x ++ r.flatMap fun y => sep ++ y
theorem joined_from (sep : List UInt8) : ∀ (xs : List (List UInt8)) (k : Nat) (acc : List UInt8),
    ((xs.map List.toArray).zipIdx (k + 1)).foldl (fun (out : Array UInt8) (q : Array UInt8 × Nat) => (if q.2 > 0 then out ++ sep.toArray else out) ++ q.1) acc.toArray = (acc ++ xs.flatMap fun y => sep ++ y).toArray
  | [], k, acc => by simp
  | x :: r, k, acc => by
    rw [List.map_cons, List.zipIdx_cons, List.foldl_cons]
    have e : (if (x.toArray, k + 1).2 > 0 then acc.toArray ++ sep.toArray else acc.toArray) ++ (x.toArray, k + 1).1 = (acc ++ (sep ++ x)).toArray := by
      simp
    rw [e, joined_from sep r (k + 1)]
    simp
theorem joined_b (sep : List UInt8) (xs : List (List UInt8)) : Bytes.joined sep.toArray (xs.map List.toArray) = (joinL sep xs).toArray := by
  unfold Bytes.joined
  cases xs with
  | nil => rfl
  | cons x r =>
    rw [List.map_cons, List.zipIdx_cons, List.foldl_cons]
    have e : (if 0 > 0 then (#[] : Array UInt8) ++ sep.toArray else #[]) ++ x.toArray = x.toArray := by simp
    dsimp only
    rw [e]
    exact joined_from sep r 0 x
theorem size_from (sep : List UInt8) : ∀ (xs : List (List UInt8)) (k : Nat), (xs.map List.toArray).foldl (fun (n : Nat) (b : Array UInt8) => n + b.size) k = k + (xs.map List.length).sum
  | [], k => by simp
  | x :: r, k => by
    rw [List.map_cons, List.foldl_cons, size_from sep r]
    simp; omega
theorem len_join (sep : List UInt8) (xs : List (List UInt8)) : (joinL sep xs).length = sep.length * (xs.length - 1) + (xs.map List.length).sum := by
  cases xs with
  | nil => simp [joinL]
  | cons x r =>
    have e : ∀ r : List (List UInt8), (r.flatMap fun y => sep ++ y).length = sep.length * r.length + (r.map List.length).sum := by
      intro r
      induction r with
      | nil => simp
      | cons y r ih => simp only [List.flatMap_cons, List.length_append, ih, List.length_cons, List.map_cons, List.sum_cons]; rw [Nat.mul_succ]; omega
    simp only [joinL, List.length_append, e, List.length_cons, List.map_cons, List.sum_cons, Nat.add_sub_cancel]
    omega
theorem take_eq {b : Array UInt8} {t : Tok} {id : String} : Bytes.takeBufferQuiet? id (.bytes b t) 0 = pure (some (b, none)) := by
  have e : Bytes.takeBuffer? id (.bytes b t) 0 = pure (some (b, none)) := by
    unfold Bytes.takeBuffer?
    rw [KBy.special_eq KBy.look_buffer]
    have h : Bytes.buffer? id (.bytes b t) ((0 : Int) == Bytes.fullReadOnly) = pure (some b) := KBy.buffer_eq
    rw [KBy.own_buffer]
    kernel_rfl
  unfold Bytes.takeBufferQuiet?
  rw [e]
  rfl
/-- what the loop has taken -/
def tkn (ps : BT) : List (Value × Option Value) := ps.map fun p => (.bytes p.1.toArray p.2, none)
theorem tkn_any (ps : BT) : (tkn ps).any (fun x => x.1.onHeap) = false := by
  induction ps with
  | nil => rfl
  | cons p r ih => simp only [tkn, List.map_cons, List.any_cons] at ih ⊢; rw [ih]; rfl
theorem goes {M : Model} {A : Around} {E : Value → Shared → Prop} {s : Shared} {Q : Unit → Shared → Prop} : ∀ (ps : BT) (keep : List Value), Q () s → wpAny M A (Bytes.joinLetGo (tkn ps) keep) Q E s
  | [], _, h => wpAny_pure h
  | p :: r, keep, h => by
    show wpAny M A (Bytes.joinLetGo ((Value.bytes p.1.toArray p.2, none) :: tkn r) keep) Q E s
    unfold Bytes.joinLetGo
    dsimp only
    unfold letGo
    refine wpAny_bind (wpAny_bind (wpAny_holding (wpAny_point ?_)))
    unfold letGo
    exact wpAny_pure (goes r keep h)
theorem m_other {α : Type} {items : Array Value} (h : items.size ≠ 1) (f : Value → α) (g : Array Value → α) : Bytes.joinM.match_1 (fun _ => α) items f g = g items := by
  unfold Bytes.joinM.match_1
  rw [dif_neg h]
theorem m_one {α : Type} (x : Value) (f : Value → α) (g : Array Value → α) : Bytes.joinM.match_1 (fun _ => α) #[x] f g = f x := rfl
theorem meets_join {sep : List UInt8} {t : Tok} {a : Addr} {ps : BT} :
    Meets («bytes.join» ⟨[.bytes sep.toArray t, .ref a], []⟩) (fun _ R s => s.heap.IsList a (valsB ps).toArray ∧ (joinL sep (ps.map (·.1))).length ≤ sizeLine ∧ ∀ t' k, R (.ok (.ret (.bytes (joinL sep (ps.map (·.1))).toArray t'))) { s with toks := k }) := by
  refine .of_wp fun prog w A R s hS => ?_
  obtain ⟨hl, hz, h⟩ := hS
  obtain ⟨o, ho, hc, n, hd⟩ := id hl
  generalize hv : (valsB ps).toArray = items at hd
  have hsz9 : items.size = ps.length := by rw [← hv]; simp [valsB]
  have hT : s.TypeIs (.ref a) "list" := ⟨o, ho, hc⟩
  unfold «bytes.join» Bytes.joinM
  refine wpAny_bind (wpAny_of_eq (a := (Value.bytes sep.toArray t, Value.ref a)) (by kernel_rfl) ?_)
  dsimp only
  refine wpAny_ite (KBc.ite_yes rfl ?_)
  refine wpAny_bind ?_
  unfold Bytes.joinItems
  refine wpAny_bind (wpAny_typeOf hT ?_)
  refine wpAny_ite (KBc.ite_yes rfl (wpAny_pure ?_))
  refine wpAny_bind (wpAny_seqItems ho hd ?_)
  dsimp only
  refine wpAny_ite (KBc.ite_yes rfl ?_)
  by_cases h1 : ps.length = 1
  · obtain ⟨p, rfl⟩ := List.length_eq_one_iff.mp h1
    have hx : items = #[.bytes p.1.toArray p.2] := by rw [← hv]; rfl
    clear hv
    subst hx
    rw [m_one]
    refine wpAny_bind (wpAny_typeOf (typeIs_bytes s _ _) ?_)
    refine wpAny_ite (KBc.ite_yes rfl (wpAny_bind (wpAny_rule (wpAny_pure ⟨_, rfl, ?_⟩))))
    have h' := h p.2 s.toks
    simp only [List.map_cons, List.map_nil, joinL, List.flatMap_nil, List.append_nil] at h'
    exact h'
  · rw [m_other (by rw [hsz9]; exact h1)]
    refine wpAny_bind ?_
    rw [Std.Legacy.Range.forIn_eq_forIn_range']
    refine wpAny_forIn_list _ (fun rest b s' => s' = s ∧ ∃ i, rest = List.range' i (ps.length - i) ∧ i ≤ ps.length ∧ b = (((ps.take i).map fun p => p.1.toArray).toArray, tkn (ps.take i))) _ ?_ ?_ _ _ ?_
    · rintro i rest b s' ⟨rfl, j, hr, hi, rfl⟩
      have hlt : j < ps.length := by
        rcases Nat.lt_or_ge j ps.length with h9 | h9
        · exact h9
        · rw [Nat.sub_eq_zero_of_le h9] at hr; cases hr
      obtain ⟨m, hm⟩ : ∃ m, ps.length - j = m + 1 := ⟨ps.length - j - 1, by omega⟩
      rw [hm, List.range'_succ] at hr
      obtain ⟨e9, rfl⟩ := List.cons.inj hr
      subst e9
      refine wpAny_bind (wpAny_seqItems ho hd ?_)
      dsimp only
      have hget : items.getD i Value.none = .bytes ps[i].1.toArray ps[i].2 := by
        rw [← hv]; simp [valsB, hlt]
      rw [hget]
      refine wpAny_ite (KBy.ite_no (by rw [tkn_any]; decide) ?_)
      refine wpAny_bind (wpAny_holding (wpAny_of_eq take_eq ?_))
      dsimp only
      refine wpAny_bind (wpAny_seqItems ho hd ?_)
      dsimp only
      refine wpAny_ite (KBy.ite_no (by simp) (wpAny_pure ?_))
      refine ⟨rfl, i + 1, ?_, hlt, ?_⟩
      · have : ps.length - (i + 1) = m := by omega
        rw [this]
      · have et : ps.take (i + 1) = ps.take i ++ [ps[i]] := by rw [List.take_add_one, List.getElem?_eq_getElem hlt]; rfl
        have e1 : (ps.take (i + 1)).map (fun p => p.1.toArray) = (ps.take i).map (fun p => p.1.toArray) ++ [ps[i].1.toArray] := by rw [et, List.map_append]; rfl
        have e2 : tkn (ps.take (i + 1)) = tkn (ps.take i) ++ [(.bytes ps[i].1.toArray ps[i].2, none)] := by rw [et]; unfold tkn; rw [List.map_append]; rfl
        rw [e1, e2, List.push_toArray]
    · rintro b s' ⟨rfl, i, hr, hi, rfl⟩
      have hi' : i = ps.length := by
        rcases Nat.lt_or_ge i ps.length with h9 | h9
        · obtain ⟨m, hm⟩ : ∃ m, ps.length - i = m + 1 := ⟨ps.length - i - 1, by omega⟩
          rw [hm, List.range'_succ] at hr
          cases hr
        · omega
      subst hi'
      rw [List.take_length]
      dsimp only
      refine wpAny_bind (wpAny_of_eq (a := sep.toArray) rfl ?_)
      have hp : (ps.map fun p => p.1.toArray).toArray.toList = (ps.map (·.1)).map List.toArray := by simp
      have hs : Array.foldl (fun x1 (x2 : Array UInt8) => x1 + x2.size) (sep.toArray.size * ((ps.map fun p => p.1.toArray).toArray.size - 1)) (ps.map fun p => p.1.toArray).toArray = (joinL sep (ps.map (·.1))).length := by
        rw [len_join, ← Array.foldl_toList, hp, size_from sep]
        simp
      refine wpAny_ite (KBy.ite_no ?_ ?_)
      · rw [hs]
        unfold Bytes.tooLong
        simp only [decide_eq_true_eq]
        omega
      · have hp2 : (ps.map fun p => p.1.toArray) = (ps.map (·.1)).map List.toArray := by simp
        rw [hp2, joined_b]
        refine wpAny_bind (wpAny_mkBytes ?_ (by simpa using hz))
        refine wpAny_bind (wpAny_holding (wpAny_point ?_))
        refine wpAny_bind (goes ps _ ?_)
        exact wpAny_pure ⟨_, rfl, h _ _⟩
    · refine ⟨rfl, 0, ?_, by omega, ?_⟩
      · simp [hsz9]
      · simp [tkn]
theorem call_join {prog : Program} {w : World} {A : Around} {E : Value → Shared → Prop} {s : Shared} {h₀ : Heap} {L a : Addr} {ps : BT} {xs : List (List UInt8)} {n : Nat} {sep : List UInt8} {t : Tok} {nx : List (Addr × Obj)} {Q : Value → Shared → Prop}
    (N : News h₀ L s.heap nx) (hm : (a, listOf (valsB ps).toArray n) ∈ nx) (hx : ps.map (·.1) = xs) (hz : (joinL sep xs).length ≤ 16777216) (h : ∀ t' k, Q (.bytes (joinL sep xs).toArray t') { s with toks := k }) :
    wpAny (model prog w) A (call (.builtin "bytes.join") [.bytes sep.toArray t, .ref a]) Q E s := by
  subst hx
  exact call_meets slot_join (typeIs_bytes _ _ _) entry_join (args_join _ _) meets_join ⟨⟨_, (N _ hm).1, rfl, n, rfl⟩, by rw [sizeLine_eq]; exact hz, h⟩
end
section
open PySem PySem.W PyProof.Rows
set_option maxRecDepth 100000
/-! ## unfolded -/
theorem length_nil_join (xs : List (List UInt8)) : (joinL [] xs) = xs.flatten := by
  cases xs with
  | nil => rfl
  | cons x r => simp [joinL, List.flatMap]
theorem rowsF_len : ∀ (k : Nat) (l : List UInt8) (a : Nat), ((rowsF k l a).map List.length).sum ≤ l.length - a
  | 0, _, _ => by simp [rowsF]
  | k + 1, l, a => by
    rw [rowsF]
    rcases Nat.lt_or_ge l.length a with h | h
    · have e : lnEnd l a l.length = (l.length, l.length) := by
        refine lnEnd_none ?_
        unfold fnd
        rw [Nat.sub_eq_zero_of_le (by omega)]
        rfl
      rw [e]
      simp
    · have hle := lnEnd_le (l := l) (e := l.length) h
      split
      · simp; omega
      · have ih := rowsF_len k l (lnEnd l a l.length).2
        simp only [List.map_cons, List.sum_cons, List.length_take, List.length_drop]
        omega
theorem news_cb {h₀ h : Heap} {L : Addr} {p : Addr × Obj} {news : List (Addr × Obj)} (N : News h₀ L h (p :: news)) : News h₀ L h news := fun q hq => N q (List.mem_cons_of_mem _ hq)
theorem unfolded_con {w : World} {p : Program} {loose : List PySem.Str} {mean : ExcName → Option Value} {mg mb : PySem.Str → Option Value} {l : List UInt8} {t : Tok} {news : List (Addr × Obj)} (h3 : l.length ≤ 16777216) :
    Con w p loose mean mg mb 3 146 [.bytes l.toArray t] [] news (fun r news' => ∃ t', r = .bytes (stripW (rowsF (l.length + 1) l 0).flatten).toArray t' ∧ news' = news) := by
  unfold Con
  k_fill
  intro dp un gd cn cs ca ccd cl outer A₀ base h₀ L m s Q E B F X N T hk hdp hun hret
  have hl9 := rowsF_len (l.length + 1) l 0
  have hl8 : (joinL [] (rowsF (l.length + 1) l 0)).length ≤ 16777216 := by rw [len_join]; simp only [List.length_nil]; omega
  refine wpAny_call ?_
  k_dflt ktr_enter
  k_with "call ref" => (k_dflt (refine' con_use (rows_of_con h3) ?B ?F ?X ?N ?T ?hk ?hd ?hu ?_); (case B => k_asm); (case F => k_asm); (case X => k_asm); (case N => k_asm); (case T => k_asm); (case hk => first | exact rfl | assumption); (case hd => ktr_room); (case hu => ktr_units); rintro r9 news9 h9 tk9 F9 N9 ⟨q9, ps9, n9, rfl, rfl, l9, e9⟩; (try dsimp only); (try k_fold))
  k_with "call builtin:bytes.join" => (refine call_join (by assumption) (by k_mem) (by assumption) (by omega) ?_; intro _ _)
  k_steps
  all_goals (try dsimp only at *)
  exact hret _ _ _ _ (by assumption) (news_cb (by assumption)) ⟨_, by rw [length_nil_join], rfl⟩
end
section
open PySem PySem.W PyProof.Rows
set_option maxRecDepth 100000
/-! ## the table WHITE -/
theorem white_at (P : Params) : (hd.heap_39 P).lookup 62 = some ({ cls := .type "tuple", dict := none, data := .seq [.int 32 256, .int 9 257].toArray 0, slots := #[] } : Obj) := by rfl
theorem white_any (c : UInt8) : ([32, 9] : List Int).any (· == (c.toNat : Int)) = isW c := by
  have h1 : ((32 : Int) == (c.toNat : Int)) = (c == 32) := by
    rw [Bool.eq_iff_iff]
    simp only [beq_iff_eq]
    rw [← UInt8.toNat_inj]
    show (32 : Int) = (c.toNat : Int) ↔ c.toNat = 32
    omega
  have h2 : ((9 : Int) == (c.toNat : Int)) = (c == 9) := by
    rw [Bool.eq_iff_iff]
    simp only [beq_iff_eq]
    rw [← UInt8.toNat_inj]
    show (9 : Int) = (c.toNat : Int) ↔ c.toNat = 9
    omega
  simp only [List.any_cons, List.any_nil, Bool.or_false, h1, h2, isW]
section
variable {prog : Program} {w : World} {A : Around} {E : Value → Shared → Prop} {s : Shared} {h₀ : Heap} {L : Addr} {m : PySem.Str → Option Value} {c : UInt8} {u : Tok} {Q : Value → Shared → Prop}
theorem in_white (F : Fr h₀ L s.heap m) (X : (hd.heap_39 w.params).In h₀) (h : Q (.bool (isW c)) s) : wpAny (model prog w) A (compareOp .In (.int (c.toNat : Int) u) (.ref 62)) Q E s :=
  in_tuple_ints (tupK (X.keeps F.keep) (white_at _)) (.cons 32 256 (.cons 9 257 .nil)) (by rw [white_any]; exact h)
theorem notin_white (F : Fr h₀ L s.heap m) (X : (hd.heap_39 w.params).In h₀) (h : Q (.bool (!isW c)) s) : wpAny (model prog w) A (compareOp .NotIn (.int (c.toNat : Int) u) (.ref 62)) Q E s :=
  notin_tuple_ints (tupK (X.keeps F.keep) (white_at _)) (.cons 32 256 (.cons 9 257 .nil)) (by rw [white_any]; exact h)
end
end
local macro_rules | `(tactic| walk_at "compareOp In int ref") => `(tactic| (k_here; (with_reducible rename Fr _ _ _ _ => F'); (refine in_white F' (by k_asm) ?_)))
local macro_rules | `(tactic| walk_at "compareOp NotIn int ref") => `(tactic| (k_here; (with_reducible rename Fr _ _ _ _ => F'); (refine notin_white F' (by k_asm) ?_)))
section
open PySem PySem.W PyProof.Rows
set_option maxRecDepth 100000
/-! ## pieces_of -/
/-- the place behind the run of octets of p from a on -/
def skp (p : UInt8 → Bool) (l : List UInt8) (a : Nat) : Nat := a + ((l.drop a).takeWhile p).length
def piecesF : Nat → List UInt8 → Nat → List (List UInt8)
  | 0, _, _ => []
  | n + 1, l, a => if a < l.length then (l.drop a).take (skp (fun c => !isW c) l (skp isW l a) - a) :: piecesF n l (skp (fun c => !isW c) l (skp isW l a)) else []
theorem skp_step {p : UInt8 → Bool} {l : List UInt8} {a : Nat} (h : a < l.length) (hp : p (l.getD a 0) = true) : skp p l a = skp p l (a + 1) := by
  unfold skp
  have e : l.drop a = l.getD a 0 :: l.drop (a + 1) := by
    rw [List.getD_eq_getElem?_getD, List.getElem?_eq_getElem h]
    exact List.drop_eq_getElem_cons h
  rw [e, List.takeWhile_cons, if_pos hp, List.length_cons]
  omega
theorem skp_stop {p : UInt8 → Bool} {l : List UInt8} {a : Nat} (h : a < l.length) (hp : p (l.getD a 0) = false) : skp p l a = a := by
  unfold skp
  have e : l.drop a = l.getD a 0 :: l.drop (a + 1) := by
    rw [List.getD_eq_getElem?_getD, List.getElem?_eq_getElem h]
    exact List.drop_eq_getElem_cons h
  rw [e, List.takeWhile_cons, if_neg (by rw [hp]; decide)]
  rfl
theorem skp_end {p : UInt8 → Bool} {l : List UInt8} {a : Nat} (h : l.length ≤ a) : skp p l a = a := by
  unfold skp
  rw [List.drop_eq_nil_of_le h]
  rfl
theorem skp_le {p : UInt8 → Bool} {l : List UInt8} {a : Nat} (h : a ≤ l.length) : a ≤ skp p l a ∧ skp p l a ≤ l.length := by
  unfold skp
  have h1 := (List.takeWhile_sublist p (l := l.drop a)).length_le
  rw [List.length_drop] at h1
  omega
@[reducible] def InvP (l : List UInt8) (t : Tok) (lr : Addr) (news : List (Addr × Obj)) (n : Nat) (mm : PySem.Str → Option Value) (nx : List (Addr × Obj)) : Prop := ∃ (a : Nat) (ta : Tok) (ps : BT) (cnt k : Nat), n = l.length - a ∧ a ≤ l.length ∧ ps.length ≤ a ∧ nx = (lr, listOf (valsB ps).toArray cnt) :: news ∧ (∀ p ∈ [(PySem.Str.ofString "body", Value.bytes l.toArray t), (PySem.Str.ofString "pieces", .ref lr), (PySem.Str.ofString "at", .int a ta)], mm p.1 = some p.2) ∧ l.length - a < k ∧ ps.map (·.1) ++ piecesF k l a = piecesF (l.length + 1) l 0
@[reducible] def InvP1 (l : List UInt8) (t : Tok) (lr : Addr) (news : List (Addr × Obj)) (a : Nat) (ta : Tok) (ps : BT) (cnt : Nat) (n : Nat) (mm : PySem.Str → Option Value) (nx : List (Addr × Obj)) : Prop := ∃ (x : Nat) (tx : Tok), n = l.length - x ∧ a ≤ x ∧ x ≤ l.length ∧ nx = (lr, listOf (valsB ps).toArray cnt) :: news ∧ (∀ p ∈ [(PySem.Str.ofString "body", Value.bytes l.toArray t), (PySem.Str.ofString "pieces", .ref lr), (PySem.Str.ofString "begun", .int a ta), (PySem.Str.ofString "at", .int x tx)], mm p.1 = some p.2) ∧ skp isW l x = skp isW l a
@[reducible] def InvP2 (l : List UInt8) (t : Tok) (lr : Addr) (news : List (Addr × Obj)) (a : Nat) (ta : Tok) (ps : BT) (cnt : Nat) (n : Nat) (mm : PySem.Str → Option Value) (nx : List (Addr × Obj)) : Prop := ∃ (y : Nat) (ty : Tok), n = l.length - y ∧ skp isW l a ≤ y ∧ y ≤ l.length ∧ nx = (lr, listOf (valsB ps).toArray cnt) :: news ∧ (∀ p ∈ [(PySem.Str.ofString "body", Value.bytes l.toArray t), (PySem.Str.ofString "pieces", .ref lr), (PySem.Str.ofString "begun", .int a ta), (PySem.Str.ofString "at", .int y ty)], mm p.1 = some p.2) ∧ skp (fun c => !isW c) l y = skp (fun c => !isW c) l (skp isW l a)
theorem pieces_of_con {w : World} {p : Program} {loose : List PySem.Str} {mean : ExcName → Option Value} {mg mb : PySem.Str → Option Value} {l : List UInt8} {t : Tok} {news : List (Addr × Obj)} (h3 : l.length ≤ 16777216) :
    Con w p loose mean mg mb 1 153 [.bytes l.toArray t] [] news (fun r news' => ∃ q ps n, r = .ref q ∧ news' = (q, listOf (valsB ps).toArray n) :: news ∧ (∀ p ∈ news, p.1 < q) ∧ ps.map (·.1) = piecesF (l.length + 1) l 0) := by
  unfold Con
  k_fill
  intro dp un gd cn cs ca ccd cl outer A₀ base h₀ L m s Q E B F X N T hk hdp hun hret
  refine wpAny_call ?_
  k_dflt ktr_enter
  rename Fr _ _ _ _ => Fo
  obtain ⟨m0, F0⟩ := fr_gen [(PySem.Str.ofString "body", _)] Fo (List.forall_mem_cons.mpr ⟨rfl, List.forall_mem_nil _⟩)
  clear Fo
  dsimp only [kstB] at F0
  refine any_tok fun tk0 => ?_
  k_with "exec While Compare cons nil" => (refine hold_of ?_)
  k_with "exec While BoolOp cons nil" => (refine hold_of ?_)
  k_steps
  unfold Hold
  rename Fr _ _ _ _ => F'
  rename News _ _ _ ((_, listOf _ _) :: news) => N'
  rename (∀ p ∈ news, p.1 < _) => l1
  obtain ⟨lr, hlr⟩ := named N'
  subst hlr
  refine While_inv2 (InvP l t lr news) F' N' ⟨0, _, [], 0, l.length + 1, rfl, by omega, by simp, rfl, by kst_all, by omega, rfl⟩ ?_ (by first | passes_own | with_unfolding_all passes_own)
  clear F' N'
  rintro n mm nx h₁ tk₁ F₁ N₁ ⟨a, ta, ps, cnt, k, rfl, ha, hpa, rfl, hm, hk9, hrow⟩
  replace F₁ := fr_kst _ F₁ hm
  dsimp only [kstB] at F₁
  clear hm
  obtain ⟨k, rfl⟩ : ∃ k', k = k' + 1 := ⟨k - 1, by omega⟩
  rw [piecesF] at hrow
  have hps : ps.length ≤ 16777216 := by omega
  k_with "call builtin:list.append" => ((rename Fr _ _ _ _ => F'); (rename News _ _ _ _ => N'); (refine append_b F' N' (rest := news) (fun p hp => hp) (fun p hp => Nat.ne_of_lt (l1 p hp)) hps ?_); clear F' N'; intro h8 n8 F8 N8; (try dsimp only))
  k_steps
  all_goals (try unfold Hold)
  all_goals (try dsimp only at *)
  · rename ((a : Int) < (l.length : Int)) => hlt
    have hlt' : a < l.length := by omega
    rw [if_pos hlt'] at hrow
    have hb := skp_le (p := isW) (l := l) ha
    have hc := skp_le (p := fun c => !isW c) (l := l) hb.2
    rename Fr _ _ _ _ => F'
    rename News _ _ _ _ => N'
    refine While_inv2 (InvP1 l t lr news a ta ps cnt) F' N' ⟨a, ta, rfl, by omega, by omega, rfl, by kst_all, rfl⟩ ?_ (by first | passes_own | with_unfolding_all passes_own)
    clear F' N'
    rintro n mm nx h₁ tk₁ F₁ N₁ ⟨x, tx, rfl, hx1, hx2, rfl, hm, hsk⟩
    replace F₁ := fr_kst _ F₁ hm
    dsimp only [kstB] at F₁
    clear hm
    k_steps
    all_goals (try unfold Hold)
    all_goals (try dsimp only at *)
    · rename Fr _ _ _ _ => F'
      rename News _ _ _ _ => N'
      refine ⟨_, _, _, _, l.length - (x + 1), rfl, F', N', by omega, x + 1, _, rfl, by omega, by omega, rfl, by kst_all, ?_⟩
      rw [← hsk]
      exact (skp_step (by omega) (by assumption)).symm
    all_goals
      have hxb : x = skp isW l a := by
        rw [← hsk]
        first
          | exact (skp_stop (by omega) (by assumption)).symm
          | exact (skp_end (by omega)).symm
      clear hsk
      subst hxb
      rename Fr _ _ _ _ => F'
      rename News _ _ _ _ => N'
      refine While_inv2 (InvP2 l t lr news a ta ps cnt) F' N' ⟨skp isW l a, tx, rfl, by omega, by omega, rfl, by kst_all, rfl⟩ ?_ (by first | passes_own | with_unfolding_all passes_own)
      clear F' N'
      rintro n mm nx h₁ tk₁ F₁ N₁ ⟨y, ty, rfl, hy1, hy2, rfl, hm, hsk⟩
      replace F₁ := fr_kst _ F₁ hm
      dsimp only [kstB] at F₁
      clear hm
      k_steps
      all_goals (try unfold Hold)
      all_goals (try dsimp only at *)
      all_goals first
        | (rename (isW (l.getD y 0) = false) => hw9
           have hy9 : y + 1 ≤ l.length := by omega
           rename Fr _ _ _ _ => F'
           rename News _ _ _ _ => N'
           refine ⟨_, _, _, _, l.length - (y + 1), rfl, F', N', by omega, y + 1, _, rfl, by omega, by omega, rfl, by kst_all, ?_⟩
           rw [← hsk]
           exact (skp_step (by omega) (by rw [hw9]; rfl)).symm)
        | (have hyc : y = skp (fun c => !isW c) l (skp isW l a) := by
             rw [← hsk]
             first
               | exact (skp_stop (by omega) (by rw [‹isW (l.getD y 0) = true›]; rfl)).symm
               | exact (skp_end (by omega)).symm
           have hac : a < y := by
             rcases Nat.lt_or_ge a y with h | h
             · exact h
             · exfalso
               have h1 : skp isW l a = a := by omega
               have h2 : y = a := by omega
               rw [h1] at hyc
               have h3 : isW (l.getD a 0) = false := by
                 cases hb9 : isW (l.getD a 0) with
                 | false => rfl
                 | true =>
                   rw [skp_step hlt' hb9] at h1
                   have := (skp_le (p := isW) (l := l) (a := a + 1) (by omega)).1
                   omega
               have h4 := skp_step (p := fun c => !isW c) hlt' (by rw [h3]; rfl)
               rw [← hyc, h2] at h4
               have := (skp_le (p := fun c => !isW c) (l := l) (a := a + 1) (by omega)).1
               omega
           rename Fr _ _ _ _ => F'
           rename News _ _ _ _ => N'
           refine ⟨_, _, _, _, l.length - y, rfl, F', N', by omega, y, _, _, _, k, rfl, by omega, ?_, rfl, by kst_all, by omega, ?_⟩
           · rw [List.length_append]; simp only [List.length_singleton]; omega
           · rw [← hrow, List.map_append, List.map_singleton, List.append_assoc, cutL_nn a _ rfl rfl (by omega), ← hyc]
             rfl)
  · rename (¬ (a : Int) < (l.length : Int)) => hge
    rw [if_neg (by omega), List.append_nil] at hrow
    exact hret _ _ _ _ (by assumption) (by assumption) ⟨lr, _, _, rfl, rfl, l1, hrow⟩
end
section
open PySem PySem.W PyProof.Rows PyProof.V PySem.Spec PySem.Calls
set_option maxRecDepth 100000
/-- members by their places in the list -/
theorem picks {α : Type} (ys r : List α) (is : List Nat) : ∀ p ∈ is.filterMap (ys[·]?) ++ r, p ∈ ys ++ r := by
  intro p hp
  rcases List.mem_append.mp hp with hp | hp
  · obtain ⟨i, _, hi⟩ := List.mem_filterMap.mp hp
    exact List.mem_append_left _ (List.mem_of_getElem? hi)
  · exact List.mem_append_right _ hp
/-! ## a def entered with nothing on its ledger: all that stood stays -/
theorem enter0 {prog : Program} {w : World} {A₀ A : Around} {s : Shared} {base h₀ : Heap} {outer : List Env} {L : Addr} {m mg mb : PySem.Str → Option Value} {env : Env} {K : Frag} {p : Program} {loose : List PySem.Str} {mean : ExcName → Option Value}
    {R : Result → Shared → Prop} {name qual : PySem.Str} {params : Arguments} {body : List Stmt} {scope : Scope} {dV kV doc pm cdv ct oc : Value} {an od : Option Addr} {osl : Array (Option Value)} {f : Addr} {args : Args} {binds : List (PySem.Str × Value)}
    (B : Below A₀ base outer h₀) (F : Fr h₀ L s.heap m) (X₀ : K.In h₀) (T : Top p loose mean mg mb h₀) (hA : A.frames = some (env :: outer)) (hf : env.frame = some L) (hke : env.scope.kind = .function)
    (ho : K.lookup f = some ⟨oc, od, .func (fnOf name qual params body scope dV kV doc pm an cdv ct), osl⟩) (hcd : codeIn K cdv qual = true) (hroom : A.depth < recursionLimit)
    (hbind : BindsTo s (fnOf name qual params body scope dV kV doc pm an cdv ct) args binds) (hloc : ∀ y ∈ binds, scope.names.lookup y.1 = some .local)
    (h : ∀ L' h₁, Fr s.heap L' h₁ (fun y => binds.reverse.lookup y) → News s.heap L' h₁ [] → Below A base (env :: outer) s.heap → K.In s.heap → Top p loose mean mg mb s.heap →
      wpAny (model prog w) (A.deeper (envOf qual scope L' f cdv)) (execs body (envOf qual scope L' f cdv))
        (fun fl s' => LeaveK h₀ L m s.heap R (match fl with | .ret v => v | _ => .none) s')
        (fun e s' => wpAny (model prog w) (A.deeper (envOf qual scope L' f cdv)) (leaving (envOf qual scope L' f cdv) e) (fun _ s'' => R (.error e) s'') (fun e' s'' => R (.error e') s'') s')
        { s with heap := h₁, toks := s.toks + binds.length })
    (hco : scope.isCoroutine = false) (hgen : scope.isGenerator = false) (hk : scope.kind = .function)
    (hcell : ∀ x ∈ scope.names, x.2 ≠ .cell) : codeAny (model prog w) A (.call (.ref f) args) R s := by
  obtain ⟨_, BG, st, lv⟩ := groundX (R := R) B F News.nil hA hf hke
  have X := X₀.keeps F.keep
  refine codeAny_call_def (fd := fnOf name qual params body scope dV kV doc pm an cdv ct) (body := body) (binds := binds) hroom (X _ _ ho) rfl (T.nolimit.keeps F.keep) (codeRec_of X hcd) rfl hbind hcell hloc (fun h₁ hns hk₁ => ?_) hco hgen hk
  exact wpAny_mono (h s.heap.objs.size h₁ ⟨hns, hk₁, Nat.le_refl _⟩ News.nil BG X (T.keeps F.keep)) (fun fl s' hl => lv _ _ hl) fun _ _ y => y
/-- a contract of a def that turns nothing that stood: what it hands back, and what it made -/
def Pur (w : World) (p : Program) (loose : List PySem.Str) (mean : ExcName → Option Value) (mg mb : PySem.Str → Option Value) (d : Nat) (f : Addr) (vs : List Value) (kw : List (PySem.Str × Value)) (Pre : Heap → Prop)
    (Out : Value → List (Addr × Obj) → Prop) : Prop :=
  ∀ (dp un : Nat) (gd : Option (List Code)) (cn : PySem.Str) (cs : Scope) (a : Addr) (ccd : Value) (cl : List (PySem.Str × Addr)) (outer : List Env) (A₀ : Around) (base h₀ : Heap) (L : Addr) (m : PySem.Str → Option Value) (news : List (Addr × Obj)) (s : Shared) (Q E : Value → Shared → Prop),
    Below A₀ base outer h₀ → Fr h₀ L s.heap m → (hd.heap_39 w.params).In h₀ → News h₀ L s.heap news → Top p loose mean mg mb h₀ → cs.kind = .function → dp + d < recursionLimit → un + 8 * d < cLine → Pre s.heap →
    (∀ r tl h' tk', Fr h₀ L h' m → News h₀ L h' (tl ++ news) → (∀ q ∈ tl, ∀ p ∈ news, p.1 ≠ q.1) → (∀ b o, s.heap.get? b = some o → h'.get? b = some o) → Out r tl → Q r { s with heap := h', toks := tk' }) →
    wpAny (model PySem.Challenge.rw_or0038_01.row.prog w) (ktrTop dp un gd cn cs L a ccd cl outer) (call (.ref f) vs kw) Q E s
theorem pur_use {w : World} {p : Program} {loose : List PySem.Str} {mean : ExcName → Option Value} {mg mb : PySem.Str → Option Value} {d : Nat} {f : Addr} {vs : List Value} {kw : List (PySem.Str × Value)} {news : List (Addr × Obj)} {Pre : Heap → Prop}
    {Out : Value → List (Addr × Obj) → Prop} {dp un : Nat} {gd : Option (List Code)} {cn : PySem.Str} {cs : Scope} {a : Addr} {ccd : Value} {cl : List (PySem.Str × Addr)} {outer : List Env} {A₀ : Around} {base h₀ : Heap} {L : Addr} {m : PySem.Str → Option Value} {s : Shared} {Q E : Value → Shared → Prop}
    (C : Pur w p loose mean mg mb d f vs kw Pre Out) (B : Below A₀ base outer h₀) (F : Fr h₀ L s.heap m) (X : (hd.heap_39 w.params).In h₀) (N : News h₀ L s.heap news) (T : Top p loose mean mg mb h₀) (hk : cs.kind = .function) (h1 : dp + d < recursionLimit) (h2 : un + 8 * d < cLine) (hp : Pre s.heap)
    (ret : ∀ r tl h' tk', Fr h₀ L h' m → News h₀ L h' (tl ++ news) → (∀ q ∈ tl, ∀ p ∈ news, p.1 ≠ q.1) → (∀ b o, s.heap.get? b = some o → h'.get? b = some o) → Out r tl → Q r { s with heap := h', toks := tk' }) :
    wpAny (model PySem.Challenge.rw_or0038_01.row.prog w) (ktrTop dp un gd cn cs L a ccd cl outer) (call (.ref f) vs kw) Q E s := C _ _ _ _ _ _ _ _ _ _ _ _ _ _ _ _ _ _ B F X N T hk h1 h2 hp ret
/-- the end of such a def -/
theorem pur_end {h₀ h h' : Heap} {L L' : Addr} {m' : PySem.Str → Option Value} {news tl : List (Addr × Obj)} (N : News h₀ L h news) (F' : Fr h L' h' m') (N' : News h L' h' tl) (kN : News h₀ L h' tl) :
    News h₀ L h' (tl ++ news) ∧ (∀ q ∈ tl, ∀ p ∈ news, p.1 ≠ q.1) ∧ ∀ b o, h.get? b = some o → h'.get? b = some o := by
  refine ⟨fun p hp => ?_, fun q hq p hp e => ?_, F'.keep⟩
  · rcases List.mem_append.mp hp with hp | hp
    · exact kN p hp
    · exact ⟨F'.keep _ _ (N p hp).1, (N p hp).2⟩
  · have h1 := (N p hp).1
    rw [e, (N' q hq).2.2] at h1
    cases h1
/-! ## loops over what is enumerated, by an invariant -/
section
variable {prog : Program} {w : World} {A : Around} {E : Value → Shared → Prop} {s : Shared} {env : Env} {h₀ : Heap} {target : Expr} {body : List Stmt} {Q : Flow → Shared → Prop} {ws : List (Addr × String)} {keep : List (Addr × Obj)}
theorem allObj_mono : ∀ {ws : List (Addr × String)} {k k' : List (Addr × Obj) → Prop}, (∀ its, k its → k' its) → AllObj ws k → AllObj ws k'
  | [], _, _, h, x => h _ x
  | w :: ws, _, _, h, x => fun o ho => allObj_mono (ws := ws) (fun its => h ((w.1, o) :: its)) (x o ho)
theorem items_go (Inv : Nat → (PySem.Str → Option Value) → List (Addr × Obj) → Prop) (vs : List Value)
    (step : ∀ (i : Nat) v m nx T t h tk, vs[i]? = some v → Inv i m nx → IsTup h T #[.int (i : Int) t, v] → Fr h₀ env.locals h m → AllObj ws (fun its => News h₀ env.locals h (its ++ nx) →
      wpAny (model prog w) A (assign target env (.ref T)) (fun _ s₂ => wpAny (model prog w) A (execs body env) (UnrPostW h₀ env.locals { s with heap := h, toks := tk } its (fun m' n' => SubL keep n' ∧ Inv (i + 1) m' n') Q) E s₂) E { s with heap := h, toks := tk }))
    (fin : ∀ m nx h tk, Inv vs.length m nx → Fr h₀ env.locals h m → News h₀ env.locals h nx → Q .next { s with heap := h, toks := tk }) :
    ∀ (rest : List Value) (i : Nat) (m : PySem.Str → Option Value) (nx : List (Addr × Obj)), vs.drop i = rest → i ≤ vs.length → Inv i m nx → ItemsRest prog w A E h₀ env target body Q s ws keep (enumItems i rest) m nx
  | [], i, m, nx, e, hi, hI => by
    have : i = vs.length := by
      have := congrArg List.length e
      simp only [List.length_drop, List.length_nil] at this
      omega
    subst this
    exact ItemsRest.zero fun h tk F N => fin m nx h tk hI F N
  | v :: rest, i, m, nx, e, hi, hI => by
    have hv : vs[i]? = some v := by
      have h0 : (vs.drop i)[0]? = some v := by rw [e]; rfl
      rw [List.getElem?_drop] at h0
      simpa using h0
    have hlt : i < vs.length := (List.getElem?_eq_some_iff.mp hv).1
    have hr : vs.drop (i + 1) = rest := by
      rw [← List.tail_drop, e]; rfl
    refine ItemsRest.pair fun T t h tk hT F => ?_
    refine allObj_mono (fun its hk N => ?_) (step i v m nx T t h tk hv hI hT F)
    refine wpAny_mono (hk N) (fun _ s₂ h₂ => wpAny_mono h₂ (fun f s₃ p => ?_) fun _ _ x => x) fun _ _ x => x
    have up : UnrEndW h₀ env.locals { s with heap := h, toks := tk } its (fun m' n' => SubL keep n' ∧ Inv (i + 1) m' n') s₃ →
        UnrEndW h₀ env.locals { s with heap := h, toks := tk } its (fun m' n' => SubL keep n' ∧ ItemsRest prog w A E h₀ env target body Q s ws keep (enumItems (i + 1) rest) m' n') s₃ := by
      rintro ⟨h', tk', m', n', e', F', N', ho, hk', hI'⟩
      exact ⟨h', tk', m', n', e', F', N', ho, hk', items_go Inv vs step fin rest (i + 1) m' n' hr hlt hI'⟩
    cases f with
    | ret v => exact p
    | brk => exact p
    | next => exact up p
    | cont => exact up p
theorem items_ind (Inv : Nat → (PySem.Str → Option Value) → List (Addr × Obj) → Prop) {vs : List Value} {m : PySem.Str → Option Value} {nx : List (Addr × Obj)} (h0 : Inv 0 m nx)
    (step : ∀ (i : Nat) v m nx T t h tk, vs[i]? = some v → Inv i m nx → IsTup h T #[.int (i : Int) t, v] → Fr h₀ env.locals h m → AllObj ws (fun its => News h₀ env.locals h (its ++ nx) →
      wpAny (model prog w) A (assign target env (.ref T)) (fun _ s₂ => wpAny (model prog w) A (execs body env) (UnrPostW h₀ env.locals { s with heap := h, toks := tk } its (fun m' n' => SubL keep n' ∧ Inv (i + 1) m' n') Q) E s₂) E { s with heap := h, toks := tk }))
    (fin : ∀ m nx h tk, Inv vs.length m nx → Fr h₀ env.locals h m → News h₀ env.locals h nx → Q .next { s with heap := h, toks := tk }) :
    ItemsRest prog w A E h₀ env target body Q s ws keep (enumItems 0 vs) m nx := items_go Inv vs step fin vs 0 m nx rfl (Nat.zero_le _) h0
end
end
section
open PySem PySem.W PyProof.Rows
set_option maxRecDepth 100000
/-! ## check_name -/
theorem check_name_con {w : World} {p : Program} {loose : List PySem.Str} {mean : ExcName → Option Value} {mg mb : PySem.Str → Option Value} {l : List UInt8} {t : Tok} {news : List (Addr × Obj)} (h3 : l.length ≤ 16777216) (hok : nameOk l = true) :
    Con w p loose mean mg mb 2 160 [.bytes l.toArray t] [] news (fun r news' => r = .none ∧ news' = news) := by
  unfold Con
  k_fill
  intro dp un gd cn cs ca ccd cl outer A₀ base h₀ L m s Q E B F X N T hk hdp hun hret
  refine wpAny_call ?_
  k_dflt ktr_enter
  k_with "call ref" => (k_dflt (refine' con_use (is_name_con h3) ?B ?F ?X ?N ?T ?hk ?hd ?hu ?_); (case B => k_asm); (case F => k_asm); (case X => k_asm); (case N => k_asm); (case T => k_asm); (case hk => first | exact rfl | assumption); (case hd => ktr_room); (case hu => ktr_units); rintro r9 news9 h9 tk9 F9 N9 ⟨rfl, rfl⟩; (rw [hok]); (try dsimp only); (try k_fold))
  k_steps
  exact hret _ _ _ _ (by assumption) (by assumption) ⟨rfl, rfl⟩
/-! ## an octet in bytes -/
open Builtin in
theorem has10_eq {b : Array UInt8} {t u : Tok} : «bytes.__contains__» ⟨[.bytes b t, .int 10 u], []⟩ = ret (.bool (b.contains 10)) := by kernel_rfl
open Builtin in
theorem has13_eq {b : Array UInt8} {t u : Tok} : «bytes.__contains__» ⟨[.bytes b t, .int 13 u], []⟩ = ret (.bool (b.contains 13)) := by kernel_rfl
section
variable {prog : Program} {w : World} {A : Around} {E : Value → Shared → Prop} {s : Shared} {l : List UInt8} {t u : Tok} {Q : Value → Shared → Prop}
theorem in_10 (h0 : l.contains 10 = false) (h : Q (.bool false) s) : wpAny (model prog w) A (compareOp .In (.int 10 u) (.bytes l.toArray t)) Q E s := by
  refine in_gives (r := false) (typeIs_bytes _ _ _) FB.slot_bytes_contains FB.entry_bytes_contains (FB.args_bytes_contains_2 _ _) ?_ h
  refine .of_wp fun M A E s Q hq => ?_
  rw [has10_eq, List.contains_toArray, h0]
  exact wpAny_pure ⟨_, rfl, hq⟩
theorem in_13 (h0 : l.contains 13 = false) (h : Q (.bool false) s) : wpAny (model prog w) A (compareOp .In (.int 13 u) (.bytes l.toArray t)) Q E s := by
  refine in_gives (r := false) (typeIs_bytes _ _ _) FB.slot_bytes_contains FB.entry_bytes_contains (FB.args_bytes_contains_2 _ _) ?_ h
  refine .of_wp fun M A E s Q hq => ?_
  rw [has13_eq, List.contains_toArray, h0]
  exact wpAny_pure ⟨_, rfl, hq⟩
end
/-! ## folded -/
theorem valsB_get {ps : BT} {i : Nat} {v : Value} (h : (valsB ps)[i]? = some v) : ∃ x t, ps[i]? = some (x, t) ∧ v = .bytes x.toArray t := by
  unfold valsB at h
  rw [List.getElem?_map] at h
  obtain ⟨p, h1, h2⟩ := Option.map_eq_some_iff.mp h
  exact ⟨p.1, p.2, h1, h2.symm⟩
theorem sum_take_le (xs : List (List UInt8)) (i : Nat) : ((xs.take i).map List.length).sum ≤ (xs.map List.length).sum := by
  have h : xs = xs.take i ++ xs.drop i := (List.take_append_drop i xs).symm
  have e : (xs.map List.length).sum = ((xs.take i).map List.length).sum + ((xs.drop i).map List.length).sum := by
    rw [← List.sum_append, ← List.map_append, List.take_append_drop]
  omega
theorem len_le_sum {xs : List (List UInt8)} {x : List UInt8} (h : x ∈ xs) : x.length ≤ (xs.map List.length).sum := by
  induction xs with
  | nil => cases h
  | cons y r ih =>
    rw [List.map_cons, List.sum_cons]
    rcases List.mem_cons.mp h with rfl | h
    · omega
    · have := ih h; omega
theorem sum_take_succ {xs : List (List UInt8)} {i : Nat} {x : List UInt8} (h : xs[i]? = some x) : ((xs.take (i + 1)).map List.length).sum = ((xs.take i).map List.length).sum + x.length := by
  rw [List.take_add_one, h, List.map_append, List.sum_append]
  simp
theorem piecesF_len : ∀ (k : Nat) (l : List UInt8) (a : Nat), ((piecesF k l a).map List.length).sum ≤ l.length - a ∧ (piecesF k l a).length ≤ k
  | 0, _, _ => by simp [piecesF]
  | k + 1, l, a => by
    rw [piecesF]
    split
    · rename_i h
      have hb := skp_le (p := isW) (l := l) (Nat.le_of_lt h)
      have hc := skp_le (p := fun c => !isW c) (l := l) hb.2
      have ih := piecesF_len k l (skp (fun c => !isW c) l (skp isW l a))
      simp only [List.map_cons, List.sum_cons, List.length_take, List.length_drop, List.length_cons]
      omega
    · simp
theorem zipIdx_take {α : Type} (xs : List α) (i : Nat) (x : α) (h : xs[i]? = some x) : (xs.take (i + 1)).zipIdx = (xs.take i).zipIdx ++ [(x, i)] := by
  rw [List.take_add_one, h, List.zipIdx_append]
  have hi : (xs.take i).length = i := by
    have := (List.getElem?_eq_some_iff.mp h).1
    rw [List.length_take]; omega
  simp [hi]
def foldS (wd : Int) (st : List (List UInt8) × List UInt8) (q : List UInt8 × Nat) : List (List UInt8) × List UInt8 :=
  let more := if q.2 > 0 then q.1 else 32 :: q.1
  if ((st.2.length : Int) + (more.length : Int)) > wd then (st.1 ++ [st.2], more) else (st.1, st.2 ++ more)
/-- what folded hands back -/
def foldedL (nm l : List UInt8) (wd : Int) : List UInt8 :=
  joinL [13, 10] (((piecesF ((stripW l).length + 1) (stripW l) 0).zipIdx.foldl (foldS wd) ([], nm ++ [58])).1 ++ [((piecesF ((stripW l).length + 1) (stripW l) 0).zipIdx.foldl (foldS wd) ([], nm ++ [58])).2]) ++ [13, 10]
theorem cat_b {prog : Program} {w : World} {A : Around} {E : Value → Shared → Prop} {s : Shared} {h₀ : Heap} {L a b : Addr} {m : PySem.Str → Option Value} {ps qs : BT} {n n' : Nat} {nx : List (Addr × Obj)} {Q : Value → Shared → Prop}
    (F : Fr h₀ L s.heap m) (N : News h₀ L s.heap nx) (hm : (a, listOf (valsB ps).toArray n) ∈ nx) (hb : (b, listOf (valsB qs).toArray n') ∈ nx) (hz : ps.length + qs.length ≤ 16777216)
    (h : ∀ D h', Fr h₀ L h' m → News h₀ L h' ((D, listOf (valsB (ps ++ qs)).toArray 0) :: nx) → (∀ p ∈ nx, p.1 < D) → Q (.ref D) { s with heap := h' }) :
    wpAny (model prog w) A (binaryOp .Add (.ref a) (.ref b)) Q E s := by
  refine kmk_add_lit (its := (valsB ps).toArray) (its2 := (valsB qs).toArray) (zs := valsB (ps ++ qs)) F N ⟨_, (N _ hm).1, rfl, n, rfl⟩ ⟨_, (N _ hb).1, rfl, n', rfl⟩ (by simp [valsB]) h (by simp only [valsB_length, sizeLine_eq]; exact hz)
section
variable {wd : Int} {R : List (List UInt8)} {row x : List UInt8} {i : Nat}
theorem foldS_1 (hi : (0 : Int) < (i : Int)) (hw : wd < (row.length : Int) + (x.length : Int)) : foldS wd (R, row) (x, i) = (R ++ [row], x) := by
  have h : i > 0 := by omega
  simp only [foldS, if_pos h]
  rw [if_pos (by omega)]
theorem foldS_2 (hi : (0 : Int) < (i : Int)) (hw : ¬ wd < (row.length : Int) + (x.length : Int)) : foldS wd (R, row) (x, i) = (R, row ++ x) := by
  have h : i > 0 := by omega
  simp only [foldS, if_pos h]
  rw [if_neg (by omega)]
theorem foldS_3 (hi : ¬ (0 : Int) < (i : Int)) (hw : wd < (row.length : Int) + ((32 :: x).length : Int)) : foldS wd (R, row) (x, i) = (R ++ [row], 32 :: x) := by
  have h : ¬ i > 0 := by omega
  simp only [foldS, if_neg h]
  rw [if_pos (by omega)]
theorem foldS_4 (hi : ¬ (0 : Int) < (i : Int)) (hw : ¬ wd < (row.length : Int) + ((32 :: x).length : Int)) : foldS wd (R, row) (x, i) = (R, row ++ 32 :: x) := by
  have h : ¬ i > 0 := by omega
  simp only [foldS, if_neg h]
  rw [if_neg (by omega)]
end
@[reducible] def InvF (nm : List UInt8) (l : List UInt8) (t : Tok) (u : Tok) (v : Tok) (wd : Int) (xs : List (List UInt8)) (lr : Addr) (q9 : Addr) (ps9 : BT) (n9 : Nat) (i : Nat) (mm : PySem.Str → Option Value) (nx : List (Addr × Obj)) : Prop := ∃ (rs : BT) (cnt : Nat) (row : List UInt8) (tr : Tok), nx = [(lr, listOf (valsB rs).toArray cnt), (q9, listOf (valsB ps9).toArray n9)] ∧ (∀ p ∈ [(PySem.Str.ofString "name", Value.bytes nm.toArray t), (PySem.Str.ofString "body", Value.bytes l.toArray u), (PySem.Str.ofString "width", Value.int wd v), (PySem.Str.ofString "rows", .ref lr), (PySem.Str.ofString "row", .bytes row.toArray tr)], mm p.1 = some p.2) ∧ (rs.map (·.1), row) = (xs.take i).zipIdx.foldl (foldS wd) ([], nm ++ [58]) ∧ rs.length ≤ i ∧ ((rs.map (·.1)).map List.length).sum + row.length ≤ nm.length + 2 + ((xs.take i).map List.length).sum
set_option maxHeartbeats 4000000 in
theorem folded_con {w : World} {p : Program} {loose : List PySem.Str} {mean : ExcName → Option Value} {mg mb : PySem.Str → Option Value} {nm l : List UInt8} {t u v : Tok} {wd : Int} (h1 : nm.length ≤ 1000) (h3 : l.length ≤ 1000) (hok : nameOk nm = true) (h10 : l.contains 10 = false) (h13 : l.contains 13 = false) :
    Pur w p loose mean mg mb 3 168 [.bytes nm.toArray t, .bytes l.toArray u, .int wd v] [] (fun _ => True) (fun r tl => ∃ t', r = .bytes (foldedL nm l wd).toArray t' ∧ tl = [] ∧ (foldedL nm l wd).length ≤ 200000) := by
  unfold Pur
  k_fill
  intro dp un gd cn cs ca ccd cl outer A₀ base h₀ L m news s Q E B F X N T hk hdp hun _ hret
  refine wpAny_call ?_
  k_dflt (refine' enter0 ?k1 ?k2 ?k3 ?k5 ?kA ?kF ?kK ?k6 ?k7 ?k8 ?k9 ?kB ?_ ?c2 ?c3 ?c4 ?c5; (case kA => exact rfl); (case kF => exact rfl); (case kK => assumption); (case k1 => k_asm); (case k2 => k_asm); (case k3 => k_asm); (case k5 => k_asm); (case k6 => k_is); (case k7 => k_is); (case k8 => ktr_room); (case k9 => first | exact BindsTo.of_eq rfl | exact binds_K (by k_in) rfl (by k_is) rfl rfl rfl); (case c5 => decide); (case kB => exact locs rfl); (case c2 => exact rfl); (case c3 => exact rfl); (case c4 => exact rfl); k_whole; intro L' h' F' N' B' X' T'; (try dsimp only); (try k_fold))
  have hsl := length_stripW l
  k_with_none
  k_with "call ref" => (k_dflt (refine' con_use (check_name_con (by omega) hok) ?B ?F ?X ?N ?T ?hk ?hd ?hu ?_); (case B => k_asm); (case F => k_asm); (case X => k_asm); (case N => k_asm); (case T => k_asm); (case hk => first | exact rfl | assumption); (case hd => ktr_room); (case hu => ktr_units); rintro r9 news9 h9 tk9 F9 N9 ⟨rfl, rfl⟩; (try dsimp only); (try k_fold))
  k_with "call ref" => (k_dflt (refine' con_use (pieces_of_con (by omega)) ?B ?F ?X ?N ?T ?hk ?hd ?hu ?_); (case B => k_asm); (case F => k_asm); (case X => k_asm); (case N => k_asm); (case T => k_asm); (case hk => first | exact rfl | assumption); (case hd => ktr_room); (case hu => ktr_units); rintro r9 news9 h9 tk9 F9 N9 ⟨q9, ps9, n9, rfl, rfl, l9, e9⟩; (try dsimp only); (try k_fold))
  k_with "compareOp In int bytes" => (first | refine in_10 h10 ?_ | refine in_13 h13 ?_)
  k_with "exec For Tuple Call cons nil" => (k_here; (rename Fr _ _ _ _ => lF'); (with_unfolding_all refine' For_turns lF' ?_; k_whole))
  k_steps
  rename Fr _ _ _ _ => F9
  rename News _ _ _ _ => N9
  rename (List.map _ _ = piecesF _ _ _) => e9
  rename (∀ p : Addr × Obj, p ∈ _ → p.1 < _) => l9
  obtain ⟨q9, hq9⟩ := named N9
  subst hq9
  obtain ⟨lr, hlr⟩ := named (news_cb N9)
  subst hlr
  rename BT => ps9
  have hq : lr < q9 := l9 _ (.head _)
  clear l9
  have N := news_sub N9 (l' := [_, _]) (fun p hp => by rcases List.mem_cons.mp hp with rfl | hp; exact .tail _ (.head _); rcases List.mem_singleton.mp hp with rfl; exact .head _)
  clear N9
  generalize hxs : piecesF ((stripW l).length + 1) (stripW l) 0 = xs at e9
  refine ktu_enum (vs := valsB ps9) rfl F9 N (.tail _ (.head _)) rfl rfl rfl ?_
  clear N F9
  intro I l1
  refine items_ind (fun i mm nx => Hold (InvF nm l t u v wd xs lr q9 ps9 n9 i mm nx)) ⟨[], 0, nm ++ [58], _, rfl, by kst_all, rfl, by simp, by simp⟩ ?_ ?_
  · intro i v' mm nx T₁ t₁ h₁ tk₁ hv hInv hT F₁
    obtain ⟨rs, cnt, row, tr, rfl, hm, hst, hrl, hrow⟩ := hInv
    obtain ⟨x, tx, hx, rfl⟩ := valsB_get hv
    replace F₁ := fr_kst _ F₁ hm
    dsimp only [kstB] at F₁
    clear hm
    refine AllObj.cons fun o1 hc1 => AllObj.cons fun o2 hc2 => AllObj.nil fun N₁ => ?_
    dsimp only at hc1 hc2
    simp only [List.cons_append, List.nil_append] at N₁
    have hxs9 : xs[i]? = some x := by rw [← e9, List.getElem?_map, hx]; rfl
    have hsum := piecesF_len ((stripW l).length + 1) (stripW l) 0
    rw [hxs] at hsum
    have hxl : x.length ≤ 1000 := by have := len_le_sum (List.mem_of_getElem? hxs9); omega
    have hrl9 : row.length ≤ 3000 := by have := sum_take_le xs i; omega
    have hrs9 : rs.length ≤ 3000 := by have := (List.getElem?_eq_some_iff.mp hxs9).1; omega
    have hI1 := ltN (l1 _ (.head _))
    have hI2 := ltN (l1 _ (.tail _ (.head _)))
    dsimp only at hI1 hI2
    have hq' := ltN hq
    clear l1
    k_with "call builtin:list.append" => ((rename Fr _ _ _ _ => F'); (rename News _ _ _ _ => N'); (refine append_b (ps := rs) (n := cnt) F' N' (rest := [(I + 1, o1), (I, o2), (q9, listOf (valsB ps9).toArray n9)]) (fun p hp => by simp only [List.mem_cons, List.not_mem_nil, or_false] at hp ⊢; rcases hp with h | h | h | h <;> simp [h]) (fun p hp => by simp only [List.mem_cons, List.not_mem_nil, or_false] at hp; rcases hp with rfl | rfl | rfl <;> (refine neN ?_; dsimp only; omega)) (by omega) ?_); clear F' N'; intro h8 n8 F8 N8; (try dsimp only))
    k_steps
    all_goals (try dsimp only at *)
    all_goals (try unfold Hold)
    all_goals (try unfold Hold)
    all_goals
      have hz9 := zipIdx_take xs i x hxs9
      have hy9 := sum_take_succ hxs9
    · refine ⟨rs ++ [(row, tr)], _, x, _, rfl, by kst_all, ?_, by simp; omega, by simp only [List.map_append, List.sum_append, List.map_cons, List.map_nil, List.sum_cons, List.sum_nil]; omega⟩
      rw [hz9, List.foldl_append, ← hst, List.map_append]
      exact (foldS_1 (by assumption) (by assumption)).symm
    · refine ⟨rs, _, row ++ x, _, rfl, by kst_all, ?_, by omega, by rw [List.length_append]; omega⟩
      rw [hz9, List.foldl_append, ← hst]
      exact (foldS_2 (by assumption) (by assumption)).symm
    all_goals
      have hi0 : i = 0 := by omega
      subst hi0
      have e0 : row = nm ++ [58] := by
        have := congrArg Prod.snd hst
        simpa using this
      have er : rs = [] := List.eq_nil_of_length_eq_zero (by omega)
    · refine ⟨rs ++ [(row, tr)], _, 32 :: x, _, rfl, by kst_all, ?_, by simp; omega, ?_⟩
      · rw [hz9, List.foldl_append, ← hst, List.map_append]
        exact (foldS_3 (by assumption) (by assumption)).symm
      · rw [hy9, er, e0]
        simp only [List.nil_append, List.map_cons, List.map_nil, List.sum_cons, List.sum_nil, List.length_append, List.length_cons, List.length_nil, List.take_zero]
        omega
    · refine ⟨rs, _, row ++ 32 :: x, _, rfl, by kst_all, ?_, by omega, ?_⟩
      · rw [hz9, List.foldl_append, ← hst]
        exact (foldS_4 (by assumption) (by assumption)).symm
      · rw [hy9, er, e0]
        simp only [List.map_nil, List.sum_nil, List.length_append, List.length_cons, List.length_nil, List.take_zero]
        omega
  · rintro mm nx h₁ tk₁ ⟨rs, cnt, row, tr, rfl, hm, hst, hrl, hrow⟩ F₁ N₁
    replace F₁ := fr_kst _ F₁ hm
    dsimp only [kstB] at F₁
    clear hm l1
    dsimp only
    have hsum := piecesF_len ((stripW l).length + 1) (stripW l) 0
    rw [hxs] at hsum
    have hlen : (valsB ps9).length = xs.length := by rw [valsB_length, ← e9, List.length_map]
    rw [hlen, List.take_length] at hst hrow
    rw [hlen] at hrl
    have hR1 : rs.map (·.1) = (xs.zipIdx.foldl (foldS wd) ([], nm ++ [58])).1 := by rw [← hst]
    have hR2 : row = (xs.zipIdx.foldl (foldS wd) ([], nm ++ [58])).2 := by rw [← hst]
    have hjoin : (joinL [13, 10] ((rs ++ [(row, tr)]).map (·.1))).length ≤ 100000 := by
      rw [len_join]
      simp only [List.map_append, List.sum_append, List.map_cons, List.map_nil, List.sum_cons, List.sum_nil, List.length_append, List.length_map, List.length_cons, List.length_nil]
      omega
    k_with "binaryOp Add ref ref" => ((rename Fr _ _ _ _ => F'); (rename News _ _ _ _ => N'); (refine cat_b (ps := rs) (qs := [(row, tr)]) F' N' (.tail _ (.head _)) (.head _) (by simp only [List.length_cons, List.length_nil]; omega) ?_); clear F' N'; intro D8 h8 F8 N8 l8)
    k_with "call builtin:bytes.join" => (refine call_join (by assumption) (.head _) rfl (by omega) ?_; intro _ _)
    k_steps
    all_goals (try dsimp only at *)
    have hE := pur_end (tl := []) N (by assumption) News.nil News.nil
    have hfin : joinL [13, 10] ((rs ++ [(row, tr)]).map (·.1)) ++ [13, 10] = foldedL nm l wd := by
      rw [foldedL, hxs, ← hst, List.map_append]
      rfl
    refine hret _ [] _ _ (by assumption) hE.1 hE.2.1 hE.2.2 ⟨_, by rw [← hfin], rfl, by rw [← hfin, List.length_append]; simp only [List.length_cons, List.length_nil]; omega⟩
end
section
open PySem PySem.W PyProof.Rows PyProof.V PySem.Spec PySem.Calls
set_option maxRecDepth 100000
/-! ## a Field -/
/-- a Field's dict -/
abbrev fldD (P : Params) (t1 t2 : Tok) (v1 v2 : Value) : Obj :=
  dictOf [⟨PyData.keyHash P (PySem.Str.ofString "name"), .str (PySem.Str.ofString "name") t1, v1⟩, ⟨PyData.keyHash P (PySem.Str.ofString "raw"), .str (PySem.Str.ofString "raw") t2, v2⟩] 2
theorem field_con {w : World} {p : Program} {loose : List PySem.Str} {mean : ExcName → Option Value} {mg mb : PySem.Str → Option Value} {nm l : List UInt8} {t u : Tok} {news : List (Addr × Obj)} :
    Con w p loose mean mg mb 2 93 [.bytes nm.toArray t, .bytes l.toArray u] [] news (fun r news' => ∃ x dx t1 t2, r = .ref x ∧ news' = (x, instObj 93 dx) :: (dx, fldD w.params t1 t2 (.bytes nm.toArray t) (.bytes l.toArray u)) :: news ∧ dx < x ∧ ∀ p ∈ news, p.1 < dx) := by
  unfold Con
  k_fill
  intro dp un gd cn cs ca ccd cl outer A₀ base h₀ L m s Q E B F X N T hk hdp hun hret
  k_dflt (refine call_cls F X N (by k_is) (by k_is) (by k_is) ?_)
  intro x dx h₁ F₁ N₁ l1 l2
  have hoff : OwnOff news [x, dx] := by
    intro p hp b hb
    rcases List.mem_cons.mp hb with rfl | hb
    · exact Nat.ne_of_lt (Nat.lt_trans (l1 p hp) l2)
    · rcases List.mem_singleton.mp hb with rfl
      exact Nat.ne_of_lt (l1 p hp)
  have l3 := l1
  replace l2 := ltN l2
  k_dflt ktr_enter
  k_steps
  all_goals (try dsimp only at *)
  exact hret _ _ _ _ (by assumption) (by assumption) ⟨x, dx, _, _, rfl, rfl, l2, l3⟩
/-! ## made_field -/
def rawF (nm l : List UInt8) (wd : Int) : List UInt8 := ((foldedL nm l wd).drop (nm.length + 1)).take ((foldedL nm l wd).length - 2 - (nm.length + 1))
theorem made_field_con {w : World} {p : Program} {loose : List PySem.Str} {mean : ExcName → Option Value} {mg mb : PySem.Str → Option Value} {nm l : List UInt8} {t u v : Tok} {wd : Int} (h1 : nm.length ≤ 1000) (h3 : l.length ≤ 1000) (hok : nameOk nm = true) (h10 : l.contains 10 = false) (h13 : l.contains 13 = false) :
    Pur w p loose mean mg mb 4 176 [.bytes nm.toArray t, .bytes l.toArray u, .int wd v] [] (fun _ => True) (fun r tl => ∃ x dx t1 t2 t3, r = .ref x ∧ tl = [(x, instObj 93 dx), (dx, fldD w.params t1 t2 (.bytes nm.toArray t) (.bytes (rawF nm l wd).toArray t3))] ∧ dx < x ∧ (foldedL nm l wd).length ≤ 200000) := by
  unfold Pur
  k_fill
  intro dp un gd cn cs ca ccd cl outer A₀ base h₀ L m news s Q E B F X N T hk hdp hun _ hret
  refine wpAny_call ?_
  k_dflt (refine' enter0 ?k1 ?k2 ?k3 ?k5 ?kA ?kF ?kK ?k6 ?k7 ?k8 ?k9 ?kB ?_ ?c2 ?c3 ?c4 ?c5; (case kA => exact rfl); (case kF => exact rfl); (case kK => assumption); (case k1 => k_asm); (case k2 => k_asm); (case k3 => k_asm); (case k5 => k_asm); (case k6 => k_is); (case k7 => k_is); (case k8 => ktr_room); (case k9 => first | exact BindsTo.of_eq rfl | exact binds_K (by k_in) rfl (by k_is) rfl rfl rfl); (case c5 => decide); (case kB => exact locs rfl); (case c2 => exact rfl); (case c3 => exact rfl); (case c4 => exact rfl); k_whole; intro L' h' F' N' B' X' T'; (try dsimp only); (try k_fold))
  k_with_none
  k_with "call ref" => (k_dflt (refine' pur_use (folded_con h1 h3 hok h10 h13) ?B ?F ?X ?N ?T ?hk ?hd ?hu ?hp ?_); (case B => k_asm); (case F => k_asm); (case X => k_asm); (case N => k_asm); (case T => k_asm); (case hk => first | exact rfl | assumption); (case hd => ktr_room); (case hu => ktr_units); (case hp => trivial); rintro r9 tl9 h9 tk9 F9 N9 - - ⟨t9, rfl, rfl, z9⟩; (try simp only [List.nil_append, List.cons_append] at N9); (try dsimp only); (try k_fold))
  k_with "call ref" => (k_dflt (refine' con_use field_con ?B ?F ?X ?N ?T ?hk ?hd ?hu ?_); (case B => k_asm); (case F => k_asm); (case X => k_asm); (case N => k_asm); (case T => k_asm); (case hk => first | exact rfl | assumption); (case hd => ktr_room); (case hu => ktr_units); rintro r9 news9 h9 tk9 F9 N9 ⟨x9, dx9, t9, u9, rfl, rfl, l9, -⟩; (try dsimp only); (try k_fold))
  k_steps
  all_goals (try dsimp only at *)
  have hE := pur_end N (by assumption) (by assumption) (by assumption)
  have h2 : 2 ≤ (foldedL nm l wd).length := by rw [foldedL, List.length_append]; simp only [List.length_cons, List.length_nil]; omega
  refine hret _ _ _ _ (by assumption) hE.1 hE.2.1 hE.2.2 ⟨_, _, _, _, _, rfl, by rw [cutL_nn (nm.length + 1) ((foldedL nm l wd).length - 2) (by omega) (by omega) (by omega)]; rfl, by assumption, by assumption⟩
end
section
open PySem PySem.W PyProof.Rows PyProof.V PySem.Spec PySem.Calls
set_option maxRecDepth 100000
/-! ## read_spans -/
def contF : Nat → List UInt8 → Nat → Nat → Nat × Nat
  | 0, _, a, b => (a, b)
  | n + 1, l, a, b => if b < l.length ∧ isW (l.getD b 0) = true then contF n l (lnEnd l b l.length).1 (lnEnd l b l.length).2 else (a, b)
def spansF : Nat → List UInt8 → Nat → List (List UInt8 × List UInt8) × Nat
  | 0, l, _ => ([], l.length)
  | n + 1, l, h =>
    if h < l.length then
      if (lnEnd l h l.length).1 = h then ([], (lnEnd l h l.length).2)
      else if colI l h (lnEnd l h l.length).1 < 0 then ([], h)
      else
        (((l.drop h).take ((colI l h (lnEnd l h l.length).1).toNat - h), (l.drop ((colI l h (lnEnd l h l.length).1).toNat + 1)).take ((contF (l.length + 1) l (lnEnd l h l.length).1 (lnEnd l h l.length).2).1 - ((colI l h (lnEnd l h l.length).1).toNat + 1))) ::
          (spansF n l (contF (l.length + 1) l (lnEnd l h l.length).1 (lnEnd l h l.length).2).2).1, (spansF n l (contF (l.length + 1) l (lnEnd l h l.length).1 (lnEnd l h l.length).2).2).2)
    else ([], l.length)
set_option genSizeOf false in
set_option genInjectivity false in
/-- a row that read_spans makes: the tuple's, the Field's and its dict's places -/
structure RowR where
  q : Addr
  x : Addr
  dx : Addr
  nm : List UInt8
  raw : List UInt8
  t1 : Tok
  t2 : Tok
  t3 : Tok
  t4 : Tok
  i1 : Int
  i2 : Int
  t5 : Tok
  t6 : Tok
abbrev RowR.led (P : Params) (r : RowR) : List (Addr × Obj) :=
  [(r.q, { cls := .type "tuple", data := .seq #[.ref r.x, .int r.i1 r.t5, .int r.i2 r.t6] 0 }), (r.x, instObj 93 r.dx), (r.dx, fldD P r.t1 r.t2 (.bytes r.nm.toArray r.t3) (.bytes r.raw.toArray r.t4))]
def ledR (P : Params) (rs : List RowR) : List (Addr × Obj) := rs.flatMap (RowR.led P)
def refsR (rs : List RowR) : List Value := rs.map fun r => .ref r.q
theorem append_v {prog : Program} {w : World} {A : Around} {E : Value → Shared → Prop} {s : Shared} {h₀ : Heap} {L D : Addr} {m : PySem.Str → Option Value} {vs : List Value} {n : Nat} {v : Value} {rest nx : List (Addr × Obj)} {Q : Value → Shared → Prop}
    (F : Fr h₀ L s.heap m) (N : News h₀ L s.heap nx) (hm : (D, listOf vs.toArray n) ∈ nx) (hr : ∀ p ∈ rest, p ∈ nx) (hne : ∀ p ∈ rest, p.1 ≠ D) (hz : vs.length ≤ 16777216)
    (h : ∀ h' n', Fr h₀ L h' m → News h₀ L h' ((D, listOf (vs ++ [v]).toArray n') :: rest) → Q .none { s with heap := h' }) :
    wpAny (model prog w) A (call (.builtin "list.append") [.ref D, v]) Q E s := by
  refine append_K (its := vs.toArray) F (news_sub (l' := (D, listOf vs.toArray n) :: rest) N (fun p hp => by rcases List.mem_cons.mp hp with rfl | hp; exact hm; exact hr p hp)) (.head hne) (fun h' F' N' => ?_) (by rw [List.size_toArray, sizeLine_eq]; exact hz)
  refine h h' (n + 1) F' ?_
  have e : (vs ++ [v]).toArray = vs.toArray.push v := by simp
  rw [e]
  exact N'
theorem colI_or {l : List UInt8} {a e : Nat} : colI l a e = -1 ∨ ∃ c : Nat, colI l a e = (c : Int) ∧ a ≤ c ∧ c < e := by
  unfold colI
  cases h : fnd l 58 a e with
  | none => exact .inl rfl
  | some i =>
    have h2 := fnd_some h
    simp only
    split
    · exact .inr ⟨i, rfl, h2.1, h2.2.1⟩
    · exact .inl rfl
theorem spansF_blank {l : List UInt8} {k h : Nat} (h0 : h < l.length) (h1 : (lnEnd l h l.length).1 = h) : spansF (k + 1) l h = ([], (lnEnd l h l.length).2) := by
  rw [spansF, if_pos h0, if_pos h1]
theorem spansF_none {l : List UInt8} {k h : Nat} (h0 : h < l.length) (h1 : (lnEnd l h l.length).1 ≠ h) (hc : colI l h (lnEnd l h l.length).1 = -1) : spansF (k + 1) l h = ([], h) := by
  rw [spansF, if_pos h0, if_neg h1, if_pos (by omega)]
theorem spansF_some {l : List UInt8} {k h c : Nat} {q : Nat × Nat} (h0 : h < l.length) (h1 : (lnEnd l h l.length).1 ≠ h) (hc : colI l h (lnEnd l h l.length).1 = (c : Int)) (hq : contF (l.length + 1) l (lnEnd l h l.length).1 (lnEnd l h l.length).2 = q) :
    spansF (k + 1) l h = (((l.drop h).take (c - h), (l.drop (c + 1)).take (q.1 - (c + 1))) :: (spansF k l q.2).1, (spansF k l q.2).2) := by
  rw [spansF, if_pos h0, if_neg h1, if_neg (by omega), hc, hq, Int.toNat_natCast]
theorem spansF_end {l : List UInt8} {k h : Nat} (h0 : ¬ h < l.length) : spansF (k + 1) l h = ([], l.length) := by
  rw [spansF, if_neg h0]
theorem contF_step {l : List UInt8} {j a b : Nat} (h0 : b < l.length) (h1 : isW (l.getD b 0) = true) : contF (j + 1) l a b = contF j l (lnEnd l b l.length).1 (lnEnd l b l.length).2 := by
  rw [contF, if_pos ⟨h0, h1⟩]
theorem contF_stop {l : List UInt8} {j a b : Nat} (h : b < l.length → isW (l.getD b 0) = false) : contF j l a b = (a, b) := by
  cases j with
  | zero => rfl
  | succ j =>
    rw [contF, if_neg]
    rintro ⟨h0, h1⟩
    rw [h h0] at h1
    cases h1
theorem append_4 {prog : Program} {w : World} {A : Around} {E : Value → Shared → Prop} {s : Shared} {h₀ : Heap} {L D : Addr} {m : PySem.Str → Option Value} {vs : List Value} {n : Nat} {v : Value} {a b c : Addr × Obj} {R : List (Addr × Obj)} {Q : Value → Shared → Prop}
    (F : Fr h₀ L s.heap m) (N : News h₀ L s.heap (a :: b :: c :: (D, listOf vs.toArray n) :: R)) (ha : a.1 ≠ D) (hb : b.1 ≠ D) (hc : c.1 ≠ D) (hne : ∀ p ∈ R, p.1 ≠ D) (hz : vs.length ≤ 16777216)
    (h : ∀ h' n', Fr h₀ L h' m → News h₀ L h' ((D, listOf (vs ++ [v]).toArray n') :: a :: b :: c :: R) → Q .none { s with heap := h' }) :
    wpAny (model prog w) A (call (.builtin "list.append") [.ref D, v]) Q E s :=
  append_v (rest := a :: b :: c :: R) F N (.tail _ (.tail _ (.tail _ (.head _)))) (fun p hp => picks [a, b, c, (D, listOf vs.toArray n)] R [0, 1, 2] p hp) (List.forall_mem_cons.mpr ⟨ha, List.forall_mem_cons.mpr ⟨hb, List.forall_mem_cons.mpr ⟨hc, hne⟩⟩⟩) hz h
theorem row_pack {P : Params} {h₀ h : Heap} {L D : Addr} {n : Nat} {rs : List RowR} {q x dx : Addr} {nm raw : List UInt8} {t1 t2 t3 t4 t5 t6 : Tok} {i1 i2 : Int}
    (N : News h₀ L h ((D, listOf (refsR rs ++ [Value.ref q]).toArray n) :: (q, { cls := .type "tuple", data := .seq #[Value.ref x, .int i1 t5, .int i2 t6] 0 }) :: (x, instObj 93 dx) :: (dx, fldD P t1 t2 (.bytes nm.toArray t3) (.bytes raw.toArray t4)) :: ledR P rs)) :
    ∃ r : RowR, r.nm = nm ∧ r.raw = raw ∧ (∀ p ∈ r.led P, p.1 = q ∨ p.1 = x ∨ p.1 = dx) ∧ News h₀ L h ((D, listOf (refsR (rs ++ [r])).toArray n) :: ledR P (rs ++ [r])) := by
  refine ⟨⟨q, x, dx, nm, raw, t1, t2, t3, t4, i1, i2, t5, t6⟩, rfl, rfl, fun p hp => ?_, fun p hp => N p ?_⟩
  · simp only [RowR.led, List.mem_cons, List.not_mem_nil, or_false] at hp
    rcases hp with rfl | rfl | rfl
    · exact .inl rfl
    · exact .inr (.inl rfl)
    · exact .inr (.inr rfl)
  · rcases List.mem_cons.mp hp with rfl | hp
    · have e : refsR (rs ++ [(⟨q, x, dx, nm, raw, t1, t2, t3, t4, i1, i2, t5, t6⟩ : RowR)]) = refsR rs ++ [Value.ref q] := by simp [refsR]
      rw [e]
      exact .head _
    · have e : ledR P (rs ++ [(⟨q, x, dx, nm, raw, t1, t2, t3, t4, i1, i2, t5, t6⟩ : RowR)]) = ledR P rs ++ RowR.led P ⟨q, x, dx, nm, raw, t1, t2, t3, t4, i1, i2, t5, t6⟩ := by simp [ledR]
      rw [e, List.mem_append] at hp
      rcases hp with hp | hp
      · exact .tail _ (.tail _ (.tail _ (.tail _ hp)))
      · simp only [RowR.led, List.mem_cons, List.not_mem_nil, or_false] at hp
        rcases hp with rfl | rfl | rfl
        · exact .tail _ (.head _)
        · exact .tail _ (.tail _ (.head _))
        · exact .tail _ (.tail _ (.tail _ (.head _)))
theorem drop2 {p q : Addr × Obj} {r : List (Addr × Obj)} : ∀ x ∈ p :: r, x ∈ p :: q :: r := picks [p, q] r [0]
@[reducible] def InvA (P : Params) (l : List UInt8) (lr : Addr) (t : Tok) (n : Nat) (mm : PySem.Str → Option Value) (nx : List (Addr × Obj)) : Prop := ∃ (here : Nat) (th ts : Tok) (rs : List RowR) (cnt k : Nat), n = l.length - here ∧ here ≤ l.length ∧ rs.length ≤ here ∧ nx = (lr, listOf (refsR rs).toArray cnt) :: ledR P rs ∧ (∀ p ∈ ledR P rs, p.1 ≠ lr) ∧
    (∀ p ∈ [(PySem.Str.ofString "data", Value.bytes l.toArray t), (PySem.Str.ofString "stop", .int (l.length : Nat) ts), (PySem.Str.ofString "rows", .ref lr), (PySem.Str.ofString "here", .int here th)], mm p.1 = some p.2) ∧ l.length - here < k ∧
    rs.map (fun r => (r.nm, r.raw)) ++ (spansF k l here).1 = (spansF (l.length + 1) l 0).1 ∧ (spansF k l here).2 = (spansF (l.length + 1) l 0).2
@[reducible] def InvB (P : Params) (l : List UInt8) (lr : Addr) (t : Tok) (here : Nat) (th ts : Tok) (rs : List RowR) (cnt c9 : Nat) (t9 : Tok) (n : Nat) (mm : PySem.Str → Option Value) (nx : List (Addr × Obj)) : Prop := ∃ (last later : Nat) (ta tl : Tok) (j : Nat), n = l.length - later ∧ last ≤ l.length ∧ later ≤ l.length ∧ here < later ∧ nx = (lr, listOf (refsR rs).toArray cnt) :: ledR P rs ∧
    (∀ p ∈ [(PySem.Str.ofString "data", Value.bytes l.toArray t), (PySem.Str.ofString "stop", .int (l.length : Nat) ts), (PySem.Str.ofString "rows", .ref lr), (PySem.Str.ofString "here", .int here th), (PySem.Str.ofString "colon", .int (c9 : Nat) t9), (PySem.Str.ofString "last", .int last ta), (PySem.Str.ofString "later", .int later tl)], mm p.1 = some p.2) ∧
    l.length - later < j ∧ contF j l last later = contF (l.length + 1) l (lnEnd l here l.length).1 (lnEnd l here l.length).2
set_option maxHeartbeats 4000000 in
theorem read_spans_con {w : World} {p : Program} {loose : List PySem.Str} {mean : ExcName → Option Value} {mg mb : PySem.Str → Option Value} {l : List UInt8} {t u v : Tok} (h3 : l.length ≤ 100000) :
    Pur w p loose mean mg mb 3 126 [.bytes l.toArray t, .int 0 u, .int (-1) v] [] (fun _ => True) (fun r tl => ∃ (tq lr : Addr) (cnt : Nat) (rs : List RowR) (tb : Tok), r = .ref tq ∧ tl = (tq, tup2 (.ref lr) (.int ((spansF (l.length + 1) l 0).2 : Nat) tb)) :: (lr, listOf (refsR rs).toArray cnt) :: ledR w.params rs ∧
      rs.map (fun r => (r.nm, r.raw)) = (spansF (l.length + 1) l 0).1) := by
  unfold Pur
  k_fill
  intro dp un gd cn cs ca ccd cl outer A₀ base h₀ L m news s Q E B F X N T hk hdp hun _ hret
  refine wpAny_call ?_
  k_dflt (refine' enter0 ?k1 ?k2 ?k3 ?k5 ?kA ?kF ?kK ?k6 ?k7 ?k8 ?k9 ?kB ?_ ?c2 ?c3 ?c4 ?c5; (case kA => exact rfl); (case kF => exact rfl); (case kK => assumption); (case k1 => k_asm); (case k2 => k_asm); (case k3 => k_asm); (case k5 => k_asm); (case k6 => k_is); (case k7 => k_is); (case k8 => ktr_room); (case k9 => first | exact BindsTo.of_eq rfl | exact binds_K (by k_in) rfl (by k_is) rfl rfl rfl); (case c5 => decide); (case kB => exact locs rfl); (case c2 => exact rfl); (case c3 => exact rfl); (case c4 => exact rfl); k_whole; intro L' h' F' N' B' X' T'; (try dsimp only); (try k_fold))
  rename Fr _ _ _ _ => Fo
  obtain ⟨m0, F0⟩ := fr_gen [(PySem.Str.ofString "data", _), (PySem.Str.ofString "at", _), (PySem.Str.ofString "end", _)] Fo (List.forall_mem_cons.mpr ⟨rfl, List.forall_mem_cons.mpr ⟨rfl, List.forall_mem_cons.mpr ⟨rfl, List.forall_mem_nil _⟩⟩⟩)
  clear Fo
  dsimp only [kstB] at F0
  refine any_tok fun tk0 => ?_
  k_with_none
  k_with "exec While Compare cons nil" => (refine hold_of ?_)
  k_with "exec While BoolOp cons nil" => (refine hold_of ?_)
  k_with "call ref" => (k_dflt (refine' con_use field_con ?B ?F ?X ?N ?T ?hk ?hd ?hu ?_); (case B => k_asm); (case F => k_asm); (case X => k_asm); (case N => k_asm); (case T => k_asm); (case hk => first | exact rfl | assumption); (case hd => ktr_room); (case hu => ktr_units); rintro r9 news9 h9 tk9 F9 N9 ⟨x9, dx9, t9, u9, rfl, rfl, l9, m9⟩; (have m8 := ltN (m9 _ (.head _))); (replace l9 := ltN l9); (try dsimp only at m8); (try dsimp only); (try k_fold))
  k_with "call ref" => (k_dflt (refine' con_use (colon_in_con (by omega) (by omega) (by omega)) ?B ?F ?X ?N ?T ?hk ?hd ?hu ?_); (case B => k_asm); (case F => k_asm); (case X => k_asm); (case N => k_asm); (case T => k_asm); (case hk => first | exact rfl | assumption); (case hd => ktr_room); (case hu => ktr_units); rintro r9 news9 h9 tk9 F9 N9 ⟨t9, rfl, rfl⟩; (rcases colI_or with hc9 | ⟨c9, hc9, hlo9, hhi9⟩ <;> rw [hc9]); (all_goals (try dsimp only)); (all_goals (try k_fold)))
  k_with "call ref" => (k_dflt (refine' con_use (line_at_con (by omega) (by omega) (by omega)) ?B ?F ?X ?N ?T ?hk ?hd ?hu ?_); (case B => k_asm); (case F => k_asm); (case X => k_asm); (case N => k_asm); (case T => k_asm); (case hk => first | exact rfl | assumption); (case hd => ktr_room); (case hu => ktr_units); rintro r9 news9 h9 tk9 F9 N9 ⟨q9, t9, u9, rfl, rfl, l9⟩; (try dsimp only); (try k_fold))
  k_steps
  unfold Hold
  rename Fr _ _ _ _ => F'
  rename News _ _ _ [_] => N'
  obtain ⟨lr, hlr⟩ := named N'
  subst hlr
  refine While_inv2 (InvA w.params l lr t) F' N' ⟨0, _, _, [], 0, l.length + 1, rfl, by omega, by simp, rfl, (fun p hp => nomatch hp), by kst_all, by omega, rfl, rfl⟩ ?_ (by first | passes_own | with_unfolding_all passes_own)
  clear F' N'
  rintro n mm nx h₁ tk₁ F₁ N₁ ⟨here, th, ts, rs, cnt, k, rfl, ha, hrl, rfl, hne, hm, hk9, hr1, hr2⟩
  replace F₁ := fr_kst _ F₁ hm
  dsimp only [kstB] at F₁
  clear hm
  obtain ⟨k, rfl⟩ : ∃ k', k = k' + 1 := ⟨k - 1, by omega⟩
  have hle := lnEnd_le (l := l) (e := l.length) ha
  k_steps
  all_goals (try unfold Hold)
  all_goals (try dsimp only at *)
  · have hb := spansF_blank (k := k) (l := l) (h := here) (by omega) (by omega)
    rw [hb] at hr1 hr2
    dsimp only at hr1 hr2
    dsimp only [WhileStep2]
    k_steps
    all_goals (try dsimp only at *)
    rename Fr s.heap _ _ _ => nF
    rename News s.heap _ _ _ => nN
    rename News h₀ _ _ _ => kN
    have hE := pur_end N nF (news_sub nN drop2) (news_sub kN drop2)
    exact hret _ _ _ _ (by assumption) hE.1 hE.2.1 hE.2.2 ⟨_, lr, cnt, rs, _, rfl, by rw [← hr2], by rw [← hr1, List.append_nil]⟩
  · have hb := spansF_none (k := k) (l := l) (h := here) (by omega) (by omega) (by assumption)
    rw [hb] at hr1 hr2
    dsimp only at hr1 hr2
    dsimp only [WhileStep2]
    k_steps
    all_goals (try dsimp only at *)
    rename Fr s.heap _ _ _ => nF
    rename News s.heap _ _ _ => nN
    rename News h₀ _ _ _ => kN
    have hE := pur_end N nF (news_sub nN drop2) (news_sub kN drop2)
    exact hret _ _ _ _ (by assumption) hE.1 hE.2.1 hE.2.2 ⟨_, lr, cnt, rs, _, rfl, by rw [← hr2], by rw [← hr1, List.append_nil]⟩
  rotate_left
  · have hb := spansF_end (k := k) (l := l) (h := here) (by omega)
    rw [hb] at hr1 hr2
    dsimp only at hr1 hr2
    rename Fr s.heap _ _ _ => nF
    rename News s.heap _ _ _ => nN
    rename News h₀ _ _ _ => kN
    have hE := pur_end N nF nN kN
    exact hret _ _ _ _ (by assumption) hE.1 hE.2.1 hE.2.2 ⟨_, lr, cnt, rs, _, rfl, by rw [← hr2], by rw [← hr1, List.append_nil]⟩
  rename Fr _ _ _ _ => F'
  rename News _ _ _ _ => N'
  have hls : here < l.length := by omega
  have hlh : (lnEnd l here l.length).1 ≠ here := by omega
  refine While_inv2 (InvB w.params l lr t here th ts rs cnt c9 t9) F' (news_cb N') ⟨_, _, _, _, l.length + 1, rfl, by omega, by omega, by omega, rfl, by kst_all, by omega, rfl⟩ ?_ (by first | passes_own | with_unfolding_all passes_own)
  clear F' N'
  rintro n mm nx h₁ tk₁ F₁ N₁ ⟨last, later, ta, tl, j, rfl, hla, hlb, hlc, rfl, hm, hj, hco⟩
  replace F₁ := fr_kst _ F₁ hm
  dsimp only [kstB] at F₁
  clear hm
  obtain ⟨j, rfl⟩ : ∃ j', j = j' + 1 := ⟨j - 1, by omega⟩
  have hle2 := lnEnd_le (l := l) (e := l.length) hlb
  k_steps
  all_goals (try unfold Hold)
  all_goals (try dsimp only at *)
  · rename Fr _ _ _ _ => F'
    rename News _ _ _ _ => N'
    refine ⟨_, _, _, _, l.length - (lnEnd l later l.length).2, rfl, F', news_cb N', by omega, (lnEnd l later l.length).1, (lnEnd l later l.length).2, _, _, j, rfl, by omega, by omega, by omega, rfl, by kst_all, by omega, ?_⟩
    rw [← hco]
    exact (contF_step (by omega) (by assumption)).symm
  all_goals
    have hst : contF (j + 1) l last later = (last, later) := contF_stop (fun h => by first | assumption | (exfalso; omega))
    rename Fr _ _ _ _ => F'
    rename News _ _ _ _ => N'
    refine append_4 F' N' ?_ ?_ ?_ hne ?_ ?_
    · refine neN ?_; omega
    · refine neN ?_; omega
    · refine neN ?_; omega
    · simp only [refsR, List.length_map]; omega
    clear F' N'
    intro h8 n8 F8 N8
    (try dsimp only)
    k_steps
    rename Fr _ _ _ _ => F'
    rename News _ _ _ _ => N'
    obtain ⟨r, hn9, hw9, hp9, N8⟩ := row_pack N'
    have hsp := spansF_some (k := k) hls hlh (by assumption) (hco.symm.trans hst)
    rw [hsp] at hr1 hr2
    dsimp only at hr1 hr2
    refine ⟨_, _, _, _, l.length - later, rfl, F', N8, by omega, later, _, _, rs ++ [r], _, k, rfl, by omega, by rw [List.length_append, List.length_singleton]; omega, rfl, ?_, by kst_all, by omega, ?_, hr2⟩
    · intro p hp
      have e : ledR w.params (rs ++ [r]) = ledR w.params rs ++ RowR.led w.params r := by simp [ledR]
      rw [e, List.mem_append] at hp
      rcases hp with hp | hp
      · exact hne p hp
      · rcases hp9 p hp with h | h | h <;> rw [h] <;> exact neN (by omega)
    · have c1 : cutL l (some (here : Int)) (some (c9 : Int)) = (l.drop here).take (c9 - here) := cutL_nn here c9 rfl rfl (by omega)
      have c2 : cutL l (some ((c9 : Int) + 1)) (some (last : Int)) = (l.drop (c9 + 1)).take (last - (c9 + 1)) := cutL_nn (c9 + 1) last (by omega) rfl (by omega)
      rw [c1] at hn9
      rw [c2] at hw9
      rw [List.map_append, List.map_singleton, hn9, hw9, List.append_assoc]
      exact hr1
end
theorem comp_sub4 {a b c d : Addr × Obj} {r : List (Addr × Obj)} : ∀ p ∈ b :: c :: d :: a :: r, p ∈ a :: b :: c :: d :: r := picks [a, b, c, d] r [1, 2, 3, 0]
theorem comp_off {I C D T : Nat} {P : Prop} (h : I < T ∧ C < T ∧ D < T ∧ P) : (@Ne Nat T I) ∧ (@Ne Nat T C) ∧ (@Ne Nat T D) := ⟨Nat.ne_of_gt h.1, Nat.ne_of_gt h.2.1, Nat.ne_of_gt h.2.2.1⟩
local macro_rules | `(tactic| walk_at "CompRest") => `(tactic| ((with_unfolding_all refine LCg.CompRest.succ ?_); intro v' I' oI' C' oC' D' m' h' tk' E' hv' hC' hx' F' N' off' ne'; (first | lcg_open hv' | (obtain ⟨t9', hv9'⟩ := hv'; subst hv9'))))
local macro_rules | `(tactic| walk_at "CompEnd") => `(tactic| ((rename News _ _ _ _ => N'); (refine LCg.CompEnd.intro (by first | with_reducible assumption | assumption) N' _ (fun _ hp => hp) (by first | with_reducible assumption | assumption) (by lcg_src) ?_)))
local macro_rules | `(tactic| walk_at "CompEnd") => `(tactic| ((rename News _ _ _ _ => N'); (refine LCg.CompEnd.intro (by first | with_reducible assumption | assumption) N' (_ :: _) comp_sub4 ⟨comp_off (by first | with_reducible assumption | assumption), by first | with_reducible assumption | assumption⟩ (by lcg_src) ?_)))
local macro_rules | `(tactic| walk_at $s:str) => `(tactic| k_extra $s)
section
open PySem PySem.W PyProof.Rows PyProof.V PySem.Spec PySem.Calls
set_option maxRecDepth 100000
/-! ## read_fields -/
theorem map_two {rs : List RowR} {a1 a2 b1 b2 : List UInt8} (h : rs.map (fun r => (r.nm, r.raw)) = [(a1, a2), (b1, b2)]) : ∃ r1 r2 : RowR, rs = [r1, r2] ∧ r1.nm = a1 ∧ r1.raw = a2 ∧ r2.nm = b1 ∧ r2.raw = b2 := by
  obtain ⟨r1, t1, rfl, e1, h⟩ := List.map_eq_cons_iff.mp h
  obtain ⟨r2, t2, rfl, e2, h⟩ := List.map_eq_cons_iff.mp h
  exact ⟨r1, r2, by rw [List.map_eq_nil_iff.mp h], congrArg Prod.fst e1, congrArg Prod.snd e1, congrArg Prod.fst e2, congrArg Prod.snd e2⟩
theorem map_one {rs : List RowR} {a1 a2 : List UInt8} (h : rs.map (fun r => (r.nm, r.raw)) = [(a1, a2)]) : ∃ r1 : RowR, rs = [r1] ∧ r1.nm = a1 ∧ r1.raw = a2 := by
  obtain ⟨r1, t1, rfl, e1, h⟩ := List.map_eq_cons_iff.mp h
  exact ⟨r1, by rw [List.map_eq_nil_iff.mp h], congrArg Prod.fst e1, congrArg Prod.snd e1⟩
theorem two_sub (a b c d e f g h i j : Addr × Obj) : ∀ p ∈ [a, b, f, g, i, j], p ∈ [a, b, c, d, e, f, g, h, i, j] := picks [a, b, c, d, e, f, g, h, i, j] [] [0, 1, 5, 6, 8, 9]
theorem one_sub (a b c d e f g : Addr × Obj) : ∀ p ∈ [a, b, f, g], p ∈ [a, b, c, d, e, f, g] := picks [a, b, c, d, e, f, g] [] [0, 1, 5, 6]
set_option maxHeartbeats 1000000 in
theorem read_fields2_con {w : World} {p : Program} {loose : List PySem.Str} {mean : ExcName → Option Value} {mg mb : PySem.Str → Option Value} {l n1 w1 n2 w2 : List UInt8} {b : Nat} {t : Tok} (h3 : l.length ≤ 100000) (hs : spansF (l.length + 1) l 0 = ([(n1, w1), (n2, w2)], b)) :
    Pur w p loose mean mg mb 4 132 [.bytes l.toArray t] [] (fun _ => True) (fun r tl => ∃ (tq lr x1 d1 x2 d2 : Addr) (tb t1 t2 t3 t4 u1 u2 u3 u4 : Tok), r = .ref tq ∧
      tl = (tq, tup2 (.ref lr) (.int (b : Nat) tb)) :: (lr, LCg.lst [.ref x1, .ref x2]) :: (x1, instObj 93 d1) :: (d1, fldD w.params t1 t2 (.bytes n1.toArray t3) (.bytes w1.toArray t4)) :: (x2, instObj 93 d2) :: (d2, fldD w.params u1 u2 (.bytes n2.toArray u3) (.bytes w2.toArray u4)) :: []) := by
  unfold Pur
  k_fill
  intro dp un gd cn cs ca ccd cl outer A₀ base h₀ L m news s Q E B F X N T hk hdp hun _ hret
  refine wpAny_call ?_
  k_dflt (refine' enter0 ?k1 ?k2 ?k3 ?k5 ?kA ?kF ?kK ?k6 ?k7 ?k8 ?k9 ?kB ?_ ?c2 ?c3 ?c4 ?c5; (case kA => exact rfl); (case kF => exact rfl); (case kK => assumption); (case k1 => k_asm); (case k2 => k_asm); (case k3 => k_asm); (case k5 => k_asm); (case k6 => k_is); (case k7 => k_is); (case k8 => ktr_room); (case k9 => first | exact BindsTo.of_eq rfl | exact binds_K (by k_in) rfl (by k_is) rfl rfl rfl); (case c5 => decide); (case kB => exact locs rfl); (case c2 => exact rfl); (case c3 => exact rfl); (case c4 => exact rfl); k_whole; intro L' h' F' N' B' X' T'; (try dsimp only); (try k_fold))
  rename Fr _ _ _ _ => Fo
  obtain ⟨m0, F0⟩ := fr_gen [(PySem.Str.ofString "data", _), (PySem.Str.ofString "at", _), (PySem.Str.ofString "end", _)] Fo (List.forall_mem_cons.mpr ⟨rfl, List.forall_mem_cons.mpr ⟨rfl, List.forall_mem_cons.mpr ⟨rfl, List.forall_mem_nil _⟩⟩⟩)
  clear Fo
  dsimp only [kstB] at F0
  refine any_tok fun tk0 => ?_
  k_with_none
  k_with "call ref" => (k_dflt (refine' pur_use (read_spans_con h3) ?B ?F ?X ?N ?T ?hk ?hd ?hu ?hp ?_); (case B => k_asm); (case F => k_asm); (case X => k_asm); (case N => k_asm); (case T => k_asm); (case hk => first | exact rfl | assumption); (case hd => ktr_room); (case hu => ktr_units); (case hp => trivial); rintro r9 tl9 h9 tk9 F9 N9 - - ⟨tq9, lr9, cnt9, rs9, tb9, rfl, rfl, hr9⟩; (rw [hs] at hr9); (obtain ⟨r1, r2, rfl, hn1, hw1, hn2, hw2⟩ := map_two hr9); (clear hr9); (simp only [List.nil_append, List.append_nil, List.cons_append, refsR, ledR, RowR.led, List.map_cons, List.map_nil, List.flatMap_cons, List.flatMap_nil, hn1, hw1, hn2, hw2, hs] at N9); (try dsimp only); (try k_fold))
  k_with "subscriptTail Name Constant ref int" => (k_here; k_dflt (refine' item_tupleT (News.isTup (by k_asm) (by k_mem)) (by decide) (by decide) rfl rfl ?_))
  k_steps
  all_goals (try dsimp only at *)
  rename Fr s.heap _ _ _ => nF
  rename News s.heap _ _ _ => nN
  rename News h₀ _ _ _ => kN
  have hE := pur_end N nF (news_sub nN (two_sub _ _ _ _ _ _ _ _ _ _)) (news_sub kN (two_sub _ _ _ _ _ _ _ _ _ _))
  exact hret _ _ _ _ (by assumption) hE.1 hE.2.1 hE.2.2 ⟨_, _, _, _, _, _, _, _, _, _, _, _, _, _, _, rfl, rfl⟩
set_option maxHeartbeats 1000000 in
theorem read_fields1_con {w : World} {p : Program} {loose : List PySem.Str} {mean : ExcName → Option Value} {mg mb : PySem.Str → Option Value} {l n1 w1 : List UInt8} {b : Nat} {t : Tok} (h3 : l.length ≤ 100000) (hs : spansF (l.length + 1) l 0 = ([(n1, w1)], b)) :
    Pur w p loose mean mg mb 4 132 [.bytes l.toArray t] [] (fun _ => True) (fun r tl => ∃ (tq lr x1 d1 : Addr) (tb t1 t2 t3 t4 : Tok), r = .ref tq ∧
      tl = (tq, tup2 (.ref lr) (.int (b : Nat) tb)) :: (lr, LCg.lst [.ref x1]) :: (x1, instObj 93 d1) :: (d1, fldD w.params t1 t2 (.bytes n1.toArray t3) (.bytes w1.toArray t4)) :: []) := by
  unfold Pur
  k_fill
  intro dp un gd cn cs ca ccd cl outer A₀ base h₀ L m news s Q E B F X N T hk hdp hun _ hret
  refine wpAny_call ?_
  k_dflt (refine' enter0 ?k1 ?k2 ?k3 ?k5 ?kA ?kF ?kK ?k6 ?k7 ?k8 ?k9 ?kB ?_ ?c2 ?c3 ?c4 ?c5; (case kA => exact rfl); (case kF => exact rfl); (case kK => assumption); (case k1 => k_asm); (case k2 => k_asm); (case k3 => k_asm); (case k5 => k_asm); (case k6 => k_is); (case k7 => k_is); (case k8 => ktr_room); (case k9 => first | exact BindsTo.of_eq rfl | exact binds_K (by k_in) rfl (by k_is) rfl rfl rfl); (case c5 => decide); (case kB => exact locs rfl); (case c2 => exact rfl); (case c3 => exact rfl); (case c4 => exact rfl); k_whole; intro L' h' F' N' B' X' T'; (try dsimp only); (try k_fold))
  rename Fr _ _ _ _ => Fo
  obtain ⟨m0, F0⟩ := fr_gen [(PySem.Str.ofString "data", _), (PySem.Str.ofString "at", _), (PySem.Str.ofString "end", _)] Fo (List.forall_mem_cons.mpr ⟨rfl, List.forall_mem_cons.mpr ⟨rfl, List.forall_mem_cons.mpr ⟨rfl, List.forall_mem_nil _⟩⟩⟩)
  clear Fo
  dsimp only [kstB] at F0
  refine any_tok fun tk0 => ?_
  k_with_none
  k_with "call ref" => (k_dflt (refine' pur_use (read_spans_con h3) ?B ?F ?X ?N ?T ?hk ?hd ?hu ?hp ?_); (case B => k_asm); (case F => k_asm); (case X => k_asm); (case N => k_asm); (case T => k_asm); (case hk => first | exact rfl | assumption); (case hd => ktr_room); (case hu => ktr_units); (case hp => trivial); rintro r9 tl9 h9 tk9 F9 N9 - - ⟨tq9, lr9, cnt9, rs9, tb9, rfl, rfl, hr9⟩; (rw [hs] at hr9); (obtain ⟨r1, rfl, hn1, hw1⟩ := map_one hr9); (clear hr9); (simp only [List.nil_append, List.append_nil, List.cons_append, refsR, ledR, RowR.led, List.map_cons, List.map_nil, List.flatMap_cons, List.flatMap_nil, hn1, hw1, hs] at N9); (try dsimp only); (try k_fold))
  k_with "subscriptTail Name Constant ref int" => (k_here; k_dflt (refine' item_tupleT (News.isTup (by k_asm) (by k_mem)) (by decide) (by decide) rfl rfl ?_))
  k_steps
  all_goals (try dsimp only at *)
  rename Fr s.heap _ _ _ => nF
  rename News s.heap _ _ _ => nN
  rename News h₀ _ _ _ => kN
  have hE := pur_end N nF (news_sub nN (one_sub _ _ _ _ _ _ _)) (news_sub kN (one_sub _ _ _ _ _ _ _))
  exact hret _ _ _ _ (by assumption) hE.1 hE.2.1 hE.2.2 ⟨_, _, _, _, _, _, _, _, _, rfl, rfl⟩
end
section
open PySem PySem.W PyProof.Rows PyProof.V PySem.Spec PySem.Calls
set_option maxRecDepth 100000
/-! ## the law's _law_take -/
theorem seq_zero {n : Nat} : seqIndex? 0 (n + 1) = some 0 := by
  unfold seqIndex?
  simp
theorem pop_zero {prog : Program} {w : World} {A : Around} {E : Value → Shared → Prop} {s : Shared} {h₀ : Heap} {L D : Addr} {m : PySem.Str → Option Value} {news news' : List (Addr × Obj)} {n : Nat} {u : Tok} {q : List Value} {y : Value} {Q : Value → Shared → Prop} (F : Fr h₀ L s.heap m) (N : News h₀ L s.heap news)
    (U : Upd D (listOf (y :: q).toArray n) (listOf q.toArray (n + 1)) news news') (hz : q.length ≤ 1000) (h : ∀ h', Fr h₀ L h' m → News h₀ L h' news' → Q y { s with heap := h' }) : wpAny (model prog w) A (call (.builtin "list.pop") [.ref D, .int 0 u]) Q E s :=
  kl_popAt (p := []) (q := q) (y := y) (k := 0) F N rfl (by rw [List.size_toArray, List.length_cons]; exact seq_zero) rfl U (by simp only [List.length_cons]; rw [sizeLine_eq]; omega) h
theorem take_con {w : World} {p : Program} {loose : List PySem.Str} {mean : ExcName → Option Value} {mg mb : PySem.Str → Option Value} {l : Addr} {vs : List Value} {ns : List Int} {n : Nat} {many : Int} {u : Tok} {rest : List (Addr × Obj)} (h0 : 0 < many) (hpy : many.natAbs.log2 < 9000) (hi : IntsAre vs ns) (hz : vs.length ≤ 1000) (hoff : ∀ p ∈ rest, p.1 ≠ l) :
    Con w p loose mean mg mb 1 183 [.ref l, .int many u] [] ((l, listOf vs.toArray n) :: rest) (fun r news' => ∃ (d : Int) (t : Tok) (vs' : List Value) (ns' : List Int) (n' : Nat), r = .int d t ∧ 0 ≤ d ∧ d < many ∧ news' = (l, listOf vs'.toArray n') :: rest ∧ IntsAre vs' ns' ∧ vs'.length ≤ 1000) := by
  unfold Con
  k_fill
  intro dp un gd cn cs ca ccd cl outer A₀ base h₀ L m s Q E B F X N T hk hdp hun hret
  refine wpAny_call ?_
  k_with_none
  have hoff2 : OwnOff rest [l] := by
    intro p hp b hb
    rcases List.mem_singleton.mp hb with rfl
    exact hoff p hp
  cases hi with
  | nil =>
    k_dflt ktr_enter
    k_steps
    refine hret _ _ _ _ (by assumption) (by assumption) ⟨_, _, [], [], n, rfl, by omega, h0, rfl, .nil, by decide⟩
  | @cons k t vs ns hi =>
    have hz2 : vs.length ≤ 999 := by simpa using hz
    k_with "call builtin:len" => (k_here; (refine len_list (News.isList (by k_asm) (by k_mem)) (by simp only [List.size_toArray, List.length_cons]; omega) ?_); simp only [List.size_toArray, List.length_cons])
    k_with "call builtin:list.pop" => (k_here; k_dflt (refine' pop_zero ?F ?N ?U ?z ?_; (case F => k_asm); (case N => k_asm); (case U => k_upd); (case z => omega)); intro h' F' N')
    k_with "binaryOp FloorDiv int int" => (k_here; (refine floordiv_int (by omega) ?_ (Or.inl (PyProof.noPylong_of_log2 hpy))))
    k_dflt ktr_enter
    k_steps
    · exfalso; omega
    · exact hret _ _ _ _ (by assumption) (by assumption) ⟨_, _, _, _, _, rfl, fmod_lo _ h0, fmod_hi _ h0, rfl, hi, by omega⟩
    · exact hret _ _ _ _ (by assumption) (by assumption) ⟨_, _, _, _, _, rfl, fmod_lo _ h0, fmod_hi _ h0, rfl, .cons _ _ hi, by rw [List.length_cons]; omega⟩
end
section
open PySem PySem.W PyProof.Rows PyProof.V PySem.Spec PySem.Calls
set_option maxRecDepth 100000
/-! ## octets, and sequences of them, compared -/
section
variable {prog : Program} {w : World} {A : Around} {E : Value → Shared → Prop} {s : Shared}
theorem eqAt_bytes (a b : List UInt8) (t u : Tok) : SeqAt.EqAt A s (.bytes a.toArray t) (.bytes b.toArray u) (a == b) := fun prog w E Q h => by
  unfold eqBool
  refine wpAny_holding ?_
  refine wpAny_ite_split (fun hab => ?_) (fun _ => ?_)
  · have e := eq_of_beq hab
    injection e with e1 e2
    have e3 : a = b := by simpa using e1
    subst e3
    rw [beq_self_eq_true] at h
    exact wpAny_bind (wpAny_rule (wpAny_pure h))
  · refine wpAny_bind (eq_bytes (prog := prog) (w := w) (wpAny_truthy_bool ?_))
    simpa using h
theorem in_two {l a b : List UInt8} {t t1 t2 : Tok} {T : Addr} {Q : Value → Shared → Prop} (hT : IsTup s.heap T #[.bytes a.toArray t1, .bytes b.toArray t2]) (h : Q (.bool (l == a || l == b)) s) :
    wpAny (model prog w) A (compareOp .In (.bytes l.toArray t) (.ref T)) Q E s := by
  refine SeqAt.in_tupleAt (fun y => match y with | .bytes c _ => c.toList == l | _ => false) hT (fun y hy => ?_) ?_
  · simp only [List.mem_toArray, List.mem_cons, List.not_mem_nil, or_false] at hy
    rcases hy with rfl | rfl
    · exact eqAt_bytes _ _ _ _
    · exact eqAt_bytes _ _ _ _
  · have e : (#[Value.bytes a.toArray t1, Value.bytes b.toArray t2].any fun y => match y with | .bytes c _ => c.toList == l | _ => false) = (l == a || l == b) := by
      simp only [List.any_toArray, List.any_cons, List.any_nil, Bool.or_false]
      rw [Bool.beq_comm (a := l) (b := a), Bool.beq_comm (a := l) (b := b)]
    rw [e]
    exact h
theorem all_true {n : Nat} : ((List.range n).all fun _ => true) = true := by simp
theorem ne_lists {a b : Addr} {xs ys : List Value} {Q : Value → Shared → Prop} (ha : s.heap.IsList a xs.toArray) (hb : s.heap.IsList b ys.toArray) (hl : xs.length = ys.length) (hu : A.units < cLine)
    (he : ∀ j (h1 : j < xs.length) (h2 : j < ys.length), SeqAt.EqAt A.in1 s xs[j] ys[j] true) (h : Q (.bool false) s) : wpAny (model prog w) A (compareOp .NotEq (.ref a) (.ref b)) Q E s := by
  refine SeqAt.RcNeAt.lists (e := fun _ => true) ha hb (by simpa using hl) hu (fun j h1 h2 => by simpa using he j (by simpa using h1) (by simpa using h2)) prog w E Q ?_
  rw [all_true]
  exact h
theorem eq_lists {a b : Addr} {xs ys : List Value} {Q : Value → Shared → Prop} (ha : s.heap.IsList a xs.toArray) (hb : s.heap.IsList b ys.toArray) (hl : xs.length = ys.length) (hu : A.units < cLine)
    (he : ∀ j (h1 : j < xs.length) (h2 : j < ys.length), SeqAt.EqAt A.in1 s xs[j] ys[j] true) (h : Q (.bool true) s) : wpAny (model prog w) A (compareOp .Eq (.ref a) (.ref b)) Q E s := by
  refine SeqAt.RcAt.lists (e := fun _ => true) ha hb (by simpa using hl) hu (fun j h1 h2 => by simpa using he j (by simpa using h1) (by simpa using h2)) prog w E Q ?_
  rw [all_true]
  exact h
theorem eqAt_pair {a b : Addr} {n m : List UInt8} {t1 t2 t3 t4 : Tok} (ha : IsTup s.heap a #[.bytes n.toArray t1, .bytes m.toArray t2]) (hb : IsTup s.heap b #[.bytes n.toArray t3, .bytes m.toArray t4]) (hu : A.units < cLine) : SeqAt.EqAt A s (.ref a) (.ref b) true := by
  by_cases h : a = b
  · subst h
    exact SeqAt.EqAt.same _
  · refine SeqAt.EqAt.of_refs h ?_
    have := SeqAt.RcAt.tuples (e := fun _ => true) ha hb hu (fun j h1 h2 => by
      match j, h1, h2 with
      | 0, _, _ =>
        have e := eqAt_bytes (A := A.in1) (s := s) n n t1 t3
        rw [beq_self_eq_true] at e
        exact e
      | 1, _, _ =>
        have e := eqAt_bytes (A := A.in1) (s := s) m m t2 t4
        rw [beq_self_eq_true] at e
        exact e)
    exact this
theorem eqAt_valsB {ps qs : BT} (h : ps.map (·.1) = qs.map (·.1)) : ∀ j (h1 : j < (valsB ps).length) (h2 : j < (valsB qs).length), SeqAt.EqAt A s (valsB ps)[j] (valsB qs)[j] true := by
  intro j h1 h2
  have h1' : j < ps.length := by simpa [valsB] using h1
  have h2' : j < qs.length := by simpa [valsB] using h2
  have e : (ps.map (·.1))[j]'(by simpa using h1') = (qs.map (·.1))[j]'(by simpa using h2') := by
    simp only [h]
  simp only [List.getElem_map] at e
  have e1 : (valsB ps)[j] = .bytes ps[j].1.toArray ps[j].2 := by simp [valsB]
  have e2 : (valsB qs)[j] = .bytes qs[j].1.toArray qs[j].2 := by simp [valsB]
  rw [e1, e2]
  have x := eqAt_bytes (A := A) (s := s) ps[j].1 qs[j].1 ps[j].2 qs[j].2
  rw [e, beq_self_eq_true] at x
  rw [e]
  exact x
end
end
section
open PySem PySem.W PyProof.Rows PyProof.V PySem.Spec PySem.Calls
set_option maxRecDepth 100000
/-! ## the law's _law_is_white -/
theorem white_con {w : World} {p : Program} {loose : List PySem.Str} {mean : ExcName → Option Value} {mg mb : PySem.Str → Option Value} {l : List UInt8} {t : Tok} {news : List (Addr × Obj)} :
    Con w p loose mean mg mb 1 190 [.bytes l.toArray t] [] news (fun r news' => r = .bool (l == [32] || l == [9]) ∧ news' = news) := by
  unfold Con
  k_fill
  intro dp un gd cn cs ca ccd cl outer A₀ base h₀ L m s Q E B F X N T hk hdp hun hret
  refine wpAny_call ?_
  k_with_none
  k_with "compareOp In bytes ref" => (k_here; refine in_two (News.isTup (by k_asm) (by k_mem)) ?_)
  k_dflt ktr_enter
  k_steps
  rename News h₀ _ _ (_ :: news) => kN
  exact hret _ _ _ _ (by assumption) (news_cb kN) ⟨rfl, rfl⟩
end
section
open PySem PySem.W PyProof.Rows PyProof.V PySem.Spec PySem.Calls
set_option maxRecDepth 100000
/-! ## a comprehension, and a loop over a list, by what holds of them -/
section
variable {prog : Program} {w : World} {A : Around} {E : Value → Shared → Prop} {s : Shared} {h₀ : Heap} {L : Addr} {m : PySem.Str → Option Value} {env : Env}
theorem comp_go {elt : Expr} {x : PySem.Str} {scope : Scope} {cl : List (PySem.Str × Addr)} {S : List (Addr × Obj) → Prop} {P : Nat → Value → Prop} {Fin : List Value → List (Addr × Obj) → Prop} (Inv : Nat → List Value → List (Addr × Obj) → Prop) {n : Nat}
    (step : ∀ i ys nx v I oI C oC D m₂ h tk (E' : Value → Shared → Prop), Inv i ys nx → i < n → P i v → LCg.NsObj oC m₂ → m₂ x = some v → Fr h₀ L h m → News h₀ L h ((I, oI) :: (C, oC) :: (D, LCg.lst ys) :: nx) → LCg.Off3 I C D nx →
      wpAny (model prog w) A (eval elt (compEnvC scope cl C env)) (LCg.CompEnd h₀ L m { s with heap := h, toks := tk } I oI C oC D (LCg.lst ys) S (fun y news' => Inv (i + 1) (ys ++ [y]) news')) E' { s with heap := h, toks := tk })
    (fin : ∀ ys nx, Inv n ys nx → Fin ys nx) : ∀ (k i : Nat) ys nx, i + k = n → Inv i ys nx → LCg.CompRest prog w A h₀ L m env elt x scope cl s S P Fin k i ys nx
  | 0, i, ys, nx, e, hI => LCg.CompRest.zero (fin ys nx (by have : i = n := by omega
                                                            rw [← this]; exact hI))
  | k + 1, i, ys, nx, e, hI => LCg.CompRest.succ fun v I oI C oC D m₂ h tk E' hP hC hx F N off ne =>
    wpAny_mono (step i ys nx v I oI C oC D m₂ h tk E' hI (by omega) hP hC hx F N off) (fun y s₂ hy => by
      obtain ⟨h', tk', news', e1, F', N', o', hS, hI'⟩ := hy
      exact ⟨h', tk', news', e1, F', N', o', hS, comp_go Inv step fin k (i + 1) _ _ (by omega) hI'⟩) fun _ _ x => x
theorem comp_ind {elt : Expr} {x : PySem.Str} {scope : Scope} {cl : List (PySem.Str × Addr)} {S : List (Addr × Obj) → Prop} {P : Nat → Value → Prop} {Fin : List Value → List (Addr × Obj) → Prop} (Inv : Nat → List Value → List (Addr × Obj) → Prop) {n : Nat} {news : List (Addr × Obj)} (h0 : Inv 0 [] news)
    (step : ∀ i ys nx v I oI C oC D m₂ h tk (E' : Value → Shared → Prop), Inv i ys nx → i < n → P i v → LCg.NsObj oC m₂ → m₂ x = some v → Fr h₀ L h m → News h₀ L h ((I, oI) :: (C, oC) :: (D, LCg.lst ys) :: nx) → LCg.Off3 I C D nx →
      wpAny (model prog w) A (eval elt (compEnvC scope cl C env)) (LCg.CompEnd h₀ L m { s with heap := h, toks := tk } I oI C oC D (LCg.lst ys) S (fun y news' => Inv (i + 1) (ys ++ [y]) news')) E' { s with heap := h, toks := tk })
    (fin : ∀ ys nx, Inv n ys nx → Fin ys nx) : LCg.CompRest prog w A h₀ L m env elt x scope cl s S P Fin n 0 [] news := comp_go Inv step fin n 0 [] news (by omega) h0
theorem list_go {x : PySem.Str} {body : List Stmt} {Q : Flow → Shared → Prop} {I : Addr} {lp : Addr × Obj} (Inv : Nat → (PySem.Str → Option Value) → List (Addr × Obj) → Prop) (vs : List Value)
    (step : ∀ (i : Nat) v mm nx (it : Obj) h tk, vs[i]? = some v → Inv i mm nx → it.cls = .type "list_iterator" → Fr h₀ env.locals h (fun y => if y = x then some v else mm y) → News h₀ env.locals h ((I, it) :: nx) →
      wpAny (model prog w) A (execs body env) (UnrPost h₀ env.locals { s with heap := h, toks := tk } I it (fun m' n' => lp ∈ n' ∧ Inv (i + 1) m' n') Q) E { s with heap := h, toks := tk })
    (fin : ∀ mm nx h tk, Inv vs.length mm nx → Fr h₀ env.locals h mm → News h₀ env.locals h nx → Q .next { s with heap := h, toks := tk }) :
    ∀ (rest : List Value) (i : Nat) (mm : PySem.Str → Option Value) (nx : List (Addr × Obj)), vs.drop i = rest → i ≤ vs.length → Inv i mm nx → ListRest prog w A E h₀ env x body Q s I lp rest mm nx
  | [], i, mm, nx, e, hi, hI => by
    have : i = vs.length := by
      have := congrArg List.length e
      simp only [List.length_drop, List.length_nil] at this
      omega
    subst this
    exact ListRest.zero fun h tk F N => fin mm nx h tk hI F N
  | v :: rest, i, mm, nx, e, hi, hI => by
    have hv : vs[i]? = some v := by
      have h0 : (vs.drop i)[0]? = some v := by rw [e]; rfl
      rw [List.getElem?_drop] at h0
      simpa using h0
    have hlt : i < vs.length := (List.getElem?_eq_some_iff.mp hv).1
    have hr : vs.drop (i + 1) = rest := by
      rw [← List.tail_drop, e]; rfl
    refine ListRest.succ fun it h tk hit F N => ?_
    refine wpAny_mono (step i v mm nx it h tk hv hI hit F N) (fun f s₃ p => ?_) fun _ _ x => x
    have up : UnrEnd h₀ env.locals { s with heap := h, toks := tk } I it (fun m' n' => lp ∈ n' ∧ Inv (i + 1) m' n') s₃ → UnrEnd h₀ env.locals { s with heap := h, toks := tk } I it (fun m' n' => lp ∈ n' ∧ ListRest prog w A E h₀ env x body Q s I lp rest m' n') s₃ := by
      rintro ⟨h', tk', m', n', e', F', N', ho, hk', hI'⟩
      exact ⟨h', tk', m', n', e', F', N', ho, hk', list_go Inv vs step fin rest (i + 1) m' n' hr hlt hI'⟩
    cases f with
    | ret v => exact p
    | brk => exact p
    | next => exact up p
    | cont => exact up p
theorem item_valsB {ps : BT} {value slice : Expr} {T : Addr} {k : Int} {u : Tok} {Q : Value → Shared → Prop} (ht : IsTup s.heap T (valsB ps).toArray) (h0 : 0 ≤ k) (h1 : k < ps.length) (h2 : ps.length ≤ 1000) (h : ∀ p ∈ ps, Q (.bytes p.1.toArray p.2) s)
    (hs : subscripted slice false (.ref T) (.int k u) = operate [.ref T, .int k u] (getItem (.ref T) (.int k u)) := by with_unfolding_all rfl) :
    wpAny (model prog w) A (subscriptTail value slice (.ref T) (.int k u)) Q E s := by
  have hk : k.toNat < ps.length := by omega
  refine item_tupleT (j := k.toNat) (x := .bytes (ps[k.toNat]).1.toArray (ps[k.toNat]).2) ht (by omega) (by omega) ?_ ?_ (h _ (List.getElem_mem hk)) hs
  · unfold seqIndex?
    have e : ¬ k < 0 := by omega
    rw [if_neg e, valsB_length]
    have e2 : (decide (0 ≤ k) && decide (k < (ps.length : Int))) = true := by simp [h0, h1]
    exact if_pos e2
  · rw [List.getElem?_eq_getElem (by rw [valsB_length]; exact hk)]
    simp [valsB]
end
end
section
open PySem PySem.W PyProof.Rows
set_option maxRecDepth 100000
/-! ## rows, and the line's ends between them -/
def glueF (ps : List (List UInt8 × List UInt8)) (row : List UInt8) : List UInt8 := (ps.map fun p => p.1 ++ p.2).flatten ++ row
def bodyF (ps : List (List UInt8 × List UInt8)) (row : List UInt8) : List UInt8 := (ps.map (·.1)).flatten ++ row
def clean (r : List UInt8) : Prop := ∀ c ∈ r, c ≠ 10 ∧ c ≠ 13
def startsW (r : List UInt8) : Prop := ∃ c t, r = c :: t ∧ isW c = true
set_option genSizeOf false in
set_option genInjectivity false in
structure Glue (ps : List (List UInt8 × List UInt8)) (row : List UInt8) : Prop where
  seps : ∀ p ∈ ps, p.2 = [13, 10] ∨ p.2 = [10]
  cls : ∀ p ∈ ps, clean p.1
  last : clean row
  later : ∀ r ∈ (ps.map (·.1) ++ [row]).tail, startsW r
theorem glue_nil : Glue [] [] := ⟨(fun _ h => nomatch h), (fun _ h => nomatch h), (fun _ h => nomatch h), (fun _ h => nomatch h)⟩
theorem clean_append {a b : List UInt8} (ha : clean a) (hb : clean b) : clean (a ++ b) := fun c hc => by
  rcases List.mem_append.mp hc with h | h
  · exact ha c h
  · exact hb c h
theorem startsW_append {a b : List UInt8} (ha : startsW a) : startsW (a ++ b) := by
  obtain ⟨c, t, rfl, h⟩ := ha
  exact ⟨c, t ++ b, rfl, h⟩
theorem glue_add {ps : List (List UInt8 × List UInt8)} {row x : List UInt8} (h : Glue ps row) (hx : clean x) : Glue ps (row ++ x) := by
  refine ⟨h.seps, h.cls, clean_append h.last hx, ?_⟩
  cases ps with
  | nil => intro r hr; exact nomatch hr
  | cons p ps =>
    intro r hr
    simp only [List.map_cons, List.cons_append, List.tail_cons, List.mem_append, List.mem_singleton] at hr
    have hl := h.later
    simp only [List.map_cons, List.cons_append, List.tail_cons, List.mem_append, List.mem_singleton] at hl
    rcases hr with hr | rfl
    · exact hl r (.inl hr)
    · exact startsW_append (hl row (.inr rfl))
theorem glue_turn {ps : List (List UInt8 × List UInt8)} {row x sep : List UInt8} (h : Glue ps row) (hs : sep = [13, 10] ∨ sep = [10]) (hx : clean x) (hw : startsW x) : Glue (ps ++ [(row, sep)]) x := by
  refine ⟨fun p hp => ?_, fun p hp => ?_, hx, ?_⟩
  · rcases List.mem_append.mp hp with hp | hp
    · exact h.seps p hp
    · rw [List.mem_singleton.mp hp]; exact hs
  · rcases List.mem_append.mp hp with hp | hp
    · exact h.cls p hp
    · rw [List.mem_singleton.mp hp]; exact h.last
  · intro r hr
    have e : ((ps ++ [(row, sep)]).map (·.1) ++ [x]).tail = (ps.map (·.1) ++ [row]).tail ++ [x] := by
      rw [List.map_append, List.map_singleton]
      cases ps <;> simp
    rw [e, List.mem_append, List.mem_singleton] at hr
    rcases hr with hr | rfl
    · exact h.later r hr
    · exact hw
theorem glueF_add {ps : List (List UInt8 × List UInt8)} {row x : List UInt8} : glueF ps (row ++ x) = glueF ps row ++ x := by simp [glueF]
theorem glueF_turn {ps : List (List UInt8 × List UInt8)} {row x sep : List UInt8} : glueF (ps ++ [(row, sep)]) x = glueF ps row ++ sep ++ x := by simp [glueF]
theorem bodyF_add {ps : List (List UInt8 × List UInt8)} {row x : List UInt8} : bodyF ps (row ++ x) = bodyF ps row ++ x := by simp [bodyF]
theorem bodyF_turn {ps : List (List UInt8 × List UInt8)} {row x sep : List UInt8} : bodyF (ps ++ [(row, sep)]) x = bodyF ps row ++ x := by simp [bodyF]
theorem take_flat {ps : BT} {i : Nat} {x : List UInt8} {t : Tok} (h : ps[i]? = some (x, t)) : ((ps.take (i + 1)).map (·.1)).flatten = ((ps.take i).map (·.1)).flatten ++ x := by
  rw [List.take_add_one, h]
  simp
theorem length_glueF {ps : List (List UInt8 × List UInt8)} {row : List UInt8} (h : ∀ p ∈ ps, p.2 = [13, 10] ∨ p.2 = [10]) : (glueF ps row).length ≤ (bodyF ps row).length + 2 * ps.length := by
  induction ps with
  | nil => simp [glueF, bodyF]
  | cons p ps ih =>
    have h1 := ih fun q hq => h q (.tail _ hq)
    have h2 : p.2.length ≤ 2 := by rcases h p (.head _) with e | e <;> rw [e] <;> simp
    simp only [glueF, bodyF, List.map_cons, List.flatten_cons, List.length_append, List.length_cons] at h1 ⊢
    omega
/-- the law's pieces -/
def PCS : List (List UInt8) := [[97], [32], [98, 99, 58], [9], [233], [61, 63]]
theorem pcs_clean {x : List UInt8} (h : x ∈ PCS) : clean x ∧ x.length ≤ 3 := by
  simp only [PCS, List.mem_cons, List.not_mem_nil, or_false] at h
  rcases h with rfl | rfl | rfl | rfl | rfl | rfl <;> exact ⟨by simp [clean], by simp⟩
theorem flat_le {xs : List (List UInt8)} (h : ∀ x ∈ xs, x ∈ PCS) : xs.flatten.length ≤ 3 * xs.length := by
  induction xs with
  | nil => simp
  | cons x xs ih =>
    have h1 := ih fun y hy => h y (.tail _ hy)
    have h2 := (pcs_clean (h x (.head _))).2
    simp only [List.flatten_cons, List.length_append, List.length_cons]
    omega
theorem white_starts {x : List UInt8} (h : (x == [32] || x == [9]) = true) : startsW x := by
  simp only [Bool.or_eq_true, beq_iff_eq] at h
  rcases h with rfl | rfl
  · exact ⟨_, _, rfl, rfl⟩
  · exact ⟨_, _, rfl, rfl⟩
end
section
open PySem PySem.W PyProof.Rows
set_option maxRecDepth 100000
/-! ## white at a body's ends -/
theorem clip_one {n : Nat} : clipAt n 1 = min 1 n := by
  have h : clipAt n ((1 : Nat) : Int) = min 1 n := by
    rw [clipAt_nat]
  exact h
theorem cut_first {b : List UInt8} : cutL b none (some 1) = b.take 1 := by
  have h : cutL b none (some ((1 : Nat) : Int)) = b.take 1 := by
    unfold cutL
    simp only [Option.elim, clipAt_nat]
    cases b with
    | nil => simp
    | cons c t => simp
  exact h
theorem cut_rest {b : List UInt8} : cutL b (some 1) none = b.drop 1 := cutL_ns 1 rfl
theorem clip_neg {n : Nat} : clipAt n (-1) = n - 1 := by
  unfold clipAt
  rw [if_pos (by omega)]
  omega
theorem cut_last {b : List UInt8} : cutL b (some (-1)) none = b.drop (b.length - 1) := by
  unfold cutL
  simp only [Option.elim, clip_neg]
  rw [List.take_of_length_le]
  rw [List.length_drop]
  omega
theorem cut_init {b : List UInt8} : cutL b none (some (-1)) = b.take (b.length - 1) := by
  unfold cutL
  simp only [Option.elim, clip_neg, List.drop_zero, Nat.sub_zero]
theorem lead_t {b : List UInt8} (h : (b.take 1 == [32] || b.take 1 == [9]) = true) : ∃ c t, b = c :: t ∧ isW c = true := by
  cases b with
  | nil => exact absurd h (by decide)
  | cons c t =>
    refine ⟨c, t, rfl, ?_⟩
    have e : (c :: t).take 1 = [c] := rfl
    rw [e] at h
    simpa [isW] using h
theorem lead_f {b : List UInt8} (h : (b.take 1 == [32] || b.take 1 == [9]) = false) : b.dropWhile isW = b := by
  cases b with
  | nil => rfl
  | cons c t =>
    have e : (c :: t).take 1 = [c] := rfl
    rw [e] at h
    have hc : isW c = false := by simpa [isW] using h
    rw [List.dropWhile_cons, if_neg (by rw [hc]; decide)]
theorem tail_t {b : List UInt8} (h : (b.drop (b.length - 1) == [32] || b.drop (b.length - 1) == [9]) = true) : ∃ c t, b = t ++ [c] ∧ isW c = true := by
  rcases List.eq_nil_or_concat b with rfl | ⟨t, c, rfl⟩
  · exact absurd h (by decide)
  · refine ⟨c, t, by simp, ?_⟩
    have e : (t ++ [c]).drop ((t ++ [c]).length - 1) = [c] := by
      rw [List.length_append, List.length_singleton, Nat.add_sub_cancel, List.drop_left]
    simp only [List.concat_eq_append] at h
    rw [e] at h
    simpa [isW] using h
theorem tail_f {b : List UInt8} (h : (b.drop (b.length - 1) == [32] || b.drop (b.length - 1) == [9]) = false) : b.reverse.dropWhile isW = b.reverse := by
  rcases List.eq_nil_or_concat b with rfl | ⟨t, c, rfl⟩
  · rfl
  · have e : (t ++ [c]).drop ((t ++ [c]).length - 1) = [c] := by
      rw [List.length_append, List.length_singleton, Nat.add_sub_cancel, List.drop_left]
    simp only [List.concat_eq_append] at h ⊢
    rw [e] at h
    have hc : isW c = false := by simpa [isW] using h
    rw [List.reverse_append, List.reverse_singleton, List.singleton_append, List.dropWhile_cons, if_neg (by rw [hc]; decide)]
theorem init_step {b : List UInt8} (h : (b.drop (b.length - 1) == [32] || b.drop (b.length - 1) == [9]) = true) : (b.take (b.length - 1)).reverse.dropWhile isW = b.reverse.dropWhile isW ∧ (b.take (b.length - 1)).length < b.length := by
  obtain ⟨c, t, rfl, hc⟩ := tail_t h
  have e : (t ++ [c]).take ((t ++ [c]).length - 1) = t := by
    rw [List.length_append, List.length_singleton, Nat.add_sub_cancel, List.take_left]
  rw [e]
  refine ⟨?_, by simp⟩
  rw [List.reverse_append, List.reverse_singleton, List.singleton_append, List.dropWhile_cons, if_pos hc]
theorem rest_step {b : List UInt8} (h : (b.take 1 == [32] || b.take 1 == [9]) = true) : (b.drop 1).dropWhile isW = b.dropWhile isW ∧ (b.drop 1).length < b.length := by
  obtain ⟨c, t, rfl, hc⟩ := lead_t h
  refine ⟨?_, by simp⟩
  rw [List.dropWhile_cons, if_pos hc]
  rfl
end
section
open PySem PySem.W PyProof.Rows
set_option maxRecDepth 100000
/-! ## the plain law: rows -/
theorem fnd_is {l : List UInt8} {c : UInt8} {a e i : Nat} (h1 : a ≤ i) (h2 : i < e) (h3 : l[i]? = some c) (h4 : ∀ j, a ≤ j → j < i → l[j]? ≠ some c) : fnd l c a e = some i := by
  unfold fnd
  rw [List.find?_eq_some_iff_getElem]
  refine ⟨by rw [h3]; exact beq_self_eq_true _, i - a, by simp; omega, by simp; omega, fun j hj => ?_⟩
  have h5 := h4 (j + a) (by omega) (by omega)
  simp only [List.getElem_map, List.getElem_range, Bool.not_eq_true', beq_eq_false_iff_ne]
  exact h5
theorem fnd_no {l : List UInt8} {c : UInt8} {a e : Nat} (h : ∀ j, a ≤ j → j < e → l[j]? ≠ some c) : fnd l c a e = none := by
  unfold fnd
  rw [List.find?_eq_none]
  intro x hx
  simp only [List.mem_map, List.mem_range] at hx
  obtain ⟨k, hk, rfl⟩ := hx
  simp only [beq_iff_eq]
  exact h (k + a) (by omega) (by omega)
theorem mid_get {pre r post : List UInt8} {j : Nat} (h1 : pre.length ≤ j) (h2 : j < pre.length + r.length) : (pre ++ (r ++ post))[j]? = r[j - pre.length]? := by
  rw [List.getElem?_append_right h1, List.getElem?_append_left (by omega)]
theorem fnd_mid {pre r post : List UInt8} {c : UInt8} {e : Nat} (hr : ∀ x ∈ r, x ≠ c) (he : pre.length + r.length < e) : fnd (pre ++ (r ++ c :: post)) c pre.length e = some (pre.length + r.length) := by
  refine fnd_is (by omega) he ?_ fun j h1 h2 => ?_
  · rw [List.getElem?_append_right (by omega), List.getElem?_append_right (by omega)]
    simp
  · rw [mid_get h1 h2]
    intro h
    exact hr c (List.mem_of_getElem? h) rfl
theorem fnd_end {pre r : List UInt8} {c : UInt8} (hr : ∀ x ∈ r, x ≠ c) : fnd (pre ++ r) c pre.length (pre ++ r).length = none := by
  refine fnd_no fun j h1 h2 => ?_
  rw [List.getElem?_append_right h1]
  intro h
  exact hr c (List.mem_of_getElem? h) rfl
theorem lnEnd_end {pre r : List UInt8} (hr : clean r) : lnEnd (pre ++ r) pre.length (pre ++ r).length = ((pre ++ r).length, (pre ++ r).length) := by
  unfold lnEnd
  rw [fnd_end fun x hx => (hr x hx).1]
theorem lnEnd_mid {pre r sep post : List UInt8} (hr : clean r) (hs : sep = [13, 10] ∨ sep = [10]) :
    lnEnd (pre ++ (r ++ (sep ++ post))) pre.length (pre ++ (r ++ (sep ++ post))).length = (pre.length + r.length, pre.length + r.length + sep.length) := by
  rcases hs with rfl | rfl
  · have e : pre ++ (r ++ ([13, 10] ++ post)) = pre ++ ((r ++ [13]) ++ 10 :: post) := by simp
    have hf : fnd (pre ++ (r ++ ([13, 10] ++ post))) 10 pre.length (pre ++ (r ++ ([13, 10] ++ post))).length = some (pre.length + r.length + 1) := by
      rw [e, fnd_mid (r := r ++ [13]) (fun x hx => by
        rcases List.mem_append.mp hx with hx | hx
        · exact (hr x hx).1
        · rw [List.mem_singleton.mp hx]; decide) (by simp)]
      simp; omega
    unfold lnEnd
    rw [hf]
    have hg : (pre ++ (r ++ ([13, 10] ++ post))).getD (pre.length + r.length + 1 - 1) 0 = 13 := by
      rw [Nat.add_sub_cancel, List.getD_eq_getElem?_getD, List.getElem?_append_right (by omega), List.getElem?_append_right (by omega)]
      have e2 : pre.length + r.length - pre.length - r.length = 0 := by omega
      rw [e2]
      rfl
    simp only
    rw [if_pos ⟨by omega, hg⟩]
    simp
  · have hf : fnd (pre ++ (r ++ ([10] ++ post))) 10 pre.length (pre ++ (r ++ ([10] ++ post))).length = some (pre.length + r.length) := fnd_mid (fun x hx => (hr x hx).1) (by simp)
    unfold lnEnd
    rw [hf]
    simp only
    rw [if_neg]
    · simp
    · rintro ⟨h1, h2⟩
      rw [List.getD_eq_getElem?_getD, mid_get (by omega) (by omega)] at h2
      cases h3 : r[pre.length + r.length - 1 - pre.length]? with
      | none => rw [h3] at h2; exact absurd h2 (by decide)
      | some c =>
        rw [h3] at h2
        exact (hr c (List.mem_of_getElem? h3)).2 h2
theorem glueF_cons {p : List UInt8 × List UInt8} {ps : List (List UInt8 × List UInt8)} {row : List UInt8} : glueF (p :: ps) row = p.1 ++ (p.2 ++ glueF ps row) := by simp [glueF]
theorem rows_go {row : List UInt8} (hr : clean row) : ∀ (ps : List (List UInt8 × List UInt8)) (k : Nat) (pre : List UInt8), (∀ p ∈ ps, p.2 = [13, 10] ∨ p.2 = [10]) → (∀ p ∈ ps, clean p.1) → ps.length < k → rowsF k (pre ++ glueF ps row) pre.length = ps.map (·.1) ++ [row]
  | [], 0, _, _, _, h => nomatch h
  | [], k + 1, pre, _, _, _ => by
    have e : glueF [] row = row := rfl
    rw [e, rowsF, lnEnd_end hr, if_pos rfl]
    simp
  | _ :: _, 0, _, _, _, h => nomatch h
  | p :: ps, k + 1, pre, h1, h2, h3 => by
    have hs := h1 p (.head _)
    have hc := h2 p (.head _)
    have hsl : 0 < p.2.length := by rcases hs with h | h <;> rw [h] <;> decide
    rw [glueF_cons, rowsF, lnEnd_mid hc hs]
    simp only
    rw [if_neg (by simp only [List.length_append]; omega)]
    have ih := rows_go hr ps k (pre ++ (p.1 ++ p.2)) (fun q hq => h1 q (.tail _ hq)) (fun q hq => h2 q (.tail _ hq)) (by rw [List.length_cons] at h3; omega)
    have e : pre ++ (p.1 ++ (p.2 ++ glueF ps row)) = (pre ++ (p.1 ++ p.2)) ++ glueF ps row := by simp
    have e2 : pre.length + p.1.length + p.2.length = (pre ++ (p.1 ++ p.2)).length := by simp; omega
    rw [e2, e, ih]
    simp
theorem rows_glue {ps : List (List UInt8 × List UInt8)} {row : List UInt8} (h : Glue ps row) : rowsF ((glueF ps row).length + 1) (glueF ps row) 0 = ps.map (·.1) ++ [row] := by
  have h1 : ps.length ≤ (glueF ps row).length := by
    have h2 : ∀ (qs : List (List UInt8 × List UInt8)), (∀ p ∈ qs, p.2 = [13, 10] ∨ p.2 = [10]) → qs.length ≤ (glueF qs row).length := by
      intro qs
      induction qs with
      | nil => simp
      | cons p qs ih =>
        intro h3
        have h4 := ih fun q hq => h3 q (.tail _ hq)
        have hsl : 0 < p.2.length := by rcases h3 p (.head _) with h | h <;> rw [h] <;> decide
        rw [glueF_cons]
        simp only [List.length_append, List.length_cons]
        omega
    exact h2 ps h.seps
  have := rows_go h.last ps ((glueF ps row).length + 1) [] h.seps h.cls (by omega)
  simpa using this
end
section
open PySem PySem.W PyProof.Rows
set_option maxRecDepth 100000
/-! ## the plain law: a field in a head -/
theorem cont_go {row post : List UInt8} (hr : clean row) (hw : startsW row) (hp : ∀ c t, post = c :: t → isW c = false) : ∀ (ps : List (List UInt8 × List UInt8)) (k a : Nat) (pre L : List UInt8), (∀ p ∈ ps, p.2 = [13, 10] ∨ p.2 = [10]) → (∀ p ∈ ps, clean p.1) → (∀ p ∈ ps, startsW p.1) → ps.length < k →
    L = pre ++ (glueF ps row ++ ([13, 10] ++ post)) → contF k L a pre.length = (pre.length + (glueF ps row).length, pre.length + (glueF ps row).length + 2)
  | [], 0, _, _, _, _, _, _, h, _ => nomatch h
  | [], k + 1, a, pre, L, _, _, _, _, hL => by
    have e : glueF [] row = row := rfl
    rw [e] at hL ⊢
    subst hL
    obtain ⟨c, t, rfl, hc⟩ := hw
    rw [contF_step (by simp) (by
      rw [List.getD_eq_getElem?_getD, List.getElem?_append_right (Nat.le_refl _), Nat.sub_self]
      exact hc), lnEnd_mid hr (.inl rfl)]
    simp only
    rw [contF_stop fun hlt => ?_]
    · rfl
    · cases post with
      | nil => exfalso; simp at hlt; omega
      | cons d u =>
        have e2 : pre ++ (c :: t ++ ([13, 10] ++ d :: u)) = (pre ++ (c :: t ++ [13, 10])) ++ d :: u := by simp
        have e3 : pre.length + (c :: t).length + [(13 : UInt8), 10].length = (pre ++ (c :: t ++ [13, 10])).length := by simp; omega
        rw [e2, e3, List.getD_eq_getElem?_getD, List.getElem?_append_right (Nat.le_refl _), Nat.sub_self]
        exact hp d u rfl
  | _ :: _, 0, _, _, _, _, _, _, h, _ => nomatch h
  | p :: ps, k + 1, a, pre, L, h1, h2, h3, h4, hL => by
    have hs := h1 p (.head _)
    have hc := h2 p (.head _)
    have hq := h3 p (.head _)
    have e : L = pre ++ (p.1 ++ (p.2 ++ (glueF ps row ++ ([13, 10] ++ post)))) := by rw [hL, glueF_cons]; simp
    have e2 : L = (pre ++ (p.1 ++ p.2)) ++ (glueF ps row ++ ([13, 10] ++ post)) := by rw [e]; simp
    have ih := cont_go hr hw hp ps k (pre.length + p.1.length) (pre ++ (p.1 ++ p.2)) L (fun q hq => h1 q (.tail _ hq)) (fun q hq => h2 q (.tail _ hq)) (fun q hq => h3 q (.tail _ hq)) (by rw [List.length_cons] at h4; omega) e2
    have hl : lnEnd L pre.length L.length = (pre.length + p.1.length, pre.length + p.1.length + p.2.length) := by
      rw [e]; exact lnEnd_mid hc hs
    obtain ⟨c, t, hct, hcw⟩ := hq
    rw [contF_step (by rw [e, hct]; simp) (by
      rw [e, hct, List.getD_eq_getElem?_getD, List.getElem?_append_right (Nat.le_refl _), Nat.sub_self]
      exact hcw), hl]
    simp only
    have e3 : pre.length + p.1.length + p.2.length = (pre ++ (p.1 ++ p.2)).length := by simp; omega
    rw [e3, ih, glueF_cons]
    simp only [List.length_append, Prod.mk.injEq]
    omega
theorem spans_one {pre N row post L : List UInt8} {ps : List (List UInt8 × List UInt8)} {k : Nat} (hG : Glue ps row) (hN : nameOk N = true) (hN2 : ∀ x ∈ N, x ≠ 58) (hN3 : clean N) (hp : ∀ c t, post = c :: t → isW c = false)
    (hL : L = pre ++ (N ++ 58 :: (glueF ps row ++ ([13, 10] ++ post)))) :
    spansF (k + 1) L pre.length = ((N, glueF ps row) :: (spansF k L (pre.length + N.length + 1 + (glueF ps row).length + 2)).1, (spansF k L (pre.length + N.length + 1 + (glueF ps row).length + 2)).2) := by
  have h58 : clean [58] := by simp [clean]
  have key : ∃ r0 later : Nat, lnEnd L pre.length L.length = (pre.length + N.length + 1 + r0, later) ∧ contF (L.length + 1) L (pre.length + N.length + 1 + r0) later = (pre.length + N.length + 1 + (glueF ps row).length, pre.length + N.length + 1 + (glueF ps row).length + 2) := by
    cases ps with
    | nil =>
      have e : glueF [] row = row := rfl
      rw [e] at hL ⊢
      have e2 : L = pre ++ ((N ++ ([58] ++ row)) ++ ([13, 10] ++ post)) := by rw [hL]; simp
      have hl : lnEnd L pre.length L.length = (pre.length + (N ++ ([58] ++ row)).length, pre.length + (N ++ ([58] ++ row)).length + 2) := by
        rw [e2]; exact lnEnd_mid (clean_append hN3 (clean_append h58 hG.last)) (.inl rfl)
      refine ⟨row.length, pre.length + N.length + 1 + row.length + 2, ?_, ?_⟩
      · rw [hl]; simp only [List.length_append, List.length_cons, List.length_nil, Prod.mk.injEq]; omega
      · refine contF_stop fun hlt => ?_
        cases post with
        | nil => exfalso; rw [e2] at hlt; simp at hlt; omega
        | cons d u =>
          have e3 : L = (pre ++ (N ++ ([58] ++ (row ++ [13, 10])))) ++ d :: u := by rw [e2]; simp
          have e4 : pre.length + N.length + 1 + row.length + 2 = (pre ++ (N ++ ([58] ++ (row ++ [13, 10])))).length := by simp; omega
          rw [e4, e3, List.getD_eq_getElem?_getD, List.getElem?_append_right (Nat.le_refl _), Nat.sub_self]
          exact hp d u rfl
    | cons p ps =>
      have hs := hG.seps p (.head _)
      have hc := hG.cls p (.head _)
      have e2 : L = pre ++ ((N ++ ([58] ++ p.1)) ++ (p.2 ++ (glueF ps row ++ ([13, 10] ++ post)))) := by rw [hL, glueF_cons]; simp
      have hl : lnEnd L pre.length L.length = (pre.length + (N ++ ([58] ++ p.1)).length, pre.length + (N ++ ([58] ++ p.1)).length + p.2.length) := by
        rw [e2]; exact lnEnd_mid (clean_append hN3 (clean_append h58 hc)) hs
      have hlat := hG.later
      simp only [List.map_cons, List.cons_append, List.tail_cons, List.mem_append, List.mem_singleton] at hlat
      have hlen : ps.length < L.length + 1 := by
        have h2 : ∀ (qs : List (List UInt8 × List UInt8)), (∀ p ∈ qs, startsW p.1) → qs.length ≤ (glueF qs row).length := by
          intro qs
          induction qs with
          | nil => simp
          | cons q qs ih =>
            intro h3
            have h4 := ih fun x hx => h3 x (.tail _ hx)
            obtain ⟨c, t, h5, -⟩ := h3 q (.head _)
            rw [glueF_cons, h5]
            simp only [List.length_append, List.length_cons]
            omega
        have h3 := h2 ps fun q hq => hlat q.1 (.inl (List.mem_map_of_mem hq))
        rw [e2]
        simp only [List.length_append]
        omega
      have hcg := cont_go (post := post) hG.last (hlat row (.inr rfl)) hp ps (L.length + 1) (pre.length + N.length + 1 + p.1.length) (pre ++ ((N ++ ([58] ++ p.1)) ++ p.2)) L (fun q hq => hG.seps q (.tail _ hq)) (fun q hq => hG.cls q (.tail _ hq)) (fun q hq => hlat q.1 (.inl (List.mem_map_of_mem hq))) hlen (by rw [e2]; simp)
      refine ⟨p.1.length, (pre ++ ((N ++ ([58] ++ p.1)) ++ p.2)).length, ?_, ?_⟩
      · rw [hl]; simp only [List.length_append, List.length_cons, List.length_nil, Prod.mk.injEq]; omega
      · rw [hcg, glueF_cons]
        simp only [List.length_append, List.length_cons, List.length_nil, Prod.mk.injEq]
        omega
  obtain ⟨r0, later, hl, hc⟩ := key
  have hcol : colI L pre.length (pre.length + N.length + 1 + r0) = ((pre.length + N.length : Nat) : Int) := by
    unfold colI
    have hf : fnd L 58 pre.length (pre.length + N.length + 1 + r0) = some (pre.length + N.length) := by
      rw [hL]; exact fnd_mid hN2 (by omega)
    rw [hf]
    simp only
    have e : (L.drop pre.length).take (pre.length + N.length - pre.length) = N := by
      rw [hL, List.drop_left, Nat.add_sub_cancel_left, List.take_left]
    rw [e, if_pos hN]
  have hlt : pre.length < L.length := by rw [hL]; simp only [List.length_append, List.length_cons]; omega
  have hsome := spansF_some (k := k) (q := (pre.length + N.length + 1 + (glueF ps row).length, pre.length + N.length + 1 + (glueF ps row).length + 2)) hlt (by rw [hl]; simp only; omega) (by rw [hl]; exact hcol) (by rw [hl]; exact hc)
  rw [hsome]
  have e1 : (L.drop pre.length).take (pre.length + N.length - pre.length) = N := by
    rw [hL, List.drop_left, Nat.add_sub_cancel_left, List.take_left]
  have e2 : (L.drop (pre.length + N.length + 1)).take (pre.length + N.length + 1 + (glueF ps row).length - (pre.length + N.length + 1)) = glueF ps row := by
    have e3 : L = (pre ++ (N ++ [58])) ++ (glueF ps row ++ ([13, 10] ++ post)) := by rw [hL]; simp
    have e4 : pre.length + N.length + 1 = (pre ++ (N ++ [58])).length := by simp; omega
    rw [e4, e3, List.drop_left, Nat.add_sub_cancel_left, List.take_left]
  simp only [e1, e2]
theorem spans_blank {pre post L : List UInt8} {k : Nat} (hL : L = pre ++ ([13, 10] ++ post)) : spansF (k + 1) L pre.length = ([], pre.length + 2) := by
  have hl : lnEnd L pre.length L.length = (pre.length + 0, pre.length + 0 + 2) := by
    rw [hL]; exact lnEnd_mid (r := []) (sep := [13, 10]) (fun _ h => nomatch h) (.inl rfl)
  have := spansF_blank (k := k) (l := L) (h := pre.length) (by rw [hL]; simp) (by rw [hl]; rfl)
  rw [this, hl]
theorem head_two {ps : List (List UInt8 × List UInt8)} {row : List UInt8} (hG : Glue ps row) :
    spansF ((([88, 45, 97, 58] ++ glueF ps row) ++ [13, 10, 84, 111, 58, 32, 98, 13, 10, 13, 10, 99, 58, 32, 100]).length + 1) (([88, 45, 97, 58] ++ glueF ps row) ++ [13, 10, 84, 111, 58, 32, 98, 13, 10, 13, 10, 99, 58, 32, 100]) 0 = ([([88, 45, 97], glueF ps row), ([84, 111], [32, 98])], 4 + (glueF ps row).length + 2 + 7 + 2) := by
  generalize hL : ([88, 45, 97, 58] ++ glueF ps row) ++ [13, 10, 84, 111, 58, 32, 98, 13, 10, 13, 10, 99, 58, 32, 100] = L
  obtain ⟨k, hk⟩ : ∃ k, L.length = k + 2 := ⟨L.length - 2, by have h2 : 2 ≤ L.length := (by rw [← hL]; simp); omega⟩
  rw [hk]
  have h1 := spans_one (k := k + 2) (pre := []) (N := [88, 45, 97]) (post := [84, 111, 58, 32, 98, 13, 10, 13, 10, 99, 58, 32, 100]) (L := L) hG (by decide) (by decide) (by simp [clean]) (fun c t h => by injection h with h; rw [← h]; decide) (by rw [← hL]; simp)
  have h2 := spans_one (k := k + 1) (pre := [88, 45, 97, 58] ++ glueF ps row ++ [13, 10]) (N := [84, 111]) (ps := []) (row := [32, 98]) (post := [13, 10, 99, 58, 32, 100]) (L := L) ⟨(fun _ h => nomatch h), (fun _ h => nomatch h), by simp [clean], (fun _ h => nomatch h)⟩ (by decide) (by decide) (by simp [clean]) (fun c t h => by injection h with h; rw [← h]; decide) (by rw [← hL]; simp [glueF])
  have h3 := spans_blank (k := k) (pre := [88, 45, 97, 58] ++ glueF ps row ++ [13, 10, 84, 111, 58, 32, 98, 13, 10]) (post := [99, 58, 32, 100]) (L := L) (by rw [← hL]; simp)
  have p1 : ([] : List UInt8).length + [(88 : UInt8), 45, 97].length + 1 + (glueF ps row).length + 2 = ([88, 45, 97, 58] ++ glueF ps row ++ [13, 10]).length := by
    simp only [List.length_append, List.length_cons, List.length_nil] <;> omega
  have p2 : ([88, 45, 97, 58] ++ glueF ps row ++ [13, 10]).length + [(84 : UInt8), 111].length + 1 + (glueF [] [32, 98]).length + 2 = ([88, 45, 97, 58] ++ glueF ps row ++ [13, 10, 84, 111, 58, 32, 98, 13, 10]).length := by
    have e : glueF [] [32, 98] = [32, 98] := rfl
    rw [e]
    simp only [List.length_append, List.length_cons, List.length_nil] <;> omega
  rw [p1] at h1
  rw [p2, h3] at h2
  rw [h2] at h1
  refine h1.trans ?_
  have e : glueF [] [32, 98] = [32, 98] := rfl
  rw [e]
  simp only [List.length_append, List.length_cons, List.length_nil]
theorem head_one {ps : List (List UInt8 × List UInt8)} {row : List UInt8} (hG : Glue ps row) :
    spansF ((([88, 45, 97, 58] ++ glueF ps row) ++ [13, 10, 13, 10]).length + 1) (([88, 45, 97, 58] ++ glueF ps row) ++ [13, 10, 13, 10]) 0 = ([([88, 45, 97], glueF ps row)], (glueF ps row).length + 8) := by
  generalize hL : ([88, 45, 97, 58] ++ glueF ps row) ++ [13, 10, 13, 10] = L
  obtain ⟨k, hk⟩ : ∃ k, L.length = k + 1 := ⟨L.length - 1, by have h2 : 1 ≤ L.length := (by rw [← hL]; simp); omega⟩
  rw [hk]
  have h1 := spans_one (k := k + 1) (pre := []) (N := [88, 45, 97]) (post := [13, 10]) (L := L) hG (by decide) (by decide) (by simp [clean]) (fun c t h => by injection h with h; rw [← h]; decide) (by rw [← hL]; simp)
  have h3 := spans_blank (k := k) (pre := [88, 45, 97, 58] ++ glueF ps row ++ [13, 10]) (post := []) (L := L) (by rw [← hL]; simp)
  have p1 : ([] : List UInt8).length + [(88 : UInt8), 45, 97].length + 1 + (glueF ps row).length + 2 = ([88, 45, 97, 58] ++ glueF ps row ++ [13, 10]).length := by
    simp only [List.length_append, List.length_cons, List.length_nil] <;> omega
  rw [p1, h3] at h1
  refine h1.trans ?_
  simp only [List.length_append, List.length_cons, List.length_nil, Prod.mk.injEq, true_and]
  omega
end
section
open PySem PySem.W PyProof.Rows
set_option maxRecDepth 100000
/-! ## the plain law: folded and unfolded again -/
theorem mem_dropW {p : UInt8 → Bool} {l : List UInt8} {x : UInt8} (h : x ∈ l.dropWhile p) : x ∈ l := (List.dropWhile_sublist p).subset h
theorem mem_strip {l : List UInt8} {x : UInt8} (h : x ∈ stripW l) : x ∈ l := by
  unfold stripW at h
  rw [List.mem_reverse] at h
  have h1 := mem_dropW h
  rw [List.mem_reverse] at h1
  exact mem_dropW h1
theorem dropW_idem {p : UInt8 → Bool} : ∀ l : List UInt8, (l.dropWhile p).dropWhile p = l.dropWhile p
  | [] => rfl
  | c :: t => by
    rw [List.dropWhile_cons]
    split
    · exact dropW_idem t
    · rename_i h
      rw [List.dropWhile_cons, if_neg h]
theorem dropW_id_or {p : UInt8 → Bool} {l : List UInt8} (h : l.dropWhile p = l) : l = [] ∨ ∃ c t, l = c :: t ∧ p c = false := by
  cases l with
  | nil => exact .inl rfl
  | cons c t =>
    refine .inr ⟨c, t, rfl, ?_⟩
    cases hc : p c with
    | false => rfl
    | true =>
      rw [List.dropWhile_cons, if_pos hc] at h
      have := congrArg List.length h
      have h2 := (List.dropWhile_sublist (l := t) p).length_le
      rw [this, List.length_cons] at h2
      omega
/-- what is stripped at its end still begins as it did -/
theorem lead_keep {d : List UInt8} (h : d.dropWhile isW = d) : ((d.reverse.dropWhile isW).reverse).dropWhile isW = (d.reverse.dropWhile isW).reverse := by
  rcases dropW_id_or h with rfl | ⟨c, t, rfl, hc⟩
  · rfl
  · have e : ∃ u, ((c :: t).reverse.dropWhile isW).reverse = c :: u := by
      have e1 : ∀ r : List UInt8, ∃ u, ((r ++ [c]).dropWhile isW) = u ++ [c] := by
        intro r
        induction r with
        | nil => exact ⟨[], by rw [List.nil_append, List.dropWhile_cons, if_neg (by rw [hc]; decide)]⟩
        | cons x r ih =>
          rw [List.cons_append, List.dropWhile_cons]
          split
          · exact ih
          · exact ⟨x :: r, rfl⟩
      obtain ⟨u, hu⟩ := e1 t.reverse
      rw [List.reverse_cons, hu]
      exact ⟨u.reverse, by simp⟩
    obtain ⟨u, hu⟩ := e
    rw [hu, List.dropWhile_cons, if_neg (by rw [hc]; decide)]
theorem strip_idem (l : List UInt8) : stripW (stripW l) = stripW l := by
  unfold stripW
  rw [lead_keep (dropW_idem l), List.reverse_reverse, dropW_idem]
theorem strip_cons {c : List UInt8} : stripW (32 :: c) = stripW c := by
  unfold stripW
  have e : (32 :: c).dropWhile isW = c.dropWhile isW := by
    rw [List.dropWhile_cons, if_pos (by decide)]
  rw [e]
theorem skp_stops {p : UInt8 → Bool} {l : List UInt8} {s : Nat} (h : skp p l s < l.length) : p (l.getD (skp p l s) 0) = false := by
  unfold skp at h ⊢
  have e : l.drop (s + ((l.drop s).takeWhile p).length) = (l.drop s).dropWhile p := by
    rw [← List.drop_drop]
    have e2 : l.drop s = (l.drop s).takeWhile p ++ (l.drop s).dropWhile p := (List.takeWhile_append_dropWhile).symm
    conv => lhs; rw [e2]
    rw [show ((l.drop s).takeWhile p ++ (l.drop s).dropWhile p).takeWhile p = (l.drop s).takeWhile p by rw [← e2], List.drop_left]
  have h1 : ((l.drop s).dropWhile p)[0]? = some (l.getD (s + ((l.drop s).takeWhile p).length) 0) := by
    rw [← e, List.getElem?_drop, Nat.add_zero, List.getD_eq_getElem?_getD, List.getElem?_eq_getElem h]
    rfl
  cases hd : (l.drop s).dropWhile p with
  | nil => rw [hd] at h1; cases h1
  | cons c t =>
    rw [hd] at h1
    injection h1 with h1
    rw [← h1]
    have h2 := dropW_idem (p := p) (l.drop s)
    rw [hd] at h2
    rcases dropW_id_or h2 with h3 | ⟨c', t', h3, h4⟩
    · cases h3
    · injection h3 with h3 _
      rw [h3]; exact h4
theorem pieces_prog {l : List UInt8} {a : Nat} (h : a < l.length) : a < skp (fun c => !isW c) l (skp isW l a) := by
  have hb := skp_le (p := isW) (l := l) (a := a) (by omega)
  have hc := skp_le (p := fun c => !isW c) (l := l) hb.2
  cases hw : isW (l.getD a 0) with
  | true =>
    have := skp_step h hw
    have h2 := (skp_le (p := isW) (l := l) (a := a + 1) (by omega)).1
    omega
  | false =>
    have h1 := skp_stop h hw
    rw [h1]
    have := skp_step (p := fun c => !isW c) h (by rw [hw]; rfl)
    have h2 := (skp_le (p := fun c => !isW c) (l := l) (a := a + 1) (by omega)).1
    omega
theorem pieces_flat : ∀ (k : Nat) (l : List UInt8) (a : Nat), a ≤ l.length → l.length - a < k → (piecesF k l a).flatten = l.drop a
  | 0, _, _, _, h => nomatch h
  | k + 1, l, a, ha, hk => by
    rw [piecesF]
    split
    · rename_i h
      have hp := pieces_prog h
      have hb := skp_le (p := isW) (l := l) ha
      have hc := skp_le (p := fun c => !isW c) (l := l) hb.2
      rw [List.flatten_cons, pieces_flat k l _ hc.2 (by omega)]
      have e : l.drop (skp (fun c => !isW c) l (skp isW l a)) = (l.drop a).drop (skp (fun c => !isW c) l (skp isW l a) - a) := by
        rw [List.drop_drop]
        congr 1
        omega
      rw [e, List.take_append_drop]
    · rename_i h
      rw [List.drop_eq_nil_of_le (by omega)]
      rfl
theorem pieces_white : ∀ (k : Nat) (l : List UInt8) (a : Nat), a ≤ l.length → (a < l.length → isW (l.getD a 0) = true) → ∀ x ∈ piecesF k l a, startsW x
  | 0, _, _, _, _ => fun _ h => nomatch h
  | k + 1, l, a, ha, hw => by
    rw [piecesF]
    split
    · rename_i h
      have hp := pieces_prog h
      have hb := skp_le (p := isW) (l := l) ha
      have hc := skp_le (p := fun c => !isW c) (l := l) hb.2
      intro x hx
      rcases List.mem_cons.mp hx with rfl | hx
      · have e : l.drop a = l.getD a 0 :: l.drop (a + 1) := by
          rw [List.getD_eq_getElem?_getD, List.getElem?_eq_getElem h]
          exact List.drop_eq_getElem_cons h
        obtain ⟨n, hn⟩ : ∃ n, skp (fun c => !isW c) l (skp isW l a) - a = n + 1 := ⟨skp (fun c => !isW c) l (skp isW l a) - a - 1, by omega⟩
        rw [e, hn, List.take_succ_cons]
        exact ⟨_, _, rfl, hw h⟩
      · refine pieces_white k l _ hc.2 (fun h2 => ?_) x hx
        have := skp_stops h2
        simpa using this
    · exact fun _ h => nomatch h
theorem pieces_tail {k : Nat} {l : List UInt8} {a : Nat} (ha : a ≤ l.length) : ∀ x ∈ (piecesF k l a).tail, startsW x := by
  cases k with
  | zero => exact fun _ h => nomatch h
  | succ k =>
    rw [piecesF]
    split
    · have hb := skp_le (p := isW) (l := l) ha
      have hc := skp_le (p := fun c => !isW c) (l := l) hb.2
      rw [List.tail_cons]
      refine pieces_white k l _ hc.2 (fun h2 => ?_)
      have := skp_stops h2
      simpa using this
    · exact fun _ h => nomatch h
theorem pieces_clean {l : List UInt8} (hl : clean l) : ∀ (k : Nat) (a : Nat), ∀ x ∈ piecesF k l a, clean x
  | 0, _ => fun _ h => nomatch h
  | k + 1, a => by
    rw [piecesF]
    split
    · intro x hx
      rcases List.mem_cons.mp hx with rfl | hx
      · exact fun c hc => hl c (List.mem_of_mem_drop (List.mem_of_mem_take hc))
      · exact pieces_clean hl k _ x hx
    · exact fun _ h => nomatch h
/-- rows that begin with a name and its colon, the later ones with white -/
def RowsOk (nmc : List UInt8) (rows : List (List UInt8)) (body : List UInt8) : Prop :=
  ∃ x rest, rows = (nmc ++ x) :: rest ∧ (∀ r ∈ rest, startsW r ∧ clean r) ∧ clean x ∧ x ++ rest.flatten = body
theorem rowsOk_step {nmc more body : List UInt8} {R : List (List UInt8)} {row : List UInt8} (h : RowsOk nmc (R ++ [row]) body) (h1 : startsW more) (h2 : clean more) : RowsOk nmc (R ++ [row] ++ [more]) (body ++ more) ∧ RowsOk nmc (R ++ [row ++ more]) (body ++ more) := by
  obtain ⟨x, rest, e, hr, hx, hb⟩ := h
  constructor
  · refine ⟨x, rest ++ [more], by rw [e]; rfl, fun r h => ?_, hx, by rw [← hb]; simp⟩
    rcases List.mem_append.mp h with h | h
    · exact hr r h
    · rw [List.mem_singleton.mp h]; exact ⟨h1, h2⟩
  · cases R with
    | nil =>
      rw [List.nil_append] at e
      injection e with e1 e2
      subst e1 e2
      refine ⟨x ++ more, [], by simp, (fun _ h => nomatch h), clean_append hx h2, by rw [← hb]; simp⟩
    | cons r0 R =>
      rw [List.cons_append] at e
      injection e with e1 e2
      subst e1 e2
      refine ⟨x, R ++ [row ++ more], by simp, fun r h => ?_, hx, by rw [← hb]; simp⟩
      rcases List.mem_append.mp h with h | h
      · exact hr r (List.mem_append_left _ h)
      · rw [List.mem_singleton.mp h]
        have := hr row (List.mem_append_right _ (List.mem_singleton.mpr rfl))
        exact ⟨startsW_append this.1, clean_append this.2 h2⟩
theorem foldS_ok {nmc body x : List UInt8} {wd : Int} {i : Nat} {st : List (List UInt8) × List UInt8} (h : RowsOk nmc (st.1 ++ [st.2]) body) (h1 : startsW (if i > 0 then x else 32 :: x)) (h2 : clean (if i > 0 then x else 32 :: x)) :
    RowsOk nmc ((foldS wd st (x, i)).1 ++ [(foldS wd st (x, i)).2]) (body ++ (if i > 0 then x else 32 :: x)) := by
  have h3 := rowsOk_step h h1 h2
  have e : foldS wd st (x, i) = (if ((st.2.length : Int) + ((if i > 0 then x else 32 :: x).length : Int)) > wd then (st.1 ++ [st.2], (if i > 0 then x else 32 :: x)) else (st.1, st.2 ++ (if i > 0 then x else 32 :: x))) := rfl
  rw [e]
  generalize (if i > 0 then x else 32 :: x) = more at h1 h2 h3 ⊢
  split
  · exact h3.1
  · exact h3.2
theorem fold_go {nmc : List UInt8} {wd : Int} : ∀ (pcs : List (List UInt8)) (n : Nat) (st : List (List UInt8) × List UInt8) (body : List UInt8), 0 < n → (∀ x ∈ pcs, startsW x ∧ clean x) → RowsOk nmc (st.1 ++ [st.2]) body →
    RowsOk nmc (((pcs.zipIdx n).foldl (foldS wd) st).1 ++ [((pcs.zipIdx n).foldl (foldS wd) st).2]) (body ++ pcs.flatten)
  | [], n, st, body, _, _, h => by simpa using h
  | x :: pcs, n, st, body, hn, hp, h => by
    rw [List.zipIdx_cons, List.foldl_cons, List.flatten_cons, ← List.append_assoc]
    have hx := hp x (.head _)
    have h1 := foldS_ok (wd := wd) (i := n) (x := x) h (by rw [if_pos hn]; exact hx.1) (by rw [if_pos hn]; exact hx.2)
    rw [if_pos hn] at h1
    exact fold_go pcs (n + 1) _ _ (by omega) (fun y hy => hp y (.tail _ hy)) h1
theorem folded_rows {nm l : List UInt8} {wd : Int} (hl : clean l) :
    RowsOk (nm ++ [58]) (((piecesF ((stripW l).length + 1) (stripW l) 0).zipIdx.foldl (foldS wd) ([], nm ++ [58])).1 ++ [((piecesF ((stripW l).length + 1) (stripW l) 0).zipIdx.foldl (foldS wd) ([], nm ++ [58])).2]) (if stripW l = [] then [] else 32 :: stripW l) := by
  have hs : clean (stripW l) := fun c hc => hl c (mem_strip hc)
  have hf := pieces_flat ((stripW l).length + 1) (stripW l) 0 (by omega) (by omega)
  have ht := pieces_tail (k := (stripW l).length + 1) (l := stripW l) (a := 0) (by omega)
  have hc := pieces_clean hs ((stripW l).length + 1) 0
  have h0 : RowsOk (nm ++ [58]) (([] : List (List UInt8)) ++ [nm ++ [58]]) [] := ⟨[], [], by simp, (fun _ h => nomatch h), (fun _ h => nomatch h), rfl⟩
  rw [List.drop_zero] at hf
  cases hp : piecesF ((stripW l).length + 1) (stripW l) 0 with
  | nil =>
    rw [hp, List.flatten_nil] at hf
    rw [if_pos hf.symm]
    exact h0
  | cons x pcs =>
    rw [hp] at hf ht hc
    rw [List.tail_cons] at ht
    have hne : stripW l ≠ [] := by
      intro e
      rw [e] at hp
      simp [piecesF] at hp
    rw [if_neg hne, List.zipIdx_cons, List.foldl_cons]
    have h32 : clean (32 :: x) := fun c h => by
      rcases List.mem_cons.mp h with rfl | h
      · decide
      · exact hc x (.head _) c h
    have h1 := foldS_ok (wd := wd) (i := 0) (x := x) (st := ([], nm ++ [58])) h0 (by rw [if_neg (by omega)]; exact ⟨_, _, rfl, by decide⟩) (by rw [if_neg (by omega)]; exact h32)
    rw [if_neg (by omega)] at h1
    have h2 := fold_go (wd := wd) pcs 1 _ _ (by omega) (fun y hy => ⟨ht y hy, hc y (.tail _ hy)⟩) h1
    have e : [] ++ 32 :: x ++ pcs.flatten = 32 :: stripW l := by rw [← hf]; simp
    rw [e] at h2
    exact h2
theorem rows_pairs : ∀ (rest : List (List UInt8)) (x : List UInt8), ∃ ps row, x ++ (rest.flatMap fun y => [13, 10] ++ y) = glueF ps row ∧ ps.map (·.1) ++ [row] = x :: rest ∧ (∀ p ∈ ps, p.2 = [13, 10])
  | [], x => ⟨[], x, by simp [glueF], rfl, fun _ h => nomatch h⟩
  | y :: rest, x => by
    obtain ⟨ps, row, h1, h2, h3⟩ := rows_pairs rest y
    refine ⟨(x, [13, 10]) :: ps, row, ?_, ?_, fun p hp => ?_⟩
    · rw [glueF_cons, ← h1]; simp
    · rw [List.map_cons, List.cons_append, h2]
    · rcases List.mem_cons.mp hp with rfl | hp
      · rfl
      · exact h3 p hp
theorem rawF_glue {nm l : List UInt8} {wd : Int} (hl : clean l) : ∃ ps row, rawF nm l wd = glueF ps row ∧ Glue ps row ∧ bodyF ps row = (if stripW l = [] then [] else 32 :: stripW l) := by
  obtain ⟨x, rest, e, hr, hx, hb⟩ := folded_rows (nm := nm) (wd := wd) hl
  obtain ⟨ps, row, h1, h2, h3⟩ := rows_pairs rest x
  have hmem : ∀ r ∈ ps.map (·.1) ++ [row], clean r := by
    rw [h2]
    intro r h
    rcases List.mem_cons.mp h with rfl | h
    · exact hx
    · exact (hr r h).2
  refine ⟨ps, row, ?_, ⟨fun p hp => .inl (h3 p hp), fun p hp => hmem _ (List.mem_append_left _ (List.mem_map_of_mem hp)), hmem _ (List.mem_append_right _ (List.mem_singleton.mpr rfl)), ?_⟩, ?_⟩
  · have ef : foldedL nm l wd = (nm ++ [58]) ++ ((x ++ (rest.flatMap fun y => [13, 10] ++ y)) ++ [13, 10]) := by
      unfold foldedL
      rw [e]
      simp [joinL]
    unfold rawF
    have e1 : nm.length + 1 = (nm ++ [58]).length := by simp
    rw [e1, ef, List.drop_left, ← h1]
    have e2 : ((nm ++ [58]) ++ ((x ++ (rest.flatMap fun y => [13, 10] ++ y)) ++ [13, 10])).length - 2 - (nm ++ [58]).length = (x ++ (rest.flatMap fun y => [13, 10] ++ y)).length := by
      simp only [List.length_append, List.length_cons, List.length_nil]
      omega
    rw [e2, List.take_left]
  · rw [h2, List.tail_cons]
    exact fun r h => (hr r h).1
  · have e3 : bodyF ps row = (ps.map (·.1) ++ [row]).flatten := by simp [bodyF]
    rw [e3, h2, List.flatten_cons, hb]
theorem rawF_back {nm c : List UInt8} {wd : Int} (hl : clean c) (hs : stripW c = c) : stripW (rowsF ((rawF nm c wd).length + 1) (rawF nm c wd) 0).flatten = c := by
  obtain ⟨ps, row, h1, h2, h3⟩ := rawF_glue (nm := nm) (wd := wd) hl
  rw [h1, rows_glue h2]
  have e3 : (ps.map (·.1) ++ [row]).flatten = bodyF ps row := by simp [bodyF]
  rw [e3, h3]
  split
  · rename_i h
    rw [hs] at h
    rw [h]
    rfl
  · rw [strip_cons, strip_idem, hs]
theorem rawF_len {nm c : List UInt8} {wd : Int} (hl : clean c) (hc : c.length ≤ 100) : (rawF nm c wd).length ≤ 1000 := by
  obtain ⟨ps, row, h1, h2, h3⟩ := rawF_glue (nm := nm) (wd := wd) hl
  rw [h1]
  have a1 := length_glueF (row := row) h2.seps
  have hs : (stripW c).length ≤ c.length := by
    unfold stripW
    rw [List.length_reverse]
    have b1 := (List.dropWhile_sublist (l := (c.dropWhile isW).reverse) isW).length_le
    have b2 := (List.dropWhile_sublist (l := c) isW).length_le
    rw [List.length_reverse] at b1
    omega
  have a2 : (bodyF ps row).length ≤ 101 := by
    rw [h3]
    split
    · simp
    · rw [List.length_cons]; omega
  have a3 : ∀ (qs : List (List UInt8)), (∀ r ∈ qs, startsW r) → qs.length ≤ qs.flatten.length := by
    intro qs
    induction qs with
    | nil => simp
    | cons q qs ih =>
      intro h
      have i1 := ih fun r hr => h r (.tail _ hr)
      obtain ⟨d, t, e, -⟩ := h q (.head _)
      rw [List.flatten_cons, e]
      simp only [List.length_append, List.length_cons]
      omega
  have a4 : ps.length ≤ 101 := by
    have b1 := a3 _ h2.later
    have b2 : (ps.map (·.1) ++ [row]).tail.length = ps.length := by simp
    have b3 : (ps.map (·.1) ++ [row]).tail.flatten.length ≤ (bodyF ps row).length := by
      have e3 : bodyF ps row = (ps.map (·.1) ++ [row]).flatten := by simp [bodyF]
      rw [e3]
      cases h : ps.map (·.1) ++ [row] with
      | nil => simp
      | cons q qs => rw [List.tail_cons, List.flatten_cons, List.length_append]; omega
    omega
  omega
end
section
open PySem PySem.W PyProof.Rows
set_option maxRecDepth 100000
/-! ## what the law's end asks -/
set_option genSizeOf false in
set_option genInjectivity false in
structure EndOk (raw c row : List UInt8) (tw : Tok) (rs : BT) : Prop where
  rows : (rs ++ [(row, tw)]).map (·.1) = rowsF (raw.length + 1) raw 0
  unf : stripW (rowsF (raw.length + 1) raw 0).flatten = c
  rlen : raw.length ≤ 16777216
  two : spansF ((([88, 45, 97, 58] ++ raw) ++ [13, 10, 84, 111, 58, 32, 98, 13, 10, 13, 10, 99, 58, 32, 100]).length + 1) (([88, 45, 97, 58] ++ raw) ++ [13, 10, 84, 111, 58, 32, 98, 13, 10, 13, 10, 99, 58, 32, 100]) 0 = ([([88, 45, 97], raw), ([84, 111], [32, 98])], 4 + raw.length + 2 + 7 + 2)
  len1 : (([88, 45, 97, 58] ++ raw) ++ [13, 10, 84, 111, 58, 32, 98, 13, 10, 13, 10, 99, 58, 32, 100]).length ≤ 100000
  clen : c.length ≤ 1000
  r200 : raw.length ≤ 200
  len4 : ∀ wd : Int, (rawF [88, 45, 97] c wd).length ≤ 1000
  c10 : c.contains 10 = false
  c13 : c.contains 13 = false
  back : ∀ wd : Int, stripW (rowsF ((rawF [88, 45, 97] c wd).length + 1) (rawF [88, 45, 97] c wd) 0).flatten = c
  one : ∀ wd : Int, spansF ((([88, 45, 97, 58] ++ rawF [88, 45, 97] c wd) ++ [13, 10, 13, 10]).length + 1) (([88, 45, 97, 58] ++ rawF [88, 45, 97] c wd) ++ [13, 10, 13, 10]) 0 = ([([88, 45, 97], rawF [88, 45, 97] c wd)], (rawF [88, 45, 97] c wd).length + 8)
  len2 : ∀ wd : Int, (([88, 45, 97, 58] ++ rawF [88, 45, 97] c wd) ++ [13, 10, 13, 10]).length ≤ 100000
  len3 : ∀ wd : Int, (rawF [88, 45, 97] c wd).length ≤ 16777216
  place : ((4 + raw.length + 2 + 7 + 2 : Nat) : Int) = 4 + (raw.length : Int) + 2 + 7 + 2
  behind : ∀ wd : Int, (((rawF [88, 45, 97] c wd).length + 8 : Nat) : Int) = ((rawF [88, 45, 97] c wd).length : Int) + 8
theorem end_ok {raw c row : List UInt8} {tw : Tok} {rs ps : BT} {pairs : List (List UInt8 × List UInt8)} (hG : Glue pairs row) (hraw : raw = glueF pairs row) (hrs : rs.map (·.1) = pairs.map (·.1)) (hbody : bodyF pairs row = (ps.map (·.1)).flatten) (hpm : ∀ p ∈ ps, p.1 ∈ PCS) (hpl : pairs.length ≤ ps.length) (hps : ps.length ≤ 10)
    (hbs : stripW ((ps.map (·.1)).flatten) = c) : EndOk raw c row tw rs := by
  have hR : rowsF (raw.length + 1) raw 0 = pairs.map (·.1) ++ [row] := by rw [hraw]; exact rows_glue hG
  have hfl : (pairs.map (·.1) ++ [row]).flatten = (ps.map (·.1)).flatten := by rw [← hbody]; simp [bodyF]
  have hmem : ∀ x ∈ ps.map (·.1), x ∈ PCS := fun x hx => by
    obtain ⟨q, hq, rfl⟩ := List.mem_map.mp hx
    exact hpm q hq
  have hblen : ((ps.map (·.1)).flatten).length ≤ 30 := by
    have a1 := flat_le hmem
    rw [List.length_map] at a1
    omega
  have hcc : clean c := by
    intro d hd
    rw [← hbs] at hd
    have h1 := mem_strip hd
    obtain ⟨x, hx, hdx⟩ := List.mem_flatten.mp h1
    exact (pcs_clean (hmem x hx)).1 d hdx
  have hcl : c.length ≤ 100 := by
    rw [← hbs]
    unfold stripW
    rw [List.length_reverse]
    have b1 := (List.dropWhile_sublist (l := (((ps.map (·.1)).flatten).dropWhile isW).reverse) isW).length_le
    have b2 := (List.dropWhile_sublist (l := (ps.map (·.1)).flatten) isW).length_le
    rw [List.length_reverse] at b1
    omega
  have hsc : stripW c = c := by rw [← hbs, strip_idem]
  have hrl : raw.length ≤ 200 := by
    have a1 := length_glueF (row := row) hG.seps
    rw [hbody] at a1
    rw [hraw]
    omega
  have hno : ∀ d : UInt8, (d = 10 ∨ d = 13) → c.contains d = false := fun d hd => by
    cases h : c.contains d with
    | false => rfl
    | true =>
      have := hcc d (by simpa using h)
      rcases hd with rfl | rfl
      · exact absurd rfl this.1
      · exact absurd rfl this.2
  have hw : ∀ wd : Int, (rawF [88, 45, 97] c wd).length ≤ 1000 := fun wd => rawF_len hcc hcl
  refine ⟨?_, ?_, by omega, by rw [hraw]; exact head_two hG, ?_, by omega, hrl, hw, hno 10 (.inl rfl), hno 13 (.inr rfl), fun wd => rawF_back hcc hsc, fun wd => ?_, fun wd => ?_, fun wd => ?_, by omega, fun wd => by omega⟩
  · rw [hR, List.map_append, hrs]; rfl
  · rw [hR, hfl, hbs]
  · simp only [List.length_append, List.length_cons, List.length_nil]; omega
  · obtain ⟨ps', row', h1, h2, h3⟩ := rawF_glue (nm := [88, 45, 97]) (wd := wd) hcc
    rw [h1]
    exact head_one h2
  · have := hw wd
    simp only [List.length_append, List.length_cons, List.length_nil]; omega
  · have := hw wd
    omega
theorem lit_ok : stripW (rowsF (([32, 97, 13, 10, 32, 98, 10, 9, 99, 32] : List UInt8).length + 1) [32, 97, 13, 10, 32, 98, 10, 9, 99, 32] 0).flatten = [97, 32, 98, 9, 99] := by decide +kernel
section
variable {prog : Program} {w : World} {A : Around} {E : Value → Shared → Prop} {s : Shared} {a b : Int} {t u : Tok} {Q : Value → Shared → Prop}
theorem int_ne_same (e : a = b) (h : Q (.bool false) s) : wpAny (model prog w) A (compareOp .NotEq (.int a t) (.int b u)) Q E s := by
  subst e
  refine ne_int ?_
  rw [bne_self_eq_false]
  exact h
theorem int_eq_same (e : a = b) (h : Q (.bool true) s) : wpAny (model prog w) A (compareOp .Eq (.int a t) (.int b u)) Q E s := by
  subst e
  refine eq_int ?_
  rw [beq_self_eq_true]
  exact h
theorem bytes_eq_same {l r : List UInt8} (e : l = r) (h : Q (.bool true) s) : wpAny (model prog w) A (compareOp .Eq (.bytes l.toArray t) (.bytes r.toArray u)) Q E s := by
  subst e
  refine eq_b ?_
  rw [beq_self_eq_true]
  exact h
end
end
section
open PySem PySem.W PyProof.Rows PyProof.V PySem.Spec PySem.Calls
set_option maxRecDepth 100000
/-! ## the contracts as the law's walk takes them: what they hand back told with no existential -/
variable {w : World} {p : Program} {loose : List PySem.Str} {mean : ExcName → Option Value} {mg mb : PySem.Str → Option Value} {dp un : Nat} {gd : Option (List Code)} {cn : PySem.Str} {cs : Scope} {a : Addr} {ccd : Value} {cl : List (PySem.Str × Addr)} {outer : List Env} {A₀ : Around} {base h₀ : Heap} {L : Addr} {m : PySem.Str → Option Value} {s : Shared} {Q E : Value → Shared → Prop} {news : List (Addr × Obj)}
theorem take_use {l : Addr} {vs : List Value} {ns : List Int} {n : Nat} {many : Int} {u : Tok} {rest : List (Addr × Obj)} (h0 : 0 < many) (hpy : many.natAbs.log2 < 9000) (hi : IntsAre vs ns) (hz : vs.length ≤ 1000) (hoff : ∀ p ∈ rest, p.1 ≠ l) (B : Below A₀ base outer h₀) (F : Fr h₀ L s.heap m) (X : (hd.heap_39 w.params).In h₀) (N : News h₀ L s.heap ((l, listOf vs.toArray n) :: rest)) (T : Top p loose mean mg mb h₀) (hk : cs.kind = .function) (hd : dp + 1 < recursionLimit) (hu : un + 8 * 1 < cLine)
    (ret : ∀ (d : Int) (t : Tok) (vs' : List Value) (ns' : List Int) (n' : Nat) h' tk', Fr h₀ L h' m → News h₀ L h' ((l, listOf vs'.toArray n') :: rest) → 0 ≤ d → d < many → IntsAre vs' ns' → vs'.length ≤ 1000 →  Q (.int d t) { s with heap := h', toks := tk' }) :
    wpAny (model PySem.Challenge.rw_or0038_01.row.prog w) (ktrTop dp un gd cn cs L a ccd cl outer) (call (.ref 183) [.ref l, .int many u] []) Q E s := con_use (take_con h0 hpy hi hz hoff) B F X N T hk hd hu (fun _ _ h' tk' F' N' o => by
  obtain ⟨d, t, vs', ns', n', rfl, c0, c1, rfl, c2, c3⟩ := o
  exact ret d t vs' ns' n' h' tk' F' N' c0 c1 c2 c3)
theorem white_use {l : List UInt8} {t : Tok} (B : Below A₀ base outer h₀) (F : Fr h₀ L s.heap m) (X : (hd.heap_39 w.params).In h₀) (N : News h₀ L s.heap (news)) (T : Top p loose mean mg mb h₀) (hk : cs.kind = .function) (hd : dp + 1 < recursionLimit) (hu : un + 8 * 1 < cLine)
    (ret : ∀ h' tk', Fr h₀ L h' m → News h₀ L h' (news) →  Q (.bool (l == [32] || l == [9])) { s with heap := h', toks := tk' }) :
    wpAny (model PySem.Challenge.rw_or0038_01.row.prog w) (ktrTop dp un gd cn cs L a ccd cl outer) (call (.ref 190) [.bytes l.toArray t] []) Q E s := con_use (white_con) B F X N T hk hd hu (fun _ _ h' tk' F' N' o => by
  obtain ⟨rfl, rfl⟩ := o
  exact ret  h' tk' F' N' )
theorem rows_use {l : List UInt8} {t : Tok} (h3 : l.length ≤ 16777216) (B : Below A₀ base outer h₀) (F : Fr h₀ L s.heap m) (X : (hd.heap_39 w.params).In h₀) (N : News h₀ L s.heap (news)) (T : Top p loose mean mg mb h₀) (hk : cs.kind = .function) (hd : dp + 2 < recursionLimit) (hu : un + 8 * 2 < cLine)
    (ret : ∀ (q : Addr) (ps : BT) (n : Nat) h' tk', Fr h₀ L h' m → News h₀ L h' ((q, listOf (valsB ps).toArray n) :: news) → (∀ p ∈ news, p.1 < q) → ps.map (·.1) = rowsF (l.length + 1) l 0 →  Q (.ref q) { s with heap := h', toks := tk' }) :
    wpAny (model PySem.Challenge.rw_or0038_01.row.prog w) (ktrTop dp un gd cn cs L a ccd cl outer) (call (.ref 139) [.bytes l.toArray t] []) Q E s := con_use (rows_of_con h3) B F X N T hk hd hu (fun _ _ h' tk' F' N' o => by
  obtain ⟨q, ps, n, rfl, rfl, c0, c1⟩ := o
  exact ret q ps n h' tk' F' N' c0 c1)
theorem unfolded_use {l c : List UInt8} {t : Tok} (h3 : l.length ≤ 16777216) (hc : stripW (rowsF (l.length + 1) l 0).flatten = c) (B : Below A₀ base outer h₀) (F : Fr h₀ L s.heap m) (X : (hd.heap_39 w.params).In h₀) (N : News h₀ L s.heap (news)) (T : Top p loose mean mg mb h₀) (hk : cs.kind = .function) (hd : dp + 3 < recursionLimit) (hu : un + 8 * 3 < cLine)
    (ret : ∀ (t' : Tok) h' tk', Fr h₀ L h' m → News h₀ L h' (news) →  Q (.bytes c.toArray t') { s with heap := h', toks := tk' }) :
    wpAny (model PySem.Challenge.rw_or0038_01.row.prog w) (ktrTop dp un gd cn cs L a ccd cl outer) (call (.ref 146) [.bytes l.toArray t] []) Q E s := con_use (unfolded_con h3) B F X N T hk hd hu (fun _ _ h' tk' F' N' o => by
  obtain ⟨t', rfl, rfl⟩ := o
  rw [hc]
  exact ret t' h' tk' F' N' )
theorem made_use {nm l : List UInt8} {t u v : Tok} {wd : Int} (h1 : nm.length ≤ 1000) (h3 : l.length ≤ 1000) (hok : nameOk nm = true) (h10 : l.contains 10 = false) (h13 : l.contains 13 = false) (B : Below A₀ base outer h₀) (F : Fr h₀ L s.heap m) (X : (hd.heap_39 w.params).In h₀) (N : News h₀ L s.heap (news)) (T : Top p loose mean mg mb h₀) (hk : cs.kind = .function) (hd : dp + 4 < recursionLimit) (hu : un + 8 * 4 < cLine)
    (ret : ∀ (x dx : Addr) (t1 t2 t3 : Tok) h' tk', Fr h₀ L h' m → News h₀ L h' ((x, instObj 93 dx) :: (dx, fldD w.params t1 t2 (.bytes nm.toArray t) (.bytes (rawF nm l wd).toArray t3)) :: news) → dx < x → (foldedL nm l wd).length ≤ 200000 →  Q (.ref x) { s with heap := h', toks := tk' }) :
    wpAny (model PySem.Challenge.rw_or0038_01.row.prog w) (ktrTop dp un gd cn cs L a ccd cl outer) (call (.ref 176) [.bytes nm.toArray t, .bytes l.toArray u, .int wd v] []) Q E s := pur_use (made_field_con h1 h3 hok h10 h13) B F X N T hk hd hu trivial (fun _ _ h' tk' F' N' _ _ o => by
  obtain ⟨x, dx, t1, t2, t3, rfl, rfl, c0, c1⟩ := o
  exact ret x dx t1 t2 t3 h' tk' F' N' c0 c1)
theorem fields2_use {l n1 w1 n2 w2 : List UInt8} {b : Nat} {t : Tok} (h3 : l.length ≤ 100000) (hs : spansF (l.length + 1) l 0 = ([(n1, w1), (n2, w2)], b)) (B : Below A₀ base outer h₀) (F : Fr h₀ L s.heap m) (X : (hd.heap_39 w.params).In h₀) (N : News h₀ L s.heap (news)) (T : Top p loose mean mg mb h₀) (hk : cs.kind = .function) (hd : dp + 4 < recursionLimit) (hu : un + 8 * 4 < cLine)
    (ret : ∀ (tq lr x1 d1 x2 d2 : Addr) (tb t1 t2 t3 t4 u1 u2 u3 u4 : Tok) h' tk', Fr h₀ L h' m → News h₀ L h' ((tq, tup2 (.ref lr) (.int (b : Nat) tb)) :: (lr, LCg.lst [.ref x1, .ref x2]) :: (x1, instObj 93 d1) :: (d1, fldD w.params t1 t2 (.bytes n1.toArray t3) (.bytes w1.toArray t4)) :: (x2, instObj 93 d2) :: (d2, fldD w.params u1 u2 (.bytes n2.toArray u3) (.bytes w2.toArray u4)) :: news) →  Q (.ref tq) { s with heap := h', toks := tk' }) :
    wpAny (model PySem.Challenge.rw_or0038_01.row.prog w) (ktrTop dp un gd cn cs L a ccd cl outer) (call (.ref 132) [.bytes l.toArray t] []) Q E s := pur_use (read_fields2_con h3 hs) B F X N T hk hd hu trivial (fun _ _ h' tk' F' N' _ _ o => by
  obtain ⟨tq, lr, x1, d1, x2, d2, tb, t1, t2, t3, t4, u1, u2, u3, u4, rfl, rfl⟩ := o
  exact ret tq lr x1 d1 x2 d2 tb t1 t2 t3 t4 u1 u2 u3 u4 h' tk' F' N' )
theorem fields1_use {l n1 w1 : List UInt8} {b : Nat} {t : Tok} (h3 : l.length ≤ 100000) (hs : spansF (l.length + 1) l 0 = ([(n1, w1)], b)) (B : Below A₀ base outer h₀) (F : Fr h₀ L s.heap m) (X : (hd.heap_39 w.params).In h₀) (N : News h₀ L s.heap (news)) (T : Top p loose mean mg mb h₀) (hk : cs.kind = .function) (hd : dp + 4 < recursionLimit) (hu : un + 8 * 4 < cLine)
    (ret : ∀ (tq lr x1 d1 : Addr) (tb t1 t2 t3 t4 : Tok) h' tk', Fr h₀ L h' m → News h₀ L h' ((tq, tup2 (.ref lr) (.int (b : Nat) tb)) :: (lr, LCg.lst [.ref x1]) :: (x1, instObj 93 d1) :: (d1, fldD w.params t1 t2 (.bytes n1.toArray t3) (.bytes w1.toArray t4)) :: news) →  Q (.ref tq) { s with heap := h', toks := tk' }) :
    wpAny (model PySem.Challenge.rw_or0038_01.row.prog w) (ktrTop dp un gd cn cs L a ccd cl outer) (call (.ref 132) [.bytes l.toArray t] []) Q E s := pur_use (read_fields1_con h3 hs) B F X N T hk hd hu trivial (fun _ _ h' tk' F' N' _ _ o => by
  obtain ⟨tq, lr, x1, d1, tb, t1, t2, t3, t4, rfl, rfl⟩ := o
  exact ret tq lr x1 d1 tb t1 t2 t3 t4 h' tk' F' N' )
end
section
open PySem PySem.W PyProof.Rows PyProof.V PySem.Spec PySem.Calls
set_option maxRecDepth 100000
theorem named3 {h₀ h : Heap} {L x y z : Addr} {vs ws : List Value} {n n2 : Nat} {o : Obj} (_N : News h₀ L h [(x, listOf vs.toArray n), (y, listOf ws.toArray n2), (z, o)]) : ∃ x' y' ws' o', x' = x ∧ y' = y ∧ ws' = ws ∧ o' = o := ⟨_, _, _, _, rfl, rfl, rfl, rfl⟩
theorem named6 {h₀ h : Heap} {L x y z : Addr} {a b c : Addr × Obj} {k1 k2 k3 : Obj} (_N : News h₀ L h [(x, k1), (y, k2), (z, k3), a, b, c]) : ∃ x' y' z', x' = x ∧ y' = y ∧ z' = z := ⟨_, _, _, rfl, rfl, rfl⟩
theorem ne_same {prog : Program} {w : World} {A : Around} {E : Value → Shared → Prop} {s : Shared} {l : List UInt8} {t u : Tok} {Q : Value → Shared → Prop} (h : Q (.bool false) s) : wpAny (model prog w) A (compareOp .NotEq (.bytes l.toArray t) (.bytes l.toArray u)) Q E s := ne_b (by rw [bne_self_eq_false]; exact h)
theorem front4 {a b c d : Addr × Obj} {r : List (Addr × Obj)} : ∀ p ∈ d :: a :: b :: c :: r, p ∈ a :: b :: c :: d :: r := picks [a, b, c, d] r [3, 0, 1, 2]
theorem loop_sub {a b c d e f : Addr × Obj} : ∀ p ∈ [b, c, d, f], p ∈ [a, b, c, d, e, f] := picks [a, b, c, d, e, f] [] [1, 2, 3, 5]
theorem end_sub1 {a b c d e f : Addr × Obj} : ∀ p ∈ [b, c, d, e, f], p ∈ [a, e, b, c, d, f] := picks [a, e, b, c, d, f] [] [2, 3, 4, 1, 5]
theorem end_sub2 {a b c d e f : Addr × Obj} : ∀ p ∈ [b, c, d, e, f], p ∈ [a, b, c, d, e, f] := picks [a, b, c, d, e, f] [] [1, 2, 3, 4, 5]
theorem end_sub3 {a b c d e f : Addr × Obj} : ∀ p ∈ [b, c, d, e, f], p ∈ [a, c, e, b, d, f] := picks [a, c, e, b, d, f] [] [3, 1, 4, 2, 5]
theorem app_sub {a b c d e f : Addr × Obj} : ∀ p ∈ [c, e, b, d, f], p ∈ [a, e, b, c, d, f] := picks [a, e, b, c, d, f] [] [3, 1, 2, 4, 5]
theorem front5 {a b c d e : Addr × Obj} {r : List (Addr × Obj)} : ∀ p ∈ e :: a :: b :: c :: d :: r, p ∈ a :: b :: c :: d :: e :: r := picks [a, b, c, d, e] r [4, 0, 1, 2, 3]
theorem front_end {a b c d e f g : Addr × Obj} : ∀ p ∈ [c, d, e, a, f, g], p ∈ [a, b, c, d, e, f, g] := picks [a, b, c, d, e, f, g] [] [2, 3, 4, 0, 5, 6]
@[reducible] def InvC (pl : Addr) (sl : Addr) (ws : List Value) (oc : Obj) (z9 : Nat) (i : Nat) (ys : List Value) (nx : List (Addr × Obj)) : Prop := ∃ (ps : BT) (vs : List Value) (ns : List Int) (cnt : Nat), ys = valsB ps ∧ ps.length = i ∧ (∀ p ∈ ps, p.1 ∈ PCS) ∧ nx = [(pl, listOf vs.toArray cnt), (sl, listOf ws.toArray 0), (z9, oc)] ∧ IntsAre vs ns ∧ vs.length ≤ 1000
@[reducible] def InvL (ps : BT) (rl : Addr) (pd : Addr) (pl : Addr) (oc : Obj) (z9 : Nat) (i : Nat) (mm : PySem.Str → Option Value) (nx : List (Addr × Obj)) : Prop := ∃ (pairs : List (List UInt8 × List UInt8)) (row raw : List UInt8) (tr tw : Tok) (rs : BT) (cnt : Nat) (vs : List Value) (ns : List Int) (cnt2 : Nat), nx = [(rl, listOf (valsB rs).toArray cnt), (pd, LCg.lst (valsB ps)), (pl, listOf vs.toArray cnt2), (z9, oc)] ∧ IntsAre vs ns ∧ vs.length ≤ 1000 ∧ rs.map (·.1) = pairs.map (·.1) ∧ Glue pairs row ∧ raw = glueF pairs row ∧ bodyF pairs row = ((ps.take i).map (·.1)).flatten ∧ pairs.length ≤ i ∧ (∀ p ∈ [(PySem.Str.ofString "raw", Value.bytes raw.toArray tr), (PySem.Str.ofString "rows", Value.ref rl), (PySem.Str.ofString "row", Value.bytes row.toArray tw), (PySem.Str.ofString "pieces", Value.ref pd)], mm p.1 = some p.2)
@[reducible] def InvS (ps : BT) (rs : BT) (row : List UInt8) (tw : Tok) (n8 : Nat) (pl : Addr) (vs : List Value) (cnt2 : Nat) (oc : Obj) (z9 : Nat) (raw : List UInt8) (tr : Tok) (rl : Addr) (n : Nat) (mm : PySem.Str → Option Value) (nx : List (Addr × Obj)) : Prop := ∃ (b : List UInt8) (tb : Tok), n = b.length ∧ b.length ≤ 100 ∧ b.dropWhile isW = (joinL [] (ps.map (·.1))).dropWhile isW ∧ nx = [(rl, listOf (valsB (rs ++ [(row, tw)])).toArray n8), (pl, listOf vs.toArray cnt2), (z9, oc)] ∧ (∀ p ∈ [(PySem.Str.ofString "body", Value.bytes b.toArray tb), (PySem.Str.ofString "raw", Value.bytes raw.toArray tr), (PySem.Str.ofString "rows", Value.ref rl)], mm p.1 = some p.2)
@[reducible] def InvT (b : List UInt8) (rs : BT) (row : List UInt8) (tw : Tok) (n8 : Nat) (pl : Addr) (vs : List Value) (cnt2 : Nat) (oc : Obj) (z9 : Nat) (raw : List UInt8) (tr : Tok) (rl : Addr) (n : Nat) (mm : PySem.Str → Option Value) (nx : List (Addr × Obj)) : Prop := ∃ (c : List UInt8) (tc : Tok), n = c.length ∧ c.length ≤ 100 ∧ c.reverse.dropWhile isW = b.reverse.dropWhile isW ∧ nx = [(rl, listOf (valsB (rs ++ [(row, tw)])).toArray n8), (pl, listOf vs.toArray cnt2), (z9, oc)] ∧ (∀ p ∈ [(PySem.Str.ofString "body", Value.bytes c.toArray tc), (PySem.Str.ofString "raw", Value.bytes raw.toArray tr), (PySem.Str.ofString "rows", Value.ref rl)], mm p.1 = some p.2)
set_option maxHeartbeats 0 in
theorem law_all : PySem.Challenge.rw_or0038_01.Holds := hd (by
  k_go0
  k_with_none
  k_with "exec While BoolOp cons nil" => (refine hold_of ?_)
  k_with "exec For Name Name cons nil" => (refine hold_of ?_)
  k_with "call type:range" => (refine hold_of ?_)
  k_with "call ref" => (k_dflt (refine' take_use (by decide) (by decide) ?hi ?hz ?hoff ?B ?F ?X ?N ?T ?hk ?hd ?hu ?_); (case B => k_asm); (case F => k_asm); (case X => k_asm); (case N => k_asm); (case T => k_asm); (case hk => first | exact rfl | assumption); (case hd => ktr_room); (case hu => ktr_units); (case hi => k_asm); (case hz => (simp only [List.length_map] at *; omega)); (case hoff => exact List.forall_mem_cons.mpr ⟨by k_ne, List.forall_mem_cons.mpr ⟨by k_ne, List.forall_mem_nil _⟩⟩); intro d9 t9 vs9 ns9 n9 h9 tk9 F9 N9 hlo9 hhi9 hi9 hz9; (try dsimp only); (try k_fold))
  all_goals try k_fold
  k_steps
  unfold Hold
  rename Shared => s1
  rename Frag.In (hd.heap_39 _) _ => X1
  rename Fr _ _ _ _ => F'
  rename News _ _ _ [_, _, _] => N'
  obtain ⟨pl, sl, ws, oc, hx1, hx2, hx3, hx4⟩ := named3 N'
  subst hx1 hx2 hx3 hx4
  rename (sl ≠ pl) ∧ _ => o1
  with_unfolding_all refine range1_rows F' N' ?_
  intro hr9 tkr t1 t2 t3 hR FR NR _
  refine LCg.CompSrc.range (n := d9.toNat) (by rfl) FR NR hR (by exact small_one (by omega) (by omega) (by omega) (by omega)) (by rw [rangeSize_nat, Int.sub_zero]) (by rw [PySem.sizeLine_eq]; omega) ?_
  intro g'
  clear F' N'
  refine comp_ind (InvC pl sl ws oc (s1.heap.objs.size + 1)) ⟨[], _, _, _, rfl, rfl, (fun p hp => nomatch hp), rfl, hi9, hz9⟩ ?_ ?_
  · rintro i ys nx v I oI C oC D m₂ h2 tk2 E2 ⟨ps, vs, ns, cnt, rfl, hps, hpm, rfl, hin, hzn⟩ hi _ hC2 hx2 F2 N2 off2
    have p1 := off2.1.1.symm
    have p2 := off2.1.2.1.symm
    have p3 := off2.1.2.2.symm
    k_with_none
    k_with "call ref" => ((rename News _ _ _ [_, _, _, _, _, _, _] => N7); k_dflt (refine' take_use (by decide) (by decide) hin hzn ?hoff ?B ?F ?X (news_sub N7 front5) ?T ?hk ?hd ?hu ?_); (case B => k_asm); (case F => k_asm); (case X => k_asm); (case T => k_asm); (case hk => first | exact rfl | assumption); (case hd => ktr_room); (case hu => ktr_units); (case hoff => exact List.forall_mem_cons.mpr ⟨by k_ne, List.forall_mem_cons.mpr ⟨p1, List.forall_mem_cons.mpr ⟨p2, List.forall_mem_cons.mpr ⟨p3, List.forall_mem_cons.mpr ⟨o1.1, List.forall_mem_cons.mpr ⟨o1.2, List.forall_mem_nil _⟩⟩⟩⟩⟩⟩); intro d9 t9 vs9 ns9 n9 h9 tk9 F9 N9 hlo9 hhi9 hi9 hz9; (try dsimp only); (try k_fold))
    k_with "subscriptTail" => (refine hold_of ?_)
    k_steps
    unfold Hold
    rename News _ _ _ (_ :: (_, _) :: _) => N9
    refine item_valsB (ps := [([97], _), ([32], _), ([98, 99, 58], _), ([9], _), ([233], _), ([32], _), ([61, 63], _)]) (News.isTup (by k_asm) (by k_mem)) hlo9 hhi9 (by simp) ?_
    intro p9 hp9
    refine LCg.CompEnd.intro (by assumption) N9 [(pl, listOf vs9.toArray n9), (sl, listOf ws.toArray 0), (s1.heap.objs.size + 1, oc)] front_end off2 True.intro ⟨ps ++ [p9], vs9, ns9, n9, by simp [valsB], by rw [List.length_append, List.length_singleton, hps], fun q hq => ?_, rfl, hi9, hz9⟩
    rcases List.mem_append.mp hq with hq | hq
    · exact hpm q hq
    · rw [List.mem_singleton.mp hq]
      simp only [List.mem_cons, List.not_mem_nil, or_false] at hp9
      rcases hp9 with rfl | rfl | rfl | rfl | rfl | rfl | rfl <;> simp [PCS]
  rintro ys nx ⟨ps, vs, ns, cnt, rfl, hps, hpm, rfl, hin, hzn⟩
  k_with_none
  k_with "exec For Name Name cons nil" => (refine hold_of ?_)
  k_steps
  unfold Hold
  rename Fr _ _ _ _ => F'
  rename News _ _ _ [_, _, _, _, _, _] => N'
  obtain ⟨tt, rl, pd, hx1, hx2, hx3⟩ := named6 N'
  subst hx1 hx2 hx3
  rename (pl ≠ pd) ∧ _ => o2
  rename (pd < rl) ∧ _ => o3
  with_unfolding_all refine' For_invVF F' ?k1 ?k2 ?_
  case k1 => exact rfl
  case k2 => exact rfl
  k_with "pyIter ref" => (refine hold_of ?_)
  k_steps
  unfold Hold
  have NL : News s1.heap s1.heap.objs.size _ [(rl, listOf #[] 0), (pd, LCg.lst (valsB ps)), (pl, listOf vs.toArray cnt), (s1.heap.objs.size + 1, oc)] := news_sub N' loop_sub
  refine iter_listUnr rfl (by k_asm) NL (.tail _ (.head _)) rfl rfl (fun I hI => list_go (InvL ps rl pd pl oc (s1.heap.objs.size + 1)) (valsB ps) ?_ ?_ (valsB ps) 0 _ _ rfl (Nat.zero_le _) ⟨[], [], [], _, _, [], 0, vs, ns, cnt, rfl, hin, hzn, rfl, glue_nil, rfl, rfl, Nat.le_refl _, by kst_all⟩)
  · rintro i v mm nx it h3 tk3 hv ⟨pairs, row, raw, tr, tw, rs, cnt, vs, ns, cnt2, rfl, hin, hzn, hrs, hG, hraw, hbody, hpl, hm⟩ hit F3 N3
    obtain ⟨x, tx, hpx, rfl⟩ := valsB_get hv
    replace F3 : Fr s1.heap s1.heap.objs.size h3 _ := F3
    replace N3 : News s1.heap s1.heap.objs.size h3 _ := N3
    replace F3 := fr_kst [(PySem.Str.ofString "piece", Value.bytes x.toArray tx), (PySem.Str.ofString "raw", Value.bytes raw.toArray tr), (PySem.Str.ofString "rows", Value.ref rl), (PySem.Str.ofString "row", Value.bytes row.toArray tw), (PySem.Str.ofString "pieces", Value.ref pd)] F3 (by
      intro p hp
      rcases List.mem_cons.mp hp with rfl | hp
      · exact if_pos rfl
      · refine Eq.trans (if_neg ?_) (hm p hp)
        simp only [List.mem_cons, List.not_mem_nil, or_false] at hp
        rcases hp with rfl | rfl | rfl | rfl <;> (dsimp only; decide))
    dsimp only [kstB] at F3
    clear hm
    have hxm : x ∈ PCS := hpm (x, tx) (List.mem_of_getElem? hpx)
    have hi10 : i < 11 := by
      have := (List.getElem?_eq_some_iff.mp hpx).1
      omega
    have hxl := (pcs_clean hxm).2
    have hrawl : raw.length ≤ 100 := by
      have a1 := length_glueF (row := row) hG.seps
      have a2 : ((ps.take i).map (·.1)).flatten.length ≤ 3 * ((ps.take i).map (·.1)).length := flat_le fun y hy => by
        obtain ⟨q, hq, rfl⟩ := List.mem_map.mp hy
        exact hpm q (List.mem_of_mem_take hq)
      have a3 : ((ps.take i).map (·.1)).length ≤ i := by rw [List.length_map, List.length_take]; omega
      rw [hbody] at a1
      rw [hraw]
      omega
    have hrowl : row.length ≤ 100 := by
      have a1 : row.length ≤ raw.length := by rw [hraw, glueF, List.length_append]; omega
      omega
    have hrsl : rs.length ≤ 16777216 := by
      have a1 := congrArg List.length hrs
      simp only [List.length_map] at a1
      omega
    have q1 : I ≠ pl := neN (by have := ltN (hI _ (.tail _ (.tail _ (.head _)))); omega)
    have q2 : rl ≠ pl := neN (by omega)
    have q3 : pd ≠ pl := o2.1.symm
    have q4 : I ≠ rl := neN (by have := ltN (hI _ (.head _)); omega)
    have q5 : pd ≠ rl := neN (by omega)
    have q6 : s1.heap.objs.size + 1 ≠ rl := neN (by omega)
    have hcl := (pcs_clean hxm).1
    have hoffI : ∀ {o1 o2 o3 o4 : Obj}, ∀ p ∈ [(rl, o1), (pd, o2), (pl, o3), (s1.heap.objs.size + 1, o4)], p.1 ≠ I := by
      intro o1 o2 o3 o4
      have a1 := ltN (hI _ (.head _))
      have a2 := ltN (hI _ (.tail _ (.head _)))
      have a3 := ltN (hI _ (.tail _ (.tail _ (.head _))))
      have a4 := ltN (hI _ (.tail _ (.tail _ (.tail _ (.head _)))))
      dsimp only at a1 a2 a3 a4
      exact List.forall_mem_cons.mpr ⟨neN (by omega), List.forall_mem_cons.mpr ⟨neN (by omega), List.forall_mem_cons.mpr ⟨neN (by omega), List.forall_mem_cons.mpr ⟨neN (by omega), List.forall_mem_nil _⟩⟩⟩⟩
    k_with_none
    k_with "subscriptTail" => (refine hold_of ?_)
    k_with "call builtin:list.append" => (refine hold_of ?_)
    k_with "UnrEnd" => (refine hold_of ?_)
    k_with "call ref" => (k_dflt (refine' white_use ?B ?F ?X ?N ?T ?hk ?hd ?hu ?_); (case B => k_asm); (case F => k_asm); (case X => k_asm); (case N => k_asm); (case T => k_asm); (case hk => first | exact rfl | assumption); (case hd => ktr_room); (case hu => ktr_units); intro h9 tk9 F9 N9; (try dsimp only); (try k_fold))
    k_with "call ref" => ((rename News _ _ _ [_, _, _, _, _] => N7); k_dflt (refine' take_use (by decide) (by decide) hin hzn ?hoff ?B ?F ?X (news_sub N7 front4) ?T ?hk ?hd ?hu ?_); (case B => k_asm); (case F => k_asm); (case X => k_asm); (case T => k_asm); (case hk => first | exact rfl | assumption); (case hd => ktr_room); (case hu => ktr_units); (case hoff => exact List.forall_mem_cons.mpr ⟨q1, List.forall_mem_cons.mpr ⟨q2, List.forall_mem_cons.mpr ⟨q3, List.forall_mem_cons.mpr ⟨o1.2, List.forall_mem_nil _⟩⟩⟩⟩); intro d9 t9 vs9 ns9 n9 h9 tk9 F9 N9 hlo9 hhi9 hi9 hz9; (try dsimp only); (try k_fold))
    k_steps
    all_goals (try unfold Hold)
    · refine item_valsB (ps := [([13, 10], _), ([10], _)]) (News.isTup (by k_asm) (by k_mem)) (by omega) (by simp only [List.length_cons, List.length_nil]; omega) (by simp) ?_
      rintro ⟨sep, ts⟩ hp9
      have hs9 : (sep = [13, 10] ∨ sep = [10]) := by
        simp only [List.mem_cons, List.not_mem_nil, or_false, Prod.mk.injEq] at hp9
        rcases hp9 with h | h
        · exact .inl h.1
        · exact .inr h.1
      clear hp9
      have hsl : sep.length ≤ 2 := by rcases hs9 with h | h <;> rw [h] <;> simp
      dsimp only
      k_steps
      unfold Hold
      rename Fr _ _ _ _ => F'
      rename News _ _ _ _ => N'
      refine append_b (ps := rs) (n := cnt) (rest := [(pl, listOf vs9.toArray n9), (I, it), (pd, LCg.lst (valsB ps)), (s1.heap.objs.size + 1, oc)]) F' N' app_sub (List.forall_mem_cons.mpr ⟨q2.symm, List.forall_mem_cons.mpr ⟨q4, List.forall_mem_cons.mpr ⟨q5, List.forall_mem_cons.mpr ⟨q6, List.forall_mem_nil _⟩⟩⟩⟩) hrsl ?_
      clear F' N'
      intro h8 n8 F8 N8
      (try dsimp only)
      k_steps
      unfold Hold
      rename Fr _ _ _ _ => F'
      rename News _ _ _ _ => N'
      refine UnrEnd.intro F' N' [(rl, listOf (valsB (rs ++ [(row, tw)])).toArray n8), (pd, LCg.lst (valsB ps)), (pl, listOf vs9.toArray n9), (s1.heap.objs.size + 1, oc)] end_sub3 hoffI ⟨.tail _ (.head _), pairs ++ [(row, sep)], [] ++ x, raw ++ sep ++ x, _, _, rs ++ [(row, tw)], n8, vs9, ns9, n9, rfl, hi9, hz9, by rw [List.map_append, List.map_append, hrs]; rfl, glue_turn hG hs9 hcl (white_starts (by assumption)), by rw [List.nil_append, glueF_turn, hraw], by rw [List.nil_append, bodyF_turn, hbody, take_flat hpx], by rw [List.length_append, List.length_singleton]; omega, by kst_all⟩
    · rename Fr _ _ _ _ => F'
      rename News _ _ _ _ => N'
      refine UnrEnd.intro F' N' [(rl, listOf (valsB rs).toArray cnt), (pd, LCg.lst (valsB ps)), (pl, listOf vs9.toArray n9), (s1.heap.objs.size + 1, oc)] end_sub1 hoffI ⟨.tail _ (.head _), pairs, row ++ x, raw ++ x, _, _, rs, cnt, vs9, ns9, n9, rfl, hi9, hz9, hrs, glue_add hG hcl, by rw [glueF_add, hraw], by rw [bodyF_add, hbody, take_flat hpx], by omega, by kst_all⟩
    · rename Fr _ _ _ _ => F'
      rename News _ _ _ _ => N'
      refine UnrEnd.intro F' N' [(rl, listOf (valsB rs).toArray cnt), (pd, LCg.lst (valsB ps)), (pl, listOf vs.toArray cnt2), (s1.heap.objs.size + 1, oc)] end_sub2 hoffI ⟨.tail _ (.head _), pairs, row ++ x, raw ++ x, _, _, rs, cnt, vs, ns, cnt2, rfl, hin, hzn, hrs, glue_add hG hcl, by rw [glueF_add, hraw], by rw [bodyF_add, hbody, take_flat hpx], by omega, by kst_all⟩
  rintro mm nx h3 tk3 ⟨pairs, row, raw, tr, tw, rs, cnt, vs, ns, cnt2, rfl, hin, hzn, hrs, hG, hraw, hbody, hpl, hm⟩ F3 N3
  replace F3 : Fr s1.heap s1.heap.objs.size h3 _ := fr_kst _ F3 hm
  replace N3 : News s1.heap s1.heap.objs.size h3 _ := N3
  dsimp only [kstB] at F3
  clear hm
  have hjx : (joinL [] (ps.map (·.1))).length ≤ 100 := by
    rw [length_nil_join]
    have a1 := flat_le (xs := ps.map (·.1)) fun y hy => by
      obtain ⟨q, hq, rfl⟩ := List.mem_map.mp hy
      exact hpm q hq
    rw [List.length_map] at a1
    omega
  have hjl : (joinL [] (ps.map (·.1))).length ≤ 16777216 := by omega
  have hrsl : rs.length ≤ 16777216 := by
    have a1 := congrArg List.length hrs
    have a2 := valsB_length ps
    simp only [List.length_map] at a1
    omega
  k_with_none
  k_with "call builtin:list.append" => (refine hold_of ?_)
  k_with "call builtin:bytes.join" => (k_here; k_dflt (refine call_join (by k_asm) (by k_mem) rfl hjl ?_); intro _ _)
  k_with "exec While BoolOp cons nil" => (refine hold_of ?_)
  k_steps
  unfold Hold
  clear F' N'
  rename Fr _ _ _ _ => F'
  rename News _ _ _ _ => N'
  refine append_b (ps := rs) (n := cnt) (rest := [(pd, LCg.lst (valsB ps)), (pl, listOf vs.toArray cnt2), (s1.heap.objs.size + 1, oc)]) F' N' (fun _ hp => hp) (List.forall_mem_cons.mpr ⟨neN (by omega), List.forall_mem_cons.mpr ⟨neN (by omega), List.forall_mem_cons.mpr ⟨neN (by omega), List.forall_mem_nil _⟩⟩⟩) hrsl ?_
  clear F' N'
  intro h8 n8 F8 N8
  (try dsimp only)
  k_steps
  unfold Hold
  rename Fr _ _ _ _ => F'
  rename News _ _ _ _ => N'
  have NL2 : News s1.heap s1.heap.objs.size _ [(rl, listOf (valsB (rs ++ [(row, tw)])).toArray n8), (pl, listOf vs.toArray cnt2), (s1.heap.objs.size + 1, oc)] := news_sub N' drop2
  refine While_inv2 (InvS ps rs row tw n8 pl vs cnt2 oc (s1.heap.objs.size + 1) raw tr rl) F' NL2 ⟨_, _, rfl, hjx, rfl, rfl, by kst_all⟩ ?_ (by first | passes_own | with_unfolding_all passes_own)
  clear F' N' NL2
  rintro n mm nx h3 tk3 F3 N3 ⟨b, tb, rfl, hbl, hbw, rfl, hm⟩
  replace F3 : Fr s1.heap s1.heap.objs.size h3 _ := fr_kst _ F3 hm
  replace N3 : News s1.heap s1.heap.objs.size h3 _ := N3
  dsimp only [kstB] at F3
  clear hm
  k_with "compareOp In bytes ref" => (k_here; k_dflt (refine in_two (News.isTup (by k_asm) (by k_mem)) ?_))
  k_steps
  all_goals (try unfold Hold)
  · have hc : (b.take 1 == [32] || b.take 1 == [9]) = true := by rw [← cut_first]; assumption
    have hr := rest_step hc
    rename Fr _ _ _ _ => F'
    rename News _ _ _ _ => N'
    refine ⟨_, _, _, _, (b.drop 1).length, rfl, F', news_cb N', hr.2, b.drop 1, _, rfl, by omega, hr.1.trans hbw, rfl, by rw [← cut_rest]; kst_all⟩
  · exfalso
    have hc : (b.take 1 == [32] || b.take 1 == [9]) = true := by rw [← cut_first]; assumption
    obtain ⟨c, t, rfl, -⟩ := lead_t hc
    rename ((c :: t) != []) = false => hz
    exact absurd hz (by simp)
  have hb1 : b.dropWhile isW = b := lead_f (by rw [← cut_first]; assumption)
  rw [hb1] at hbw
  clear hb1
  rename Fr _ _ _ _ => F'
  rename News _ _ _ _ => N'
  refine While_inv2 (InvT b rs row tw n8 pl vs cnt2 oc (s1.heap.objs.size + 1) raw tr rl) F' (news_cb N') ⟨_, _, rfl, hbl, rfl, rfl, by kst_all⟩ ?_ (by first | passes_own | with_unfolding_all passes_own)
  clear F' N'
  rintro n mm nx h3 tk3 F3 N3 ⟨c, tc, rfl, hcl, hcw, rfl, hm⟩
  replace F3 : Fr s1.heap s1.heap.objs.size h3 _ := fr_kst _ F3 hm
  replace N3 : News s1.heap s1.heap.objs.size h3 _ := N3
  dsimp only [kstB] at F3
  clear hm
  k_with "exec If" => (refine hold_of ?_)
  k_steps
  all_goals (try unfold Hold)
  · have hc : (c.drop (c.length - 1) == [32] || c.drop (c.length - 1) == [9]) = true := by rw [← cut_last]; assumption
    have hr := init_step hc
    rename Fr _ _ _ _ => F'
    rename News _ _ _ _ => N'
    refine ⟨_, _, _, _, (c.take (c.length - 1)).length, rfl, F', news_cb N', hr.2, c.take (c.length - 1), _, rfl, by omega, hr.1.trans hcw, rfl, by rw [← cut_init]; kst_all⟩
  · exfalso
    have hc : (c.drop (c.length - 1) == [32] || c.drop (c.length - 1) == [9]) = true := by rw [← cut_last]; assumption
    obtain ⟨c, t, rfl, -⟩ := tail_t hc
    rename ((t ++ [c]) != []) = false => hz
    exact absurd hz (by simp)
  have hb2 : c.reverse.dropWhile isW = c.reverse := tail_f (by rw [← cut_last]; assumption)
  have hbs : stripW ((ps.map (·.1)).flatten) = c := by
    unfold stripW
    rw [← length_nil_join, ← hbw, ← hcw, hb2, List.reverse_reverse]
  clear hb2 hcw hbw
  have hE : EndOk raw c row tw rs := end_ok hG hraw hrs (by rw [hbody, valsB_length, List.take_length]) hpm (by rw [valsB_length] at hpl; exact hpl) (by omega) hbs
  rename Fr _ _ _ _ => F'
  rename News _ _ _ _ => N'
  have NL := news_cb N'
  clear N'
  clear hG hraw hrs hbody hpl hbs hjx hjl hrsl hcl hps hpm
  have hr200 := hE.r200
  k_with_none
  k_with "compareOp NotEq ref ref" => (refine hold_of ?_)
  k_with "compareOp NotEq bytes bytes" => (k_here; k_dflt (refine ne_same ?_))
  k_with "call ref" => (k_dflt (refine' unfolded_use hE.rlen hE.unf ?B ?F ?X ?N ?T ?hk ?hd ?hu ?_); (case B => k_asm); (case F => k_asm); (case X => k_asm); (case N => k_asm); (case T => k_asm); (case hk => first | exact rfl | assumption); (case hd => ktr_room); (case hu => ktr_units); intro t9 h9 tk9 F9 N9; (try dsimp only); (try k_fold))
  k_with "call ref" => (k_dflt (refine' rows_use hE.rlen ?B ?F ?X ?N ?T ?hk ?hd ?hu ?_); (case B => k_asm); (case F => k_asm); (case X => k_asm); (case N => k_asm); (case T => k_asm); (case hk => first | exact rfl | assumption); (case hd => ktr_room); (case hu => ktr_units); intro q9 ps9 n9 h9 tk9 F9 N9 l9 e9; (try dsimp only); (try k_fold))
  k_steps
  unfold Hold
  rename News _ _ _ (_ :: _ :: _) => N'
  refine ne_lists (xs := valsB ps9) (ys := valsB (rs ++ [(row, tw)])) ?ga ?gb ?gl ?gu ?ge ?_
  case ga => exact News.isList N' (.head _)
  case gb => exact News.isList N' (.tail _ (.head _))
  case gl =>
    have a1 := congrArg List.length (e9.trans hE.rows.symm)
    simp only [List.length_map] at a1
    rw [valsB_length, valsB_length, a1]
  case gu => (simp only [units_in1, units_deeper, Around.mark_units, units_caller]; decide)
  case ge => exact eqAt_valsB (e9.trans hE.rows.symm)
  have NL := news_cb (news_cb N')
  clear N'
  k_with_none
  k_with "compareOp NotEq ref ref" => (refine hold_of ?_)
  k_with "callWith ref cons nil" => ((rename Fr _ _ _ _ => F9); k_dflt (refine' callWith_K0 ?k1 ?k2 ?_; (case k1 => exact Frag.In.keeps X1 (Fr.keep F9)); (case k2 => k_is); k_whole))
  k_with "call ref" => (k_dflt (refine' fields2_use hE.len1 hE.two ?B ?F ?X ?N ?T ?hk ?hd ?hu ?_); (case B => k_asm); (case F => k_asm); (case X => k_asm); (case N => k_asm); (case T => k_asm); (case hk => first | exact rfl | assumption); (case hd => ktr_room); (case hu => ktr_units); intro tq9 lr9 x1 d1 x2 d2 tb9 z1 z2 z3 z4 u1 u2 u3 u4 h9 tk9 F9 N9; (try dsimp only); (try k_fold))
  k_steps
  unfold Hold
  rename News _ _ _ _ => N'
  refine ne_lists (xs := [.ref ?v1, .ref ?v2]) (ys := [.ref ?v3, .ref ?v4]) ?ga ?gb ?gl ?gu ?ge ?_
  case ga => exact News.isList N' (by k_mem)
  case gb => exact News.isList N' (by k_mem)
  case gl => rfl
  case gu => (simp only [units_in1, units_deeper, Around.mark_units, units_caller]; decide)
  case ge =>
    intro j h1 h2
    match j, h1, h2 with
    | 0, _, _ => exact eqAt_pair (News.isTup N' (by k_mem)) (News.isTup N' (by k_mem)) (by (simp only [units_in1, units_deeper, Around.mark_units, units_caller]; decide))
    | 1, _, _ => exact eqAt_pair (News.isTup N' (by k_mem)) (News.isTup N' (by k_mem)) (by (simp only [units_in1, units_deeper, Around.mark_units, units_caller]; decide))
  have NL : News s1.heap s1.heap.objs.size _ [(pl, listOf vs.toArray cnt2), (s1.heap.objs.size + 1, oc)] := fun p hp => N' p (List.mem_of_mem_drop (i := 12) hp)
  clear N'
  k_with_none
  k_with "compareOp Eq ref ref" => (refine hold_of ?_)
  k_with "compareOp NotEq bytes bytes" => (k_here; k_dflt (refine ne_same ?_))
  k_with "compareOp NotEq int int" => (k_here; k_dflt (refine int_ne_same hE.place ?_))
  k_with "call ref" => (k_dflt (refine' take_use (by decide) (by decide) hin hzn ?hoff ?B ?F ?X ?N ?T ?hk ?hd ?hu ?_); (case B => k_asm); (case F => k_asm); (case X => k_asm); (case N => k_asm); (case T => k_asm); (case hk => first | exact rfl | assumption); (case hd => ktr_room); (case hu => ktr_units); (case hoff => exact List.forall_mem_cons.mpr ⟨o1.2, List.forall_mem_nil _⟩); intro d9 t9 vs9 ns9 n9 h9 tk9 F9 N9 hlo9 hhi9 hi9 hz9; (try dsimp only); (try k_fold))
  k_with "call ref" => (k_dflt (refine' made_use (by decide) hE.clen (by decide) hE.c10 hE.c13 ?B ?F ?X ?N ?T ?hk ?hd ?hu ?_); (case B => k_asm); (case F => k_asm); (case X => k_asm); (case N => k_asm); (case T => k_asm); (case hk => first | exact rfl | assumption); (case hd => ktr_room); (case hu => ktr_units); intro x9 dx9 z1 z2 z3 h9 tk9 F9 N9 l9 z9; (have zz9 := hE.len4 (10 + d9)); (try dsimp only); (try k_fold))
  k_with "call ref" => (k_dflt (refine' unfolded_use (hE.len3 _) (hE.back _) ?B ?F ?X ?N ?T ?hk ?hd ?hu ?_); (case B => k_asm); (case F => k_asm); (case X => k_asm); (case N => k_asm); (case T => k_asm); (case hk => first | exact rfl | assumption); (case hd => ktr_room); (case hu => ktr_units); intro t9 h9 tk9 F9 N9; (try dsimp only); (try k_fold))
  k_with "callWith ref cons nil" => ((rename Fr _ _ _ _ => F9); k_dflt (refine' callWith_K0 ?k1 ?k2 ?_; (case k1 => exact Frag.In.keeps X1 (Fr.keep F9)); (case k2 => k_is); k_whole))
  k_with "call ref" => (k_dflt (refine' fields1_use (hE.len2 _) (hE.one _) ?B ?F ?X ?N ?T ?hk ?hd ?hu ?_); (case B => k_asm); (case F => k_asm); (case X => k_asm); (case N => k_asm); (case T => k_asm); (case hk => first | exact rfl | assumption); (case hd => ktr_room); (case hu => ktr_units); intro tq9 lr9 x1 d1 tb9 z1 z2 z3 z4 h9 tk9 F9 N9; (try dsimp only); (try k_fold))
  k_steps
  unfold Hold
  rename News _ _ _ _ => N'
  refine eq_lists (xs := [.ref ?y1]) (ys := [.ref ?y3]) ?ga ?gb ?gl ?gu ?ge ?_
  case ga => exact News.isList N' (by k_mem)
  case gb => exact News.isList N' (by k_mem)
  case gl => rfl
  case gu => (simp only [units_in1, units_deeper, Around.mark_units, units_caller]; decide)
  case ge =>
    intro j h1 h2
    match j, h1, h2 with
    | 0, _, _ => exact eqAt_pair (News.isTup N' (by k_mem)) (News.isTup N' (by k_mem)) (by (simp only [units_in1, units_deeper, Around.mark_units, units_caller]; decide))
  k_with_none
  k_with "compareOp Eq int int" => (k_here; k_dflt (refine int_eq_same (hE.behind _) ?_))
  k_with "compareOp Eq bytes bytes" => (k_here; k_dflt (refine bytes_eq_same lit_ok ?_))
  k_with "call ref" => (k_dflt (refine' unfolded_use (l := [32, 97, 13, 10, 32, 98, 10, 9, 99, 32]) (by decide) rfl ?B ?F ?X ?N ?T ?hk ?hd ?hu ?_); (case B => k_asm); (case F => k_asm); (case X => k_asm); (case N => k_asm); (case T => k_asm); (case hk => first | exact rfl | assumption); (case hd => ktr_room); (case hu => ktr_units); intro t9 h9 tk9 F9 N9; (try dsimp only); (try k_fold))
  k_steps)
end
end Mine
set_option maxRecDepth 100000 in
theorem PySem.Challenge.cw_or0038_01_holds : PySem.Challenge.rw_or0038_01.Holds := by
  exact Mine.law_all
