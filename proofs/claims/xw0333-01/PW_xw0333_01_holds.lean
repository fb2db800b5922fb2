import PyProof.Rows.All
import Wide.All
import OpenK.AllK
import Wide.FinOn
import PySem.Challenge.RW_xw0333_01
open PySem PySem.W PyProof.Rows PySem.Calls PySem.Spec
set_option Elab.async false
set_option maxRecDepth 100000
namespace Mine
set_option maxHeartbeats 8000000 in
open_top hd1 for PySem.Challenge.rw_xw0333_01

section
variable {prog : Program} {w : World} {A : Around} {E : Value → Shared → Prop} {s : Shared}
theorem has_bytes : typeLookup (.type "bytes") "__bytes__" = pure (some (.builtin "bytes.__bytes__")) := by rw [typeLookup_type, builtinLookup_eq_fast]; kernel_rfl
theorem new_bytes {b : Array UInt8} {t : Tok} {Q : Value → Shared → Prop} (h : Q (.bytes b t) s) :
    codeAny (model prog w) A (.call (.builtin "bytes.__new__") ⟨[.type "bytes", .bytes b t], []⟩) (wants Q E) s := by
  refine codeAny_of_tree ?_
  show wpAny _ A.in1 (do checkBuiltinCall "bytes.__new__" ⟨[.type "bytes", .bytes b t], []⟩; again (.builtin "bytes.__new__" ⟨[.type "bytes", .bytes b t], []⟩)) _ _ s
  refine wpAny_bind (wpAny_of_eq (F.bm_newCall _) (wpAny_pure ⟨plainId_quiet F.bm_plain _, codeAny_builtin F.bm_entry ?_⟩))
  rw [Around.under_plainId F.bm_plain _]
  unfold Builtin.«bytes.__new__»
  refine wpAny_bind (wpAny_of_eq (a := true) rfl ?_)
  refine bm_if_false rfl ?_
  refine wpAny_bind (wpAny_of_eq F.bm_sub ?_)
  refine bm_if_false rfl ?_
  refine wpAny_bind (wpAny_of_eq (F.bm_bind _) ?_)
  refine wpAny_bind (wpAny_of_eq (a := ()) rfl ?_)
  refine wpAny_bind (wpAny_of_eq (a := ()) rfl ?_)
  refine bm_if_false rfl ?_
  refine wpAny_bind (wpAny_of_eq (KBy.special_eq has_bytes) ?_)
  refine wpAny_bind (wpAny_rule ?_)
  refine wpAny_bind (wpAny_typeOf (typeIs_bytes s b t) ?_)
  refine bm_if_true (by decide) ?_
  refine bm_if_true (by decide) ?_
  first
    | exact wpAny_pure h
    | exact wpAny_bind (wpAny_pure (wpAny_pure h))
theorem call_bytes_bytes {b : Array UInt8} {t : Tok} {Q : Value → Shared → Prop} (h : Q (.bytes b t) s) : wpAny (model prog w) A (call (.type "bytes") [.bytes b t]) Q E s := by
  refine callType_codes (Q₁ := fun obj s₁ => s₁.TypeIs obj "bytes" ∧ Q obj s₁) F.bm_called (F.bm_typeCall _) F.entry_object_init
    (new_bytes ⟨typeIs_bytes _ _ _, h⟩) fun obj s₁ h₁ => ?_
  exact ⟨h₁.1, F.args_object_init_2 obj _, object_init_meets F.bm_called.init.lookup F.bm_called.made (by decide) prog w A.in1 _ s₁ ⟨h₁.1, rfl, h₁.2⟩⟩
end

/-- the values are these octets, each with a token of its own -/
inductive BytesAre : List Value → List (Array UInt8) → Prop
  | nil : BytesAre [] []
  | cons (b : Array UInt8) (t : Tok) {vs : List Value} {ps : List (Array UInt8)} : BytesAre vs ps → BytesAre (.bytes b t :: vs) (b :: ps)
theorem BytesAre.length {vs : List Value} {ps : List (Array UInt8)} (h : BytesAre vs ps) : vs.length = ps.length := by
  induction h with
  | nil => rfl
  | cons b t _ ih => simp [ih]
theorem BytesAre.append {vs ws : List Value} {ps qs : List (Array UInt8)} (h : BytesAre vs ps) (k : BytesAre ws qs) : BytesAre (vs ++ ws) (ps ++ qs) := by
  induction h with
  | nil => exact k
  | cons b t _ ih => exact .cons b t ih
theorem BytesAre.get {vs : List Value} {ps : List (Array UInt8)} (h : BytesAre vs ps) : ∀ {i : Nat} {b : Array UInt8}, ps[i]? = some b → ∃ t, vs[i]? = some (.bytes b t) := by
  induction h with
  | nil => intro i b e; simp at e
  | cons b t _ ih =>
    intro i c e
    cases i with
    | zero => simp at e; subst e; exact ⟨t, rfl⟩
    | succ i => exact ih (by simpa using e)
theorem BytesAre.at {vs : List Value} {ps : List (Array UInt8)} (h : BytesAre vs ps) : ∀ {i : Nat} {v : Value}, vs[i]? = some v → ∃ b t, ps[i]? = some b ∧ v = .bytes b t := by
  induction h with
  | nil => intro i b e; simp at e
  | cons b t _ ih =>
    intro i c e
    cases i with
    | zero => simp at e; subst e; exact ⟨b, t, rfl, rfl⟩
    | succ i => exact ih (by simpa using e)
def cat (ps : List (Array UInt8)) : List UInt8 := (ps.map Array.toList).flatten

namespace Jn
open Builtin
theorem slot_join : Slot "bytes" "join" "bytes.join" :=
  .of (owner := "bytes") (n := "join") (by rw [typeLookup_type, builtinLookup_eq_fast]; kernel_rfl) (by decide +kernel) (by decide +kernel) (by decide +kernel)
    (by first | exact .inl (by decide +kernel) | exact .inr (by decide +kernel)) (by rw [isSubtype_type]; kernel_rfl)
theorem entry_join : entryFor table "bytes.join" = some Builtin.«bytes.join» := by first | exact entryFor_of_tree (by kernel_rfl) | exact entryFor_of_fast (by kernel_rfl)
theorem args_join (a b : Value) : argsOk "bytes.join" ⟨[a, b], []⟩ := by
  unfold argsOk; rw [signature?_of (id := "bytes.join") (n := ['n', 'i', 'o', 'j']) (o := ['s', 'e', 't', 'y', 'b']) (by kernel_rfl) FB.owner_bytes]; kernel_rfl
theorem take_eq {id : String} {b : Array UInt8} {t : Tok} : Bytes.takeBuffer? id (.bytes b t) 0 = pure (some (b, none)) := by
  unfold Bytes.takeBuffer?
  rw [KBy.special_eq KBy.look_buffer, KBy.own_buffer]
  simp only [pure_bind, Bool.not_true, Bool.false_eq_true, if_false]
  have e : ∀ f, Bytes.buffer? id (.bytes b t) f = pure (some b) := fun f => by
    unfold Bytes.buffer?
    rw [KBy.special_eq KBy.look_buffer, KBy.own_buffer, KBy.own_release]
    rfl
  rw [e]
  rfl
theorem takeQuiet_eq {id : String} {b : Array UInt8} {t : Tok} : Bytes.takeBufferQuiet? id (.bytes b t) 0 = pure (some (b, none)) := by
  unfold Bytes.takeBufferQuiet?
  rw [take_eq]
  rfl
theorem letGo_all {M : Model} {A : Around} {E : Value → Shared → Prop} {s : Shared} {Q : Unit → Shared → Prop} {keep : List Value} : ∀ {taken : List (Value × Option Value)}, (∀ p ∈ taken, p.2 = none) → Q () s → wpAny M A (Bytes.joinLetGo taken keep) Q E s
  | [], _, h => wpAny_pure h
  | (x, w) :: rest, hn, h => by
    have e : w = none := hn (x, w) (.head _)
    subst e
    unfold Bytes.joinLetGo
    exact wpAny_bind (wpAny_letGo (letGo_all (fun p hp => hn p (.tail _ hp)) h))
theorem joined_go (ps : List (Array UInt8)) : ∀ (k : Nat) (acc : Array UInt8), (ps.zipIdx k).foldl (fun out (p, i) => (if i > 0 then out ++ (#[] : Array UInt8) else out) ++ p) acc = acc ++ (cat ps).toArray := by
  induction ps with
  | nil => intro k acc; simp [cat]
  | cons p r ih =>
    intro k acc
    rw [List.zipIdx_cons, List.foldl_cons, ih]
    have e : (if k > 0 then acc ++ (#[] : Array UInt8) else acc) = acc := by split <;> simp
    simp only [e]
    have e2 : (cat (p :: r)).toArray = p ++ (cat r).toArray := by
      apply Array.toList_inj.mp
      simp [cat]
    rw [e2, Array.append_assoc]
theorem joined_eq (ps : List (Array UInt8)) : Bytes.joined #[] ps = (cat ps).toArray := by
  unfold Bytes.joined
  rw [joined_go]
  simp
theorem fold_size (ps : List (Array UInt8)) : ∀ k : Nat, ps.foldl (fun x p => x + p.size) k = k + (cat ps).length := by
  induction ps with
  | nil => intro k; simp [cat]
  | cons p r ih => intro k; rw [List.foldl_cons, ih]; simp [cat]; omega
theorem items_eq {M : Model} {A : Around} {E : Value → Shared → Prop} {s : Shared} {a : Addr} {its : Array Value} {Q : Option (Array Value) → Shared → Prop} (hl : s.heap.IsList a its) (h : Q (some its) s) : wpAny M A (seqItems? (.ref a)) Q E s := by
  obtain ⟨o, ho, hc, n, hd⟩ := hl
  unfold seqItems?
  refine wpAny_bind (wpAny_load ho ?_)
  rw [hd]
  exact wpAny_pure h
theorem meets_join (t : Tok) (a : Addr) (vs : List Value) (ps : List (Array UInt8)) (hb : BytesAre vs ps) (hz : (cat ps).length ≤ 16777216) :
    Meets («bytes.join» ⟨[.bytes #[] t, .ref a], []⟩) (fun _ R s => s.heap.IsList a vs.toArray ∧ ∀ t' k, R (.ok (.ret (.bytes (cat ps).toArray t'))) { s with toks := k }) := by
  refine .of_wp fun prog w A R s hS => ?_
  obtain ⟨hl, h⟩ := hS
  unfold «bytes.join» Bytes.joinM
  refine wpAny_bind (wpAny_of_eq (a := (Value.bytes #[] t, Value.ref a)) rfl ?_)
  dsimp only
  refine bm_if_true (by decide) ?_
  refine wpAny_bind ?_
  unfold Bytes.joinItems
  refine wpAny_bind (wpAny_typeOf hl.typeIs ?_)
  refine bm_if_true (by decide) ?_
  refine wpAny_pure ?_
  refine wpAny_bind (items_eq hl ?_)
  dsimp only
  refine bm_if_true (by decide) ?_
  have hcase : (∃ b t, vs = [.bytes b t] ∧ ps = [b]) ∨ vs = [] ∨ ∃ x y r, vs = x :: y :: r := by
    cases hb with
    | nil => exact .inr (.inl rfl)
    | cons b t r => cases r with
      | nil => exact .inl ⟨b, t, rfl, rfl⟩
      | cons c u r => exact .inr (.inr ⟨_, _, _, rfl⟩)
  rcases hcase with ⟨b, t, rfl, rfl⟩ | hcase
  · · with_unfolding_all refine wpAny_bind (wpAny_typeOf (typeIs_bytes s b t) ?_)
      refine bm_if_true (by decide) ?_
      refine wpAny_bind (wpAny_rule ?_)
      have e2 : (cat [b]).toArray = b := by
        apply Array.toList_inj.mp
        simp [cat]
      rw [e2] at h
      exact wpAny_pure ⟨_, rfl, h t s.toks⟩
  · have hb0 := hb
    have hl0 := hl
    obtain ⟨vs0, hvs0⟩ : ∃ v0, v0 = vs := ⟨vs, rfl⟩
    rw [← hvs0] at hb0 hl0
    rcases hcase with rfl | ⟨x, y, r, rfl⟩
    · cases hb
      with_unfolding_all refine wpAny_bind ?_
      rw [Std.Legacy.Range.forIn_eq_forIn_range']
      refine wpAny_forIn_list _ (fun rest (b : Array (Array UInt8) × List (Value × Option Value)) s' => rest = [] ∧ s' = s ∧ b = (#[], [])) _ (fun _ _ _ _ h9 => nomatch h9.1) ?_ _ _ ⟨rfl, rfl, rfl⟩
      rintro b s' ⟨_, rfl, rfl⟩
      refine wpAny_bind (wpAny_of_eq (a := #[]) rfl ?_)
      refine bm_if_false (by decide) ?_
      refine wpAny_bind (wpAny_mkBytes ?_ (by decide))
      refine wpAny_bind (wpAny_holding (wpAny_point ?_))
      refine wpAny_bind (letGo_all (fun p hp9 => nomatch hp9) ?_)
      exact wpAny_pure ⟨_, rfl, h _ _⟩
    with_unfolding_all refine wpAny_bind ?_
    rw [← hvs0]
    clear hvs0 hb hl
    rw [Std.Legacy.Range.forIn_eq_forIn_range']
    refine wpAny_forIn_list _ (fun rest (b : Array (Array UInt8) × List (Value × Option Value)) s' => s' = s ∧ ∃ i, rest = List.range' i (vs0.length - i) ∧ i ≤ vs0.length ∧ b.1.toList = ps.take i ∧ ∀ p ∈ b.2, p.2 = none ∧ p.1.onHeap = false) _ ?_ ?_ _ _ ?_
    · rintro x rest ⟨parts, taken⟩ s' ⟨rfl, i, hr, hi, hp, ht⟩
      dsimp only at hp ht ⊢
      have hlt : i < vs0.length := by
        rcases Nat.lt_or_ge i vs0.length with h1 | h1
        · exact h1
        · rw [Nat.sub_eq_zero_of_le h1] at hr; cases hr
      have e3 : vs0.length - i = (vs0.length - (i + 1)) + 1 := by omega
      rw [e3, List.range'_succ] at hr
      injection hr with hx hrest
      subst hx hrest
      obtain ⟨b, t, hpb, hv⟩ := hb0.at (List.getElem?_eq_getElem hlt)
      have hg : vs0.toArray.getD x Value.none = .bytes b t := by
        rw [← hv]; simp [Array.getD, hlt]
      refine wpAny_bind (items_eq hl0 ?_)
      dsimp only
      rw [hg]
      refine bm_if_false ?_ ?_
      · rw [Bool.or_eq_false_iff]
        exact ⟨by decide, List.any_eq_false.mpr fun p hp9 => by rw [(ht p hp9).2]; exact Bool.false_ne_true⟩
      refine wpAny_bind (wpAny_holding (wpAny_of_eq takeQuiet_eq ?_))
      dsimp only
      refine wpAny_bind (items_eq hl0 ?_)
      dsimp only
      refine bm_if_false (by simp) ?_
      refine wpAny_pure ⟨rfl, x + 1, rfl, hlt, ?_, ?_⟩
      · rw [Array.toList_push, hp, List.take_add_one, hpb]; rfl
      · intro p hp9
        rcases List.mem_append.mp hp9 with h9 | h9
        · exact ht p h9
        · rw [List.mem_singleton.mp h9]; exact ⟨rfl, rfl⟩
    · rintro ⟨parts, taken⟩ s' ⟨rfl, i, hr, hi, hp, ht⟩
      dsimp only at hp ht ⊢
      have hin : i = vs0.length := by
        have := congrArg List.length hr
        simp at this; omega
      rw [hin, hb0.length, List.take_length] at hp
      refine wpAny_bind (wpAny_of_eq (a := #[]) rfl ?_)
      have hz' : Array.foldl (fun x1 x2 => x1 + x2.size) ((#[] : Array UInt8).size * (parts.size - 1)) parts = (cat ps).length := by
        rw [← Array.foldl_toList, hp, fold_size]; simp
      refine bm_if_false ?_ ?_
      · rw [hz']
        unfold Bytes.tooLong
        rw [sizeLine_eq]
        exact decide_eq_false (by omega)
      have ej : Bytes.joined #[] parts.toList = (cat ps).toArray := by rw [hp, joined_eq]
      rw [ej]
      refine wpAny_bind (wpAny_mkBytes ?_ (by rw [sizeLine_eq]; simpa using hz))
      refine wpAny_bind (wpAny_holding (wpAny_point ?_))
      refine wpAny_bind (letGo_all (fun p hp9 => (ht p hp9).1) ?_)
      exact wpAny_pure ⟨_, rfl, h _ _⟩
    · refine ⟨rfl, 0, ?_, Nat.zero_le _, rfl, fun _ hp9 => nomatch hp9⟩
      simp [Std.Legacy.Range.size]
end Jn
section
variable {prog : Program} {w : World} {A : Around} {E : Value → Shared → Prop} {s : Shared}
theorem join_bytes {l : Addr} {vs : List Value} {ps : List (Array UInt8)} {t : Tok} {Q : Value → Shared → Prop} (hl : s.heap.IsList l vs.toArray) (hb : BytesAre vs ps) (hz : (cat ps).length ≤ 16777216)
    (h : ∀ t' k, Q (.bytes (cat ps).toArray t') { s with toks := k }) : wpAny (model prog w) A (call (.builtin "bytes.join") [.bytes #[] t, .ref l]) Q E s :=
  call_meets Jn.slot_join (typeIs_bytes s #[] t) Jn.entry_join (Jn.args_join _ _) (Jn.meets_join t l vs ps hb hz) ⟨hl, h⟩
end

section
variable {prog : Program} {w : World} {A : Around} {E : Value → Shared → Prop} {s : Shared} {h₀ : Heap} {L : Addr} {news : List (Addr × Obj)}
theorem item_list {value slice : PySem.Expr} {l : Addr} {vs : List Value} {c : Nat} {k : Int} {u : Tok} {v : Value} {Q : Value → Shared → Prop}
    (N : News h₀ L s.heap news) (hm : (l, listOf vs.toArray c) ∈ news) (h0 : 0 ≤ k) (hhi : k < 2 ^ 63) (hx : vs[k.toNat]? = some v) (h : Q v s)
    (hs : subscripted slice false (.ref l) (.int k u) = operate [.ref l, .int k u] (getItem (.ref l) (.int k u)) := by with_unfolding_all rfl) :
    wpAny (model prog w) A (subscriptTail value slice (.ref l) (.int k u)) Q E s :=
  have hl : s.heap.IsList l vs.toArray := ⟨_, (N _ hm).1, rfl, c, rfl⟩
  tail_any hl.typeIs slot_list_getitem.lookup (wpAny_getItem_list hl h0 hhi (by simpa using hx) h) hs
end
/-- the place of an octet: its part, the octets ahead of it there -/
def place : List (Array UInt8) → Nat → Nat × Nat
  | [], _ => (0, 0)
  | p :: r, k => if k < p.size then (0, k) else ((place r (k - p.size)).1 + 1, (place r (k - p.size)).2)

theorem clip_nn {n : Nat} {i : Int} (h : 0 ≤ i) : clipAt n i = min i.toNat n := by
  have e := clipAt_nat n i.toNat
  rwa [Int.toNat_of_nonneg h] at e
theorem picked_nn (b : Array UInt8) {lo hi : Int} (h0 : 0 ≤ lo) (h1 : 0 ≤ hi) :
    (KBy.picked b (some lo) (some hi)).toList = (b.toList.drop lo.toNat).take (hi.toNat - lo.toNat) := by
  rw [KBc.picked_eq]
  simp only [Option.elim]
  rw [clip_nn h0, clip_nn h1]
  clear h0 h1
  generalize lo.toNat = p
  generalize hi.toNat = q
  clear lo hi
  apply List.ext_getElem?
  intro i
  simp only [List.getElem?_take, List.getElem?_drop]
  have hl : b.toList.length = b.size := by simp
  by_cases c1 : min p b.size + i < b.size
  · by_cases c2 : i < q - p
    · rw [if_pos (by omega), if_pos c2]; congr 1; omega
    · rw [if_neg (by omega), if_neg c2]
  · have e1 : b.toList[min p b.size + i]? = none := List.getElem?_eq_none (by omega)
    have e2 : b.toList[p + i]? = none := List.getElem?_eq_none (by omega)
    rw [e1, e2]
    simp
section
variable {prog : Program} {w : World} {A : Around} {E : Value → Shared → Prop} {s : Shared} {value slice : PySem.Expr} {b : Array UInt8} {t : Tok} {h₀ : Heap} {L : Addr} {m : PySem.Str → Option Value} {news : List (Addr × Obj)} {lo hi : Int} {tl th : Tok} {Q : Value → Shared → Prop}
theorem slice_nn (hF : Fr h₀ L s.heap m) (hN : News h₀ L s.heap news) (h0 : 0 ≤ lo) (h1 : 0 ≤ hi) (hz : b.size ≤ 1000000)
    (h : ∀ h' pc t' k, Fr h₀ L h' m → News h₀ L h' news → pc.toList = (b.toList.drop lo.toNat).take (hi.toNat - lo.toNat) → pc.size ≤ 1000000 → Q (.bytes pc t') { s with heap := h', toks := k })
    (hs : subscripted slice false (.bytes b t) (.ref s.heap.objs.size) = operate [.ref s.heap.objs.size, .bytes b t] (getItem (.bytes b t) (.ref s.heap.objs.size)) := by with_unfolding_all rfl)
    (ht : ∀ r, letTemporaryGo value (.bytes b t) r = pure () := by intro _; with_unfolding_all rfl) :
    wpAny (model prog w) A (subscriptTail value slice (.bytes b t) (.ref s.heap.objs.size)) Q E { s with heap := s.heap.push { cls := .type "slice", data := .fields #[.int lo tl, .int hi th, .none] } } := by
  refine KBc.slice_K (lo := some lo) (hi := some hi) hF hN rfl (.int lo tl) (.int hi th) (by rw [KBw.ints_length]; omega) (fun h' t' k F' N' _ => ?_) hs ht
  exact h h' _ t' k F' N' (picked_nn b h0 h1) (Nat.le_trans (KBc.size_picked_le b _ _) hz)
end

theorem cat_nil : cat [] = [] := rfl
theorem cat_cons (p : Array UInt8) (r : List (Array UInt8)) : cat (p :: r) = p.toList ++ cat r := by simp [cat]
theorem cat_append (p q : List (Array UInt8)) : cat (p ++ q) = cat p ++ cat q := by simp [cat]
theorem cat_split (ps : List (Array UInt8)) (i : Nat) : cat ps = cat (ps.take i) ++ cat (ps.drop i) := by
  rw [← cat_append, List.take_append_drop]
theorem cat_take_succ' {ps : List (Array UInt8)} {i : Nat} {b : Array UInt8} (h : ps[i]? = some b) : cat (ps.take (i + 1)) = cat (ps.take i) ++ b.toList := by
  rw [List.take_add_one, h]
  simp [cat]
theorem place_at : ∀ (ps : List (Array UInt8)) (k : Nat), (∀ p ∈ ps, 0 < p.size) → k ≤ (cat ps).length →
    (place ps k).1 ≤ ps.length ∧ (cat (ps.take (place ps k).1)).length + (place ps k).2 = k ∧ (k < (cat ps).length → ∃ p, ps[(place ps k).1]? = some p ∧ (place ps k).2 < p.size) ∧ (k = (cat ps).length → place ps k = (ps.length, 0))
  | [], k, _, hk => by
    have : k = 0 := by simpa [cat] using hk
    subst this
    simp [place, cat]
  | p :: r, k, hp, hk => by
    have ih := place_at r (k - p.size) (fun q hq => hp q (.tail _ hq))
    rw [cat_cons] at hk ⊢
    simp only [List.length_append, Array.length_toList] at hk ⊢
    unfold place
    by_cases c : k < p.size
    · rw [if_pos c]
      refine ⟨by simp, by simp [cat], fun _ => ⟨p, rfl, c⟩, fun h => ?_⟩
      clear ih
      omega
    · rw [if_neg c]
      have b1 : k - p.size ≤ (cat r).length := by clear ih; omega
      have b2 : k < p.size + (cat r).length → k - p.size < (cat r).length := by clear ih; omega
      have b3 : k = p.size + (cat r).length → k - p.size = (cat r).length := by clear ih; omega
      obtain ⟨a1, a2, a3, a4⟩ := ih b1
      refine ⟨by simpa using a1, ?_, fun h => ?_, fun h => ?_⟩
      · simp only [List.take_succ_cons, cat_cons, List.length_append, Array.length_toList]
        clear a3 a4 b2 b3 ih
        omega
      · obtain ⟨q, q1, q2⟩ := a3 (b2 h)
        exact ⟨q, by simpa using q1, q2⟩
      · rw [a4 (b3 h)]; simp
/-- these octets stand there, whole -/
abbrev StandsP (ps : List (Array UInt8)) (b : Array UInt8) (k : Nat) : Prop := k + b.size ≤ (cat ps).length ∧ ((cat ps).drop k).take b.size = b.toList
/-- ahead of a turn: so many octets are matched, and this is the place of the next one -/
def StandJ (ps : List (Array UInt8)) (b : Array UInt8) (k t i j : Nat) : Prop :=
  t ≤ b.size ∧ ((cat ps).drop k).take t = b.toList.take t ∧ (t < b.size → i ≤ ps.length ∧ (cat (ps.take i)).length + j = k + t ∧ ∃ p, ps[i]? = some p ∧ j < p.size)
theorem standJ_start {ps : List (Array UInt8)} {b : Array UInt8} {k : Nat} (hp : ∀ p ∈ ps, 0 < p.size) (hk : k + b.size ≤ (cat ps).length) : StandJ ps b k 0 (place ps k).1 (place ps k).2 := by
  obtain ⟨a1, a2, a3, a4⟩ := place_at ps k hp (by omega)
  exact ⟨Nat.zero_le _, by simp, fun h => ⟨a1, by omega, a3 (by omega)⟩⟩
theorem standJ_end {ps : List (Array UInt8)} {b : Array UInt8} {k t i j : Nat} (h : StandJ ps b k t i j) (ht : ¬ t < b.size) (hk : k + b.size ≤ (cat ps).length) : StandsP ps b k := by
  obtain ⟨h1, h2, _⟩ := h
  have e : t = b.size := by omega
  subst e
  refine ⟨hk, h2.trans ?_⟩
  exact List.take_of_length_le (by simp)
section
variable {ps : List (Array UInt8)} {b p pc : Array UInt8} {k t i j : Nat}
theorem rest_at (h : StandJ ps b k t i j) (ht : t < b.size) (hpi : ps[i]? = some p) : (cat ps).drop (k + t) = p.toList.drop j ++ cat (ps.drop (i + 1)) := by
  have h' := h
  obtain ⟨_, _, h3⟩ := h'
  obtain ⟨a1, a2, q, hq, hj⟩ := h3 ht
  rw [hpi] at hq
  cases hq
  clear h3 h
  have hlt : i < ps.length := (List.getElem?_eq_some_iff.mp hpi).1
  have hpe : ps[i] = p := (List.getElem?_eq_some_iff.mp hpi).2
  rw [cat_split ps i, ← a2, List.drop_append, List.drop_eq_nil_of_le (by omega), List.nil_append, List.drop_eq_getElem_cons hlt, cat_cons, hpe, List.drop_append_of_le_length (by simp; omega)]
  congr 2
  omega
/-- the piece is the part's rest, or as much of it as is wanted -/
theorem piece_at (h : StandJ ps b k t i j) (ht : t < b.size) (hpi : ps[i]? = some p) (hpc : pc.toList = (p.toList.drop j).take (b.size - t)) : pc.toList = ((cat ps).drop (k + t)).take pc.size ∧ 0 < pc.size ∧ pc.size ≤ b.size - t ∧ pc.size = min (b.size - t) (p.size - j) := by
  have hj : j < p.size := by
    obtain ⟨_, _, q, hq, hj⟩ := h.2.2 ht
    rw [hpi] at hq; cases hq; exact hj
  have hs : pc.size = min (b.size - t) (p.size - j) := by
    have := congrArg List.length hpc
    simpa using this
  refine ⟨?_, by omega, by omega, hs⟩
  rw [rest_at h ht hpi, List.take_append_of_le_length (by simp; omega), hpc]
  apply List.ext_getElem?
  intro n
  simp only [List.getElem?_take]
  by_cases c : n < p.size - j
  · by_cases c2 : n < b.size - t
    · rw [if_pos c2, if_pos (by omega)]
    · rw [if_neg c2, if_neg (by omega)]
  · have e2 : (p.toList.drop j)[n]? = none := List.getElem?_eq_none (by simp; omega)
    rw [e2]; simp
theorem standJ_step (h : StandJ ps b k t i j) (ht : t < b.size) (hp : ∀ p ∈ ps, 0 < p.size) (hk : k + b.size ≤ (cat ps).length) (hpi : ps[i]? = some p) (hpc : pc.toList = (p.toList.drop j).take (b.size - t)) (he : pc.toList = (b.toList.drop t).take pc.size) :
    StandJ ps b k (t + pc.size) (i + 1) 0 := by
  obtain ⟨q1, q2, q3, q4⟩ := piece_at h ht hpi hpc
  obtain ⟨h1, h2, h3⟩ := h
  obtain ⟨a1, a2, q, hq, hj⟩ := h3 ht
  clear h3
  rw [hpi] at hq; cases hq
  have hlt : i < ps.length := (List.getElem?_eq_some_iff.mp hpi).1
  have hc := cat_take_succ' hpi
  have hb : pc.toList.length = pc.size := by simp
  refine ⟨by omega, ?_, fun h9 => ?_⟩
  · rw [List.take_add, List.take_add, h2, List.drop_drop, ← q1]
    congr 1
  · have q5 : pc.size = p.size - j := by omega
    have hl : (cat (ps.take (i + 1))).length = k + (t + pc.size) := by
      have hpl : p.toList.length = p.size := by simp
      rw [hc, List.length_append, hpl]; omega
    have hlen : i + 1 < ps.length := by
      rcases Nat.lt_or_ge (i + 1) ps.length with c | c
      · exact c
      · rw [List.take_of_length_le c] at hl; omega
    refine ⟨Nat.le_of_lt hlen, by omega, ps[i + 1], List.getElem?_eq_getElem hlen, hp _ (List.getElem_mem hlen)⟩
/-- a piece that is another one: the octets do not stand there -/
theorem standJ_no (h : StandJ ps b k t i j) (ht : t < b.size) (hpi : ps[i]? = some p) (hpc : pc.toList = (p.toList.drop j).take (b.size - t)) (he : pc.toList ≠ (b.toList.drop t).take pc.size) : ¬ StandsP ps b k := by
  obtain ⟨q1, q2, q3, q4⟩ := piece_at h ht hpi hpc
  intro hs
  apply he
  obtain ⟨s1, s2⟩ := hs
  clear h
  rw [q1, ← s2]
  apply List.ext_getElem?
  intro n
  simp only [List.getElem?_take, List.getElem?_drop]
  by_cases c : n < pc.size
  · rw [if_pos c, if_pos c, if_pos (by omega)]; congr 1; omega
  · rw [if_neg c, if_neg c]
end

section
variable {prog : Program} {w : World} {A : Around} {E : Value → Shared → Prop} {s : Shared}
theorem eqAt_bytes {b : Array UInt8} {t u : Tok} : SeqAt.EqAt A s (.bytes b t) (.bytes b u) true := fun prog w E Q hq => by
  unfold eqBool
  refine wpAny_holding ?_
  refine wpAny_ite_split (fun _ => wpAny_bind (wpAny_rule (wpAny_pure hq))) (fun _ => ?_)
  refine wpAny_bind (eq_bytes (w := w) ?_)
  have e : (b.toList == b.toList) = true := beq_self_eq_true _
  rw [e]
  exact wpAny_truthy_bool hq
theorem eq_bytes_lists {l k : Addr} {vs ws : List Value} {ps : List (Array UInt8)} {Q : Value → Shared → Prop} (hl : s.heap.IsList l vs.toArray) (hk : s.heap.IsList k ws.toArray) (hb : BytesAre vs ps) (hc : BytesAre ws ps) (hu : A.units < cLine)
    (h : Q (.bool true) s) : wpAny (model prog w) A (compareOp .Eq (.ref l) (.ref k)) Q E s := by
  have e1 := hb.length
  have e2 := hc.length
  refine SeqAt.eq_listAt (e := fun _ => true) hl hk (by simp [e1, e2]) hu (fun j h1 h2 => ?_) (by rw [List.all_eq_true.mpr fun _ _ => rfl]; exact h)
  have hj : j < ps.length := by simpa [e1] using h1
  obtain ⟨t, ht⟩ := hb.get (List.getElem?_eq_getElem hj)
  obtain ⟨u, hu'⟩ := hc.get (List.getElem?_eq_getElem hj)
  have g1 : vs.toArray[j] = .bytes ps[j] t := by
    have := (List.getElem?_eq_some_iff.mp ht).2
    simpa using this
  have g2 : ws.toArray[j] = .bytes ps[j] u := by
    have := (List.getElem?_eq_some_iff.mp hu').2
    simpa using this
  rw [g1, g2]
  exact eqAt_bytes
theorem type_join : typeOf (.builtin "bytes.join") = pure (.type "method_descriptor") := by show builtinType _ = _; rw [builtinType_eq_fast]; kernel_rfl
theorem getMethod_join {M : Model} {b : Array UInt8} {t : Tok} {pl : Sem Bool} {Q : Value × List Value → Shared → Prop} (h : Q (.builtin "bytes.join", [.bytes b t]) s) : wpAny M A (getMethod (.bytes b t) "join" pl) Q E s := by
  with_reducible exact KBd.method_of (.bytes b t) (typeIs_bytes _ _ _) Jn.slot_join type_join KBd.noRef h
end

/-- what holds ahead of turn i: the ledger, the named locals, a word of one's own -/
def LoopJ {σ : Type} (Led : σ → List (Addr × Obj)) (ps : σ → List (Str × Value)) (x : Str) (stored : List Str) (m₀ : Str → Option Value) (P : Nat → σ → Prop) (i : Nat) (m : Str → Option Value) (nx : List (Addr × Obj)) : Prop :=
  ∃ c : σ, nx = Led c ∧ (∀ p ∈ ps c, m p.1 = some p.2) ∧ (∀ z, z ≠ x → (∀ p ∈ ps c, z ≠ p.1) → stored.contains z = false → m z = m₀ z) ∧ P i c
section
variable {prog : Program} {w : World} {A : Around} {E : Value → Shared → Prop} {s : Shared} {env : Env} {h₀ : Heap} {x : Str} {body : List Stmt} {Q : Flow → Shared → Prop}
theorem my_list {σ : Type} {l : Addr} {vs : List Value} {nn : Nat} {m₀ : Str → Option Value} (Led : σ → List (Addr × Obj)) (ps : σ → List (Str × Value)) (stored : List Str) (P : Nat → σ → Prop) (c₀ : σ)
    (hh : A.handled = none) (hl : ∀ c, (l, listOf vs.toArray nn) ∈ Led c) (F : Fr h₀ env.locals s.heap m₀) (N : News h₀ env.locals s.heap (Led c₀)) (hk : ∀ p ∈ ps c₀, m₀ p.1 = some p.2) (hp : P 0 c₀)
    (turn : ∀ i v c (u : Str → Option Value) h tk own, vs[i]? = some v → OwnOff own ((Led c).map (·.1)) → P i c →
      Fr h₀ env.locals h (fun y => if y = x then some v else kstB (fun z => if stored.contains z then u z else m₀ z) (ps c) y) → News h₀ env.locals h (Led c ++ own) →
      wpAny (model prog w) A (execs body env) (InvPostG h₀ env.locals (LoopJ Led ps x stored m₀ P (i + 1)) own { s with heap := h, toks := tk } Q) E { s with heap := h, toks := tk })
    (done : ∀ c (u : Str → Option Value) h tk, P vs.length c → Fr h₀ env.locals h (fun y => if y = x then u y else kstB (fun z => if stored.contains z then u z else m₀ z) (ps c) y) → News h₀ env.locals h (Led c) → Q .next { s with heap := h, toks := tk }) :
    wpAny (model prog w) A (pyIter (.ref l)) (fun it s₂ => LoopAtV prog w A h₀ env x body Q E it s₂) E s := by
  refine kdl_iter (LoopJ Led ps x stored m₀ P) hh (hl c₀) F N ⟨c₀, rfl, hk, fun _ _ _ _ => rfl, hp⟩ ?_ ?_
  · rintro i v m₁ nx h tk own hv hoff _ ⟨c, rfl, h1, h2, hp'⟩ F₁ N₁
    refine wpAny_mono (turn i v c m₁ h tk own hv hoff hp' (kst_fr h1 h2 F₁) N₁) (fun f s₂ p => ?_) fun _ _ e => e
    have up : InvEndG h₀ env.locals (LoopJ Led ps x stored m₀ P (i + 1)) own { s with heap := h, toks := tk } s₂ → InvEndG h₀ env.locals (fun m' nx => (l, listOf vs.toArray nn) ∈ nx ∧ LoopJ Led ps x stored m₀ P (i + 1) m' nx) own { s with heap := h, toks := tk } s₂ := by
      rintro ⟨h', tk', m', news', nx', e', F', N', hn', ho', ha, hS⟩
      refine ⟨h', tk', m', news', nx', e', F', N', hn', ho', ha, ?_, hS⟩
      obtain ⟨c', rfl, _⟩ := hS
      exact hl c'
    cases f with
    | ret v => exact p
    | brk => exact p
    | next => exact up p
    | cont => exact up p
  · rintro m₁ nx h tk ⟨c, rfl, h1, h2, hp'⟩ F₁ N₁
    exact done c m₁ h tk hp' (kst_frOut h1 h2 F₁) N₁
theorem my_range {σ : Type} {r : Addr} {a₀ b₀ : Int} {t₀ u₀ v₀ : Tok} {n : Nat} {m₀ : Str → Option Value} (Led : σ → List (Addr × Obj)) (ps : σ → List (Str × Value)) (stored : List Str) (P : Nat → σ → Prop) (c₀ : σ)
    (hh : A.handled = none) (hr : IsRange s.heap r a₀ b₀ 1 t₀ u₀ v₀) (hsmall : Builtin.Range.small a₀ b₀ 1 = true) (hsz : Builtin.Range.rangeSize a₀ b₀ 1 = (n : Int)) (F : Fr h₀ env.locals s.heap m₀) (N : News h₀ env.locals s.heap (Led c₀)) (hk : ∀ p ∈ ps c₀, m₀ p.1 = some p.2) (hp : P 0 c₀)
    (turn : ∀ i t c (u : Str → Option Value) h tk own, i < n → OwnOff own ((Led c).map (·.1)) → P i c →
      Fr h₀ env.locals h (fun y => if y = x then some (.int (a₀ + (i : Int)) t) else kstB (fun z => if stored.contains z then u z else m₀ z) (ps c) y) → News h₀ env.locals h (Led c ++ own) →
      wpAny (model prog w) A (execs body env) (InvPostG h₀ env.locals (LoopJ Led ps x stored m₀ P (i + 1)) own { s with heap := h, toks := tk } Q) E { s with heap := h, toks := tk })
    (done : ∀ c (u : Str → Option Value) h tk, P n c → Fr h₀ env.locals h (fun y => if y = x then u y else kstB (fun z => if stored.contains z then u z else m₀ z) (ps c) y) → News h₀ env.locals h (Led c) → Q .next { s with heap := h, toks := tk }) :
    wpAny (model prog w) A (pyIter (.ref r)) (fun it s₂ => LoopAtV prog w A h₀ env x body Q E it s₂) E s := by
  refine wpAny_pyIter_range hr hsmall ?_
  have W : Walks prog w A s.heap.objs.size [s.heap.objs.size] [s.heap.objs.size] n (fun i v => i < n ∧ ∃ t, v = .int (a₀ + i * 1) t)
      (fun i h => IsRangeIter h s.heap.objs.size (a₀ + (i : Nat) * 1) ((n : Int) - (i : Nat)) 1) := (Walks.range hh _ a₀ 1 n).bound
  refine kdr_loop (LoopJ Led ps x stored m₀ P) W (fun _ h => h) (fun _ h => h) ?_ ?_ ?_ ?_ (by show IsRangeIter _ _ _ _ _; rw [hsz]; simpa using Heap.get?_push_size _ rfl) (F.push _) (fun p hp => ⟨Heap.get?_push_of_some _ (N p hp).1, (N p hp).2⟩) ⟨c₀, rfl, hk, fun _ _ _ _ => rfl, hp⟩ ?_ ?_
  · intro i h hi b hb
    rw [List.mem_singleton.mp hb]
    exact ⟨_, hi⟩
  · intro hm
    exact absurd F.ns.lt ((List.mem_singleton.mp hm) ▸ Nat.lt_irrefl _)
  · intro b hb
    rw [List.mem_singleton.mp hb]
    exact next_is_new F
  · intro p hp hI
    exact absurd (Heap.lt_size (N p hp).1) ((List.mem_singleton.mp hI) ▸ Nat.lt_irrefl _)
  · rintro i v m₁ nx h tk own hi ⟨_, t, rfl⟩ hoff ⟨c, rfl, h1, h2, hp'⟩ F₁ N₁
    have e1 : a₀ + (i : Int) * 1 = a₀ + (i : Int) := by omega
    rw [e1] at F₁
    exact turn i t c m₁ h tk own hi hoff hp' (kst_fr h1 h2 F₁) N₁
  · rintro m₁ nx h tk ⟨c, rfl, h1, h2, hp'⟩ F₁ N₁
    exact done c m₁ h tk hp' (kst_frOut h1 h2 F₁) N₁
theorem my_end {σ : Type} {Led : σ → List (Addr × Obj)} {ps : σ → List (Str × Value)} {stored : List Str} {m₀ : Str → Option Value} {P : Nat → σ → Prop} {i : Nat} (c : σ) {L : Addr} {m' : Str → Option Value} {own news' : List (Addr × Obj)} {s₁ : Shared} {h' : Heap} {tk : Nat}
    (F : Fr h₀ L h' m') (N : News h₀ L h' news') (hn : ∀ p ∈ Led c, p ∈ news') (ho : ∀ p ∈ own, p ∈ news') (hoff : OwnOff own ((Led c).map (·.1))) (hk : ∀ p ∈ ps c, m' p.1 = some p.2) (hr : ∀ z, z ≠ x → (∀ p ∈ ps c, z ≠ p.1) → stored.contains z = false → m' z = m₀ z) (hp : P i c) :
    InvEndG h₀ L (LoopJ Led ps x stored m₀ P i) own s₁ { s₁ with heap := h', toks := tk } := ⟨h', tk, m', news', Led c, rfl, F, N, hn, ho, hoff, c, rfl, hk, hr, hp⟩
end

structure Cx (w : World) (mean : ExcName → Option Value) (mg mb : Str → Option Value) (cs : Scope) (outer : List Env) (A₀ : Around) (base h₀ : Heap) : Prop where
  B : Below A₀ base outer h₀
  X : (hd1.heap_39 w.params).In h₀
  T : Top hd1.view_39 (looseW hd1.view_39 []) mean mg mb h₀
  hk : cs.kind = .function

theorem fm0 {a b : Int} (h : 0 < b) : 0 ≤ a.fmod b := by
  rw [Int.fmod_eq_emod_of_nonneg _ (by omega)]
  exact Int.emod_nonneg _ (by omega)
theorem mulOk_fmod (z : Int) : IntMulOk (z.fmod 2147483647) (z.fmod 2147483647) := by
  have h0 : 0 ≤ z.fmod 2147483647 := fm0 (by decide)
  have h1 : z.fmod 2147483647 < 2147483647 := Int.fmod_lt_of_pos _ (by decide)
  exact .of_right (intBits_le_64 (by omega) (by omega))
theorem fdiv_nonneg' {x t : Int} (hx : 0 ≤ x) (ht : 0 < t) : 0 ≤ x.fdiv t := Int.fdiv_nonneg hx (by omega)
theorem fdiv_le' {x t : Int} (hx : 0 ≤ x) (ht : 1 ≤ t) : x.fdiv t ≤ x := by
  rw [Int.fdiv_eq_ediv_of_nonneg _ (by omega)]
  exact Int.ediv_le_self _ hx

set_option maxHeartbeats 4000000 in
theorem take_spec {w : World} {mean : ExcName → Option Value} {mg mb : Str → Option Value} {cs : Scope} {outer : List Env} {A₀ : Around} {base h₀ : Heap} (C : Cx w mean mg mb cs outer A₀ base h₀)
    {dp un : Nat} {gd : Option (List Code)} {cn : Str} {a : Addr} {ccd : Value} {cl : List (Str × Addr)} {L : Addr} {m : Str → Option Value} {s : Shared} {Q E : Value → Shared → Prop}
    (hd : dp + 3 < recursionLimit) (F : Fr h₀ L s.heap m)
    {src : Addr} {x y top : Int} {tx ty tt : Tok} {nn : Nat} {news : List (Addr × Obj)}
    (N : News h₀ L s.heap ((src, listOf #[.int x tx, .int y ty] nn) :: news)) (hoff : OwnOff news [src])
    (hx : 0 ≤ x) (hy : 0 ≤ y) (hy' : y < 2147483647) (ht : 1 ≤ top) (ht' : top < 1048576)
    (ret : ∀ v x' y' tv tx' ty' h' tk', 0 ≤ v → v < top → 0 ≤ x' → x' ≤ x → 0 ≤ y' → y' < 2147483647 → Fr h₀ L h' m → News h₀ L h' ((src, listOf #[.int x' tx', .int y' ty'] nn) :: news) → Q (.int v tv) { s with heap := h', toks := tk' }) :
    wpAny (model PySem.Challenge.rw_xw0333_01.row.prog w) (ktrTop dp un gd cn cs L a ccd cl outer) (call (.ref 262) [.ref src, .int top tt]) Q E s := by
  obtain ⟨B, X, T, hk⟩ := C
  refine wpAny_call ?_
  k_dflt cell_enter
  k_steps
  · exact ret _ _ _ _ _ _ _ _ (fm0 (by omega)) (Int.fmod_lt_of_pos _ (by omega)) (fdiv_nonneg' hx (by omega)) (fdiv_le' hx ht) hy hy' (by assumption) (by assumption)
  · refine mul_int ?_ (mulOk_fmod _)
    k_steps
    rename_i kF kN _ _
    exact ret _ _ _ _ _ _ _ _ (fm0 (by omega)) (Int.fmod_lt_of_pos _ (by omega)) hx (Int.le_refl _) (fm0 (by decide)) (Int.fmod_lt_of_pos _ (by decide)) (by assumption) (by assumption)

/-- the walk stops here: the prover goes on by hand -/
structure Stop (P : Prop) : Prop where
  out : P
structure PastIt : Prop where
  mark :: (one : True)
theorem join_int {M : Model} {A : Around} {E : Value → Shared → Prop} {s : Shared} {t : Sem Value} {Q : Value → Shared → Prop} (P : Int → Prop)
    (h1 : wpAny M A t (fun v s' => ∃ n u k, v = .int n u ∧ P n ∧ s' = { s with toks := k }) E s) (h2 : ∀ n u k, P n → Q (.int n u) { s with toks := k }) : wpAny M A t Q E s :=
  wpAny_mono h1 (fun v s' h => by obtain ⟨n, u, k, rfl, a, rfl⟩ := h; exact h2 n u k a) fun _ _ e => e
local macro_rules
  | `(tactic| walk_at "call ref") => `(tactic| refine Stop.out ?_)
  | `(tactic| walk_at "eval IfExp") => `(tactic| ((fail_if_success (rename PastIt => hM9)); refine Stop.out ?_))
  | `(tactic| walk_at "eval ListComp") => `(tactic| refine Stop.out ?_)
  | `(tactic| walk_at "exec Assign cons ListComp") => `(tactic| refine Stop.out ?_)
  | `(tactic| walk_at "CompSrc") => `(tactic| refine Stop.out ?_)
  | `(tactic| walk_at "CompSrcT") => `(tactic| refine Stop.out ?_)
  | `(tactic| walk_at "CompEnd") => `(tactic| refine Stop.out ?_)
  | `(tactic| walk_at "InvEndG") => `(tactic| refine Stop.out ?_)
  | `(tactic| walk_at "KswEnd") => `(tactic| refine Stop.out ?_)
  | `(tactic| walk_at "exec While Compare cons nil") => `(tactic| refine Stop.out ?_)
  | `(tactic| walk_at "compareOp Eq ref ref") => `(tactic| refine Stop.out ?_)
  | `(tactic| walk_at "call builtin:bytes.join") => `(tactic| refine Stop.out ?_)
  | `(tactic| walk_at "pyIter ref") => `(tactic| ((with_reducible show wpAny _ _ (pyIter (Value.ref _)) (fun it s₂ => LoopAtV _ _ _ _ _ _ _ _ _ it s₂) _ _); refine Stop.out ?_))
  | `(tactic| walk_at "exec For Name") => `(tactic| (k_here; (rename Fr _ _ _ _ => lF'); (with_unfolding_all refine' For_invVF lF' rfl rfl ?_)))
  | `(tactic| walk_at "exec For Name Attribute cons nil") => `(tactic| walk_at "exec For Name")
  | `(tactic| walk_at "exec For Name Call cons nil") => `(tactic| walk_at "exec For Name")
  | `(tactic| walk_at "exec For Name List cons nil") => `(tactic| walk_at "exec For Name")
  | `(tactic| walk_at "call type:bytes") => `(tactic| with_reducible refine call_bytes_bytes ?_)
  | `(tactic| walk_at "getMethod bytes") => `(tactic| with_reducible refine getMethod_join ?_)
  | `(tactic| walk_at "binaryOp Add bytes bytes") => `(tactic| ((refine KBy.add_bytes (by (show Array.size _ + 1 ≤ 16777216); omega) ?_); intro _ _))
  | `(tactic| walk_at "call builtin:len") => `(tactic| first
    | ((with_reducible show wpAny _ _ (call (Value.builtin "len") [Value.bytes _ _]) _ _ _); refine len_bytes (by first | assumption | omega) ?_)
    | (k_dflt (refine kst_len (by k_asm) (by k_mem) (BytesAre.length (by assumption)) (by omega) ?_)))
  | `(tactic| walk_at "subscriptTail") => `(tactic| first
    | ((with_reducible show wpAny _ _ (subscriptTail _ (Expr.Slice _ _ none _) (Value.bytes _ _) (Value.ref _)) _ _ _); (with_reducible rename Fr _ _ _ _ => F'); (with_reducible rename News _ _ _ _ => N'); (refine slice_nn (s := ⟨_, _, _, _, _⟩) F' N' (by omega) (by omega) (by omega) ?_); intro h' pc' t' k' F' N' hpc' hpz')
    | (k_dflt (refine item_list (by k_asm) (by k_mem) (by omega) (by omega) (by assumption) ?_)))
local macro_rules | `(tactic| k_mem) => `(tactic| assumption)



section
open LCg
variable {prog : Program} {w : World} {A : Around} {h₀ : Heap} {L : Addr} {m : Str → Option Value} {env : Env}
theorem comp_inv {elt : Expr} {x : Str} {scope : Scope} {cl : List (Str × Addr)} {s : Shared} {S : List (Addr × Obj) → Prop} {P : Nat → Value → Prop} {Fin : List Value → List (Addr × Obj) → Prop} {n : Nat}
    (Inv : Nat → List Value → List (Addr × Obj) → Prop)
    (step : ∀ i ys news, i < n → Inv i ys news → ∀ v I oI C oC D m₂ h tk (E' : Value → Shared → Prop), P i v → NsObj oC m₂ → m₂ x = some v → Fr h₀ L h m → News h₀ L h ((I, oI) :: (C, oC) :: (D, lst ys) :: news) → Off3 I C D news → ((@Ne Nat I C) ∧ (@Ne Nat I D) ∧ (@Ne Nat C D)) →
      wpAny (model prog w) A (eval elt (compEnvC scope cl C env)) (CompEnd h₀ L m { s with heap := h, toks := tk } I oI C oC D (lst ys) S (fun y news' => Inv (i + 1) (ys ++ [y]) news')) E' { s with heap := h, toks := tk })
    (fin : ∀ ys news, Inv n ys news → Fin ys news) :
    ∀ j i ys news, i + j = n → Inv i ys news → CompRest prog w A h₀ L m env elt x scope cl s S P Fin j i ys news := by
  intro j
  induction j with
  | zero =>
    intro i ys news hi hI
    have e : i = n := by omega
    subst e
    exact CompRest.zero (fin ys news hI)
  | succ j ih =>
    intro i ys news hi hI
    refine CompRest.succ ?_
    intro v I oI C oC D m₂ h tk E' hv hC hx F N off ne
    refine wpAny_mono (step i ys news (by omega) hI v I oI C oC D m₂ h tk E' hv hC hx F N off ne) (fun y s₂ hq => ?_) fun _ _ e => e
    obtain ⟨h', tk', nw, e, F', N', off', hS, hn⟩ := hq
    exact ⟨h', tk', nw, e, F', N', off', hS, ih (i + 1) _ _ (by omega) hn⟩
end
theorem News.sub {h₀ h : Heap} {L : Addr} {l l' : List (Addr × Obj)} (N : News h₀ L h l) (hs : ∀ p ∈ l', p ∈ l) : News h₀ L h l' := fun p hp => N p (hs p hp)
theorem off_cons {src : Addr} {p : Addr × Obj} {l : List (Addr × Obj)} (h : @Ne Nat p.1 src) (hl : OwnOff l [src]) : OwnOff (p :: l) [src] := fun q hq b hb => by
  rcases List.mem_cons.mp hq with rfl | hq
  · rw [List.mem_singleton.mp hb]; exact h
  · exact hl q hq b hb
theorem off_nil {src : Addr} : OwnOff [] [src] := fun _ hq => nomatch hq
def SrcInv (src : Addr) (nn : Nat) (led : List (Addr × Obj)) (x : Int) (news : List (Addr × Obj)) : Prop :=
  ∃ x' y' tx' ty', 0 ≤ x' ∧ x' ≤ x ∧ 0 ≤ y' ∧ y' < 2147483647 ∧ news = (src, listOf #[.int x' tx', .int y' ty'] nn) :: led

set_option maxHeartbeats 4000000 in
theorem letters_spec {w : World} {mean : ExcName → Option Value} {mg mb : Str → Option Value} {cs : Scope} {outer : List Env} {A₀ : Around} {base h₀ : Heap} (C : Cx w mean mg mb cs outer A₀ base h₀)
    {dp un : Nat} {gd : Option (List Code)} {cn : Str} {a : Addr} {ccd : Value} {cl : List (Str × Addr)} {L : Addr} {m : Str → Option Value} {s : Shared} {Q E : Value → Shared → Prop}
    (hd : dp + 5 < recursionLimit) (F : Fr h₀ L s.heap m)
    {src : Addr} {x y many : Int} {tx ty tt : Tok} {nn : Nat} {news : List (Addr × Obj)}
    (N : News h₀ L s.heap ((src, listOf #[.int x tx, .int y ty] nn) :: news)) (hoff : OwnOff news [src])
    (hx : 0 ≤ x) (hy : 0 ≤ y) (hy' : y < 2147483647) (ht : 0 ≤ many) (ht' : many < 1000)
    (ret : ∀ (b : Array UInt8) x' y' tv tx' ty' h' tk', (b.size : Int) = many → 0 ≤ x' → x' ≤ x → 0 ≤ y' → y' < 2147483647 → Fr h₀ L h' m → News h₀ L h' ((src, listOf #[.int x' tx', .int y' ty'] nn) :: news) → Q (.bytes b tv) { s with heap := h', toks := tk' }) :
    wpAny (model PySem.Challenge.rw_xw0333_01.row.prog w) (ktrTop dp un gd cn cs L a ccd cl outer) (call (.ref 267) [.ref src, .int many tt]) Q E s := by
  obtain ⟨B, X, T, hk⟩ := C
  refine wpAny_call ?_
  k_dflt (refine' code_defC ?k1 ?k2 ?k3 ?k4 ?k5 ?kA ?kF ?kK ?k6 ?k7 ?k8 ?k9 ?kB ?kD ?_ ?c2 ?c3 ?c4; (case kA => exact rfl); (case kF => exact rfl); (case kK => assumption); (case k1 => k_asm); (case k2 => k_asm); (case k3 => k_asm); (case k4 => k_asm); (case k5 => k_asm); (case k6 => k_is); (case k7 => k_is); (case k8 => ktr_room); (case k9 => exact BindsTo.of_eq rfl); (case kB => exact rfl); (case kD => decide +kernel); (case c2 => exact rfl); (case c3 => exact rfl); (case c4 => exact rfl); k_whole; intro g' L' h' tk' cells' FG' F' N' Y' B' X' T' l1; (try k_lt l1); k_cells Y'; (try simp only [List.cons_append, List.nil_append] at N'); (try dsimp only); (try k_lift B'); (try k_fold))
  k_steps
  refine ⟨?_⟩
  rename_i c1 d1
  replace d1 : c1.data = .cell (some (.ref src)) := d1
  k_dflt (refine LCg.ListComp_U (F₀ := by k_asm) (by with_unfolding_all rfl) (by decide) (by rfl) (by decide) (by rfl) ?_)
  k_steps
  refine ⟨?_⟩
  refine LCg.CompSrc.range (by rfl) (by k_asm) (by k_asm) (by assumption) (small_one (by decide) (by decide) (by omega) (by omega)) (rangeSize_nat _ _) (by rw [sizeLine_eq]; omega) ?_
  intro gH
  refine comp_inv (fun i ys nw => SrcInv src nn news x (nw.drop 1) ∧ nw.take 1 = [(L' + 1, c1)] ∧ ∃ ks, IntsAre ys ks ∧ ks.length = i ∧ ∀ k ∈ ks, 0 ≤ k ∧ k < 256) ?_ ?_ _ 0 [] _ (Nat.zero_add _) ⟨⟨x, y, tx, ty, hx, Int.le_refl _, hy, hy', rfl⟩, rfl, [], .nil, rfl, fun _ hk => nomatch hk⟩
  · rintro i ys nw hi ⟨⟨x', y', tx', ty', hx0, hx1, hy0, hy1, hnw⟩, hn1, ks, hks, hkl, hkr⟩ v I oI Cc oC D m₂ h tk E' hv hC hm2 F2 N2 off ne
    obtain ⟨p, rest, rfl⟩ : ∃ p rest, nw = p :: rest := by
      cases nw with
      | nil => cases hn1
      | cons p r => exact ⟨p, r, rfl⟩
    simp only [List.drop_succ_cons, List.drop_zero, List.take_succ_cons, List.take_zero, List.cons.injEq, and_true] at hnw hn1
    subst hnw hn1
    obtain ⟨tv, rfl⟩ := hv
    k_steps
    refine ⟨?_⟩
    have off9 := off
    simp only [LCg.Off3, and_true] at off
    k_dflt (refine take_spec (dp := dp + 1) (un := un + 3) (news := (I, oI) :: (Cc, oC) :: (D, LCg.lst ys) :: (L' + 1, c1) :: news) ⟨by k_asm, by k_asm, by k_asm, rfl⟩ (by omega) F2 (News.sub N2 (by kcf_all)) (off_cons (by omega) (off_cons (by omega) (off_cons (by omega) (off_cons (by omega) hoff)))) hx0 hy0 hy1 (by decide) (by decide) ?_)
    intro v x2 y2 tv2 tx2 ty2 h2 tk2 hv0 hv1 hx2 hx3 hy2 hy3 F3 N3
    k_steps
    refine ⟨?_⟩
    refine LCg.CompEnd.intro (by assumption) (by assumption) ((L' + 1, c1) :: (src, listOf #[.int x2 tx2, .int y2 ty2] nn) :: news) (by kcf_all) off9 trivial ⟨⟨x2, y2, tx2, ty2, hx2, by omega, hy2, hy3, rfl⟩, rfl, ks ++ [97 + v], IntsAre.append hks (.cons _ _ .nil), by simp [hkl], ?_⟩
    intro k hk
    rcases List.mem_append.mp hk with hk | hk
    · exact hkr k hk
    · rw [List.mem_singleton.mp hk]; omega
  · rintro ys nw ⟨⟨x', y', tx', ty', hx0, hx1, hy0, hy1, hnw⟩, hn1, ks, hks, hkl, hkr⟩
    obtain ⟨p, rest, rfl⟩ : ∃ p rest, nw = p :: rest := by
      cases nw with
      | nil => cases hn1
      | cons p r => exact ⟨p, r, rfl⟩
    simp only [List.drop_succ_cons, List.drop_zero, List.take_succ_cons, List.take_zero, List.cons.injEq, and_true] at hnw hn1
    subst hnw hn1
    intro D h tk F2 N2 off
    k_steps
    exact ret (byteArr ks) _ _ _ _ _ _ _ (by rw [byteArr_size, hkl]; omega) hx0 hx1 hy0 hy1 (by assumption) (News.sub (by assumption) (by kcf_all))


theorem part_le {ps : List (Array UInt8)} : ∀ {i : Nat} {b : Array UInt8}, ps[i]? = some b → b.size ≤ (cat ps).length := by
  induction ps with
  | nil => intro i b e; simp at e
  | cons p r ih =>
    intro i b e
    cases i with
    | zero => simp at e; subst e; simp [cat]
    | succ i =>
      have := ih (i := i) (b := b) (by simpa using e)
      simp [cat] at this ⊢
      omega
theorem off1_mem {D : Addr} : ∀ {l : List (Addr × Obj)}, LCg.Off1 D l → ∀ p ∈ l, p.1 ≠ D
  | [], _, _, hp => nomatch hp
  | _ :: _, x, p, hp => by
    rcases List.mem_cons.mp hp with rfl | hp
    · exact x.1
    · exact off1_mem x.2 p hp
section
open LCg LCt
variable {prog : Program} {w : World} {A : Around} {h₀ : Heap} {L : Addr} {m : Str → Option Value} {env : Env}
theorem comp_invT {ct elt : Expr} {x : Str} {scope : Scope} {cl : List (Str × Addr)} {s : Shared} {S : List (Addr × Obj) → Prop} {P : Nat → Value → Prop} {Fin : List Value → List (Addr × Obj) → Prop} {n : Nat}
    (Inv : Nat → List Value → List (Addr × Obj) → Prop)
    (step : ∀ i ys news, i < n → Inv i ys news → ∀ v I oI C oC D m₂ h tk (E' : Value → Shared → Prop), P i v → NsObj oC m₂ → m₂ x = some v → Fr h₀ L h m → News h₀ L h ((I, oI) :: (C, oC) :: (D, lst ys) :: news) → Off3 I C D news → ((@Ne Nat I C) ∧ (@Ne Nat I D) ∧ (@Ne Nat C D)) →
      wpAny (model prog w) A (isTrue ct (compEnvC scope cl C env) (eval ct (compEnvC scope cl C env))) (fun ok s' => if ok = true then
        wpAny (model prog w) A (eval elt (compEnvC scope cl C env)) (CompEnd h₀ L m { s with heap := h, toks := tk } I oI C oC D (lst ys) S (fun y news' => Inv (i + 1) (ys ++ [y]) news')) E' s'
        else CompEnd h₀ L m { s with heap := h, toks := tk } I oI C oC D (lst ys) S (fun _ news' => Inv (i + 1) ys news') Value.none s') E' { s with heap := h, toks := tk })
    (fin : ∀ ys news, Inv n ys news → Fin ys news) :
    ∀ j i ys news, i + j = n → Inv i ys news → CompRestT prog w A h₀ L m env ct elt x scope cl s S P Fin j i ys news := by
  intro j
  induction j with
  | zero =>
    intro i ys news hi hI
    have e : i = n := by omega
    subst e
    exact CompRestT.zero (fin ys news hI)
  | succ j ih =>
    intro i ys news hi hI
    refine CompRestT.succ ?_
    intro v I oI C oC D m₂ h tk E' hv hC hx F N off ne
    refine wpAny_mono (step i ys news (by omega) hI v I oI C oC D m₂ h tk E' hv hC hx F N off ne) (fun b s₂ hq => ?_) fun _ _ e => e
    cases b with
    | true =>
      simp only [if_true] at hq ⊢
      refine wpAny_mono hq (fun y s₃ hr => ?_) fun _ _ e => e
      obtain ⟨h', tk', nw, e, F', N', off', hS, hn⟩ := hr
      exact ⟨h', tk', nw, e, F', N', off', hS, ih (i + 1) _ _ (by omega) hn⟩
    | false =>
      simp only [Bool.false_eq_true, if_false] at hq ⊢
      obtain ⟨h', tk', nw, e, F', N', off', hS, hn⟩ := hq
      exact ⟨h', tk', nw, e, F', N', off', hS, ih (i + 1) _ _ (by omega) hn⟩
end

set_option maxHeartbeats 4000000 in
theorem filled_spec {w : World} {mean : ExcName → Option Value} {mg mb : Str → Option Value} {cs : Scope} {outer : List Env} {A₀ : Around} {base h₀ : Heap} (C : Cx w mean mg mb cs outer A₀ base h₀)
    {dp un : Nat} {gd : Option (List Code)} {cn : Str} {a : Addr} {ccd : Value} {cl : List (Str × Addr)} {L : Addr} {m : Str → Option Value} {s : Shared} {Q E : Value → Shared → Prop}
    (hd : dp + 5 < recursionLimit) (F : Fr h₀ L s.heap m)
    {pl : Addr} {vs : List Value} {ps : List (Array UInt8)} {nn : Nat} {news : List (Addr × Obj)}
    (N : News h₀ L s.heap news) (hm : (pl, listOf vs.toArray nn) ∈ news) (hb : BytesAre vs ps) (hn : ps.length ≤ 1000) (hz : (cat ps).length ≤ 100000)
    (ret : ∀ D ys h' tk', BytesAre ys (ps.filter fun p => decide (0 < p.size)) → Fr h₀ L h' m → News h₀ L h' ((D, LCg.lst ys) :: news) → (∀ p ∈ news, p.1 ≠ D) → Q (.ref D) { s with heap := h', toks := tk' }) :
    wpAny (model PySem.Challenge.rw_xw0333_01.row.prog w) (ktrTop dp un gd cn cs L a ccd cl outer) (call (.ref 58) [.ref pl]) Q E s := by
  obtain ⟨B, X, T, hk⟩ := C
  refine wpAny_call ?_
  k_dflt cell_enter
  k_steps
  refine ⟨?_⟩
  k_dflt (refine LCt.ListComp_T (F₀ := by k_asm) (by with_unfolding_all rfl) (by decide) (by rfl) (by decide) (by rfl) ?_)
  k_steps
  refine ⟨?_⟩
  refine LCt.CompSrcT.ledger (by rfl) (by k_asm) (by k_asm) hm (by rw [sizeLine_eq, List.size_toArray, hb.length]; omega) ?_
  intro gH
  have hvl : vs.toArray.size = vs.length := by simp
  refine comp_invT (fun i ys nw => nw = news ∧ BytesAre ys ((ps.take i).filter fun p => decide (0 < p.size))) ?_ ?_ _ 0 [] _ (Nat.zero_add _) ⟨rfl, .nil⟩
  · rintro i ys nw hi ⟨rfl, hys⟩ v I oI Cc oC D m₂ h tk E' hv hC hm2 F2 N2 off ne
    obtain ⟨b, t, hpb, rfl⟩ := hb.at (by simpa using hv)
    have hbs : b.size ≤ 100000 := Nat.le_trans (part_le hpb) hz
    have hstep : (ps.take (i + 1)).filter (fun p => decide (0 < p.size)) = (ps.take i).filter (fun p => decide (0 < p.size)) ++ if 0 < b.size then [b] else [] := by
      rw [List.take_add_one, hpb, List.filter_append]
      by_cases h0 : 0 < b.size <;> simp [h0]
    k_steps
    · rename_i h0
      refine ⟨LCg.CompEnd.intro F2 N2 _ (by kcf_all) off (.inr ⟨_, hm, rfl, _, rfl⟩) ⟨rfl, ?_⟩⟩
      rw [hstep, if_pos (by omega)]
      exact hys.append (.cons b t .nil)
    · rename_i h0
      refine ⟨LCg.CompEnd.intro F2 N2 _ (by kcf_all) off (.inr ⟨_, hm, rfl, _, rfl⟩) ⟨rfl, ?_⟩⟩
      rw [hstep, if_neg (by omega), List.append_nil]
      exact hys
  · rintro ys nw ⟨rfl, hys⟩
    intro D h tk F2 N2 off
    have hall : ps.take vs.toArray.size = ps := List.take_of_length_le (by rw [hvl, hb.length]; exact Nat.le_refl _)
    rw [hall] at hys
    k_steps
    exact ret D ys _ _ hys (by assumption) (by assumption) (off1_mem off)


abbrev chainDict (hsh : Int) (tk : Tok) (pl : Addr) : Obj := dictOf [⟨hsh, .str (Str.ofString "parts") tk, .ref pl⟩] 1

set_option maxHeartbeats 4000000 in
theorem chain_spec {w : World} {mean : ExcName → Option Value} {mg mb : Str → Option Value} {cs : Scope} {outer : List Env} {A₀ : Around} {base h₀ : Heap} (C : Cx w mean mg mb cs outer A₀ base h₀)
    {dp un : Nat} {gd : Option (List Code)} {cn : Str} {a : Addr} {ccd : Value} {cl : List (Str × Addr)} {L : Addr} {m : Str → Option Value} {s : Shared} {Q E : Value → Shared → Prop}
    (hd : dp + 10 < recursionLimit) (F : Fr h₀ L s.heap m)
    {pl : Addr} {vs : List Value} {ps : List (Array UInt8)} {nn : Nat} {news : List (Addr × Obj)}
    (N : News h₀ L s.heap news) (hm : (pl, listOf vs.toArray nn) ∈ news) (hb : BytesAre vs ps) (hn : ps.length ≤ 1000) (hz : (cat ps).length ≤ 100000)
    (ret : ∀ x dx D hsh tk ys h' tk', BytesAre ys (ps.filter fun p => decide (0 < p.size)) → Fr h₀ L h' m → News h₀ L h' ((x, instObj 244 dx) :: (dx, chainDict hsh tk D) :: (D, LCg.lst ys) :: news) → (∀ p ∈ news, @Ne Nat p.1 x ∧ @Ne Nat p.1 dx ∧ @Ne Nat p.1 D) → @Ne Nat x dx → @Ne Nat x D → @Ne Nat dx D →
      Q (.ref x) { s with heap := h', toks := tk' }) :
    wpAny (model PySem.Challenge.rw_xw0333_01.row.prog w) (ktrTop dp un gd cn cs L a ccd cl outer) (call (.ref 244) [.ref pl]) Q E s := by
  obtain ⟨B, X, T, hk⟩ := C
  k_dflt (refine' call_cls ?k1 ?k2 ?k3 ?k4 ?k5 ?k6 ?_; (case k1 => k_asm); (case k2 => k_asm); (case k3 => k_asm); (case k4 => k_is); (case k5 => k_is); (case k6 => k_is); k_whole; intro x' d' h' F' N' l1 l2; (try k_sweep))
  k_dflt cell_enter
  k_steps
  refine ⟨?_⟩
  have hoffd : OwnOff news [d'] := fun p hp b hb => by rw [List.mem_singleton.mp hb]; exact Nat.ne_of_lt (l1 p hp)
  have l2' : @LT.lt Nat _ d' x' := l2
  k_dflt (refine' filled_spec ⟨?c1, ?c2, ?c3, ?c4⟩ ?hd ?F ?N ?m hb hn hz ?_; (case c1 => k_asm); (case c2 => k_asm); (case c3 => k_asm); (case c4 => exact rfl); (case F => k_asm); (case N => k_asm); (case m => exact List.Mem.tail _ (List.Mem.tail _ hm)); (case hd => ktr_room))
  intro D ys h2 tk2 hys F2 N2 hD
  have hD1 : @Ne Nat x' D := hD _ (.head _)
  have hD2 : @Ne Nat d' D := hD _ (.tail _ (.head _))
  k_steps
  exact ret x' d' D _ _ ys _ _ hys (by assumption) (News.sub (by assumption) (by kcf_all)) (fun p hp => ⟨Nat.ne_of_lt (Nat.lt_trans (l1 p hp) l2), Nat.ne_of_lt (l1 p hp), hD _ (.tail _ (.tail _ hp))⟩) (Nat.ne_of_gt l2') hD1 hD2


structure ChainAt (news : List (Addr × Obj)) (x : Addr) (ps : List (Array UInt8)) : Prop where
  at' : ∃ dx hsh tk pl vs nn, (x, instObj 244 dx) ∈ news ∧ (dx, chainDict hsh tk pl) ∈ news ∧ (pl, listOf vs.toArray nn) ∈ news ∧ BytesAre vs ps
theorem ChainAt.mono {news news' : List (Addr × Obj)} {x : Addr} {ps : List (Array UInt8)} (h : ChainAt news x ps) (hs : ∀ p ∈ news, p ∈ news') : ChainAt news' x ps := by
  obtain ⟨dx, hsh, tk, pl, vs, nn, h1, h2, h3, h4⟩ := h.at'
  exact ⟨dx, hsh, tk, pl, vs, nn, hs _ h1, hs _ h2, hs _ h3, h4⟩

theorem cat_take_succ {ps : List (Array UInt8)} {i : Nat} {b : Array UInt8} (h : ps[i]? = some b) : (cat (ps.take (i + 1))).length = (cat (ps.take i)).length + b.size := by
  rw [List.take_add_one, h]
  simp [cat]
theorem cat_take_le (ps : List (Array UInt8)) (i : Nat) : (cat (ps.take i)).length ≤ (cat ps).length := by
  have h := congrArg (fun l => (cat l).length) (List.take_append_drop i ps)
  simp only [cat, List.map_append, List.flatten_append, List.length_append] at h ⊢
  omega

set_option maxHeartbeats 4000000 in
theorem size_spec {w : World} {mean : ExcName → Option Value} {mg mb : Str → Option Value} {cs : Scope} {outer : List Env} {A₀ : Around} {base h₀ : Heap} (C : Cx w mean mg mb cs outer A₀ base h₀)
    {dp un : Nat} {gd : Option (List Code)} {cn : Str} {a : Addr} {ccd : Value} {cl : List (Str × Addr)} {L : Addr} {m : Str → Option Value} {s : Shared} {Q E : Value → Shared → Prop}
    (hd : dp + 5 < recursionLimit) (F : Fr h₀ L s.heap m)
    {x : Addr} {ps : List (Array UInt8)} {news : List (Addr × Obj)}
    (N : News h₀ L s.heap news) (hc : ChainAt news x ps) (hz : (cat ps).length ≤ 100000)
    (ret : ∀ h' t tk', Fr h₀ L h' m → News h₀ L h' news → Q (.int ((cat ps).length : Int) t) { s with heap := h', toks := tk' }) :
    wpAny (model PySem.Challenge.rw_xw0333_01.row.prog w) (ktrTop dp un gd cn cs L a ccd cl outer) (call (.ref 79) [.ref x]) Q E s := by
  obtain ⟨B, X, T, hk⟩ := C
  obtain ⟨dx, hsh, tk0, pl, vs, nn, hx, hdx, hpl, hb⟩ := hc.at'
  refine wpAny_call ?_
  k_dflt cell_enter
  k_steps
  refine ⟨?_⟩
  rename Fr _ _ _ _ => F1
  rename News _ _ _ _ => N1
  with_unfolding_all refine my_list (σ := Int × Tok) (l := pl) (vs := vs) (nn := nn) (fun _ => news) (fun c => [(Str.ofString "total", .int c.1 c.2)]) [] (fun i c => c.1 = ((cat (ps.take i)).length : Int)) (0, _) (by rfl) (fun _ => hpl) F1 N1 (by kst_all) (by rfl) ?_ ?_
  · rintro i v ⟨tot, tt⟩ u h tk own hv hoff hp F2 N2
    obtain ⟨b, t, hpb, rfl⟩ := hb.at hv
    have hbs : b.size ≤ 100000 := Nat.le_trans (part_le hpb) hz
    dsimp only at hp
    clear F1 N1
    dsimp only [kstB] at F2
    k_steps
    refine ⟨my_end (tot + b.size, _) (by assumption) (by assumption) (by (try dsimp only); kcf_all) (by (try dsimp only); kcf_all) hoff (by kst_all) (by kst_same) ?_⟩
    show tot + b.size = _
    rw [cat_take_succ hpb]
    omega
  · rintro ⟨tot, tt⟩ u h tk hp F2 N2
    dsimp only at hp
    rw [hb.length, List.take_length] at hp
    clear F1 N1
    dsimp only [kstB] at F2
    subst hp
    k_steps
    exact ret _ _ _ (by assumption) (by assumption)



abbrev tupObj (vs : List Value) : Obj := { cls := .type "tuple", data := .seq vs.toArray }

set_option maxHeartbeats 4000000 in
theorem place_spec {w : World} {mean : ExcName → Option Value} {mg mb : Str → Option Value} {cs : Scope} {outer : List Env} {A₀ : Around} {base h₀ : Heap} (C : Cx w mean mg mb cs outer A₀ base h₀)
    {dp un : Nat} {gd : Option (List Code)} {cn : Str} {a : Addr} {ccd : Value} {cl : List (Str × Addr)} {L : Addr} {m : Str → Option Value} {s : Shared} {Q E : Value → Shared → Prop}
    (hd : dp + 5 < recursionLimit) (F : Fr h₀ L s.heap m)
    {x : Addr} {ps : List (Array UInt8)} {news : List (Addr × Obj)} {k : Nat} {tt : Tok}
    (N : News h₀ L s.heap news) (hc : ChainAt news x ps) (hz : (cat ps).length ≤ 100000) (hn : ps.length ≤ 1000) (hkz : k < 1000000)
    (ret : ∀ h' tp ti tj tk', Fr h₀ L h' m → News h₀ L h' ((tp, tupObj [.int ((place ps k).1 : Int) ti, .int ((place ps k).2 : Int) tj]) :: news) → (∀ p ∈ news, @Ne Nat p.1 tp) → Q (.ref tp) { s with heap := h', toks := tk' }) :
    wpAny (model PySem.Challenge.rw_xw0333_01.row.prog w) (ktrTop dp un gd cn cs L a ccd cl outer) (call (.ref 121) [.ref x, .int (k : Int) tt]) Q E s := by
  obtain ⟨B, X, T, hk⟩ := C
  obtain ⟨dx, hsh, tk0, pl, vs, nn, hx, hdx, hpl, hb⟩ := hc.at'
  have hvl := hb.length
  refine wpAny_call ?_
  k_dflt cell_enter
  k_steps
  refine ⟨?_⟩
  rename Fr _ _ _ _ => F1
  rename News _ _ _ _ => N1
  rename IsRange _ _ _ _ _ _ _ _ => R1
  with_unfolding_all refine my_range (σ := Int × Tok) (n := ps.length) (fun _ => news) (fun c => [(Str.ofString "left", .int c.1 c.2)]) [] (fun i c => ∃ left : Nat, c.1 = (left : Int) ∧ left ≤ k ∧ place ps k = ((place (ps.drop i) left).1 + i, (place (ps.drop i) left).2)) ((k : Int), _) (by rfl) R1 (small_one (by decide) (by decide) (by omega) (by omega)) (by rw [rangeSize_nat]; simp) F1 N1 (by kst_all) ⟨k, rfl, Nat.le_refl _, rfl⟩ ?_ ?_
  · rintro i t ⟨lf, lt⟩ u h tk own hi hoff ⟨left, hl, hlk, hpl2⟩ F2 N2
    dsimp only at hl
    subst hl
    have hpb := List.getElem?_eq_getElem hi
    obtain ⟨tb, hv⟩ := hb.get hpb
    have hbs := Nat.le_trans (part_le hpb) hz
    have hv' : vs[((0 : Int) + (i : Int)).toNat]? = some (.bytes ps[i] tb) := by rw [← hv]; congr 1; omega
    have hdrop : ps.drop i = ps[i] :: ps.drop (i + 1) := List.drop_eq_getElem_cons hi
    rw [hdrop, place] at hpl2
    generalize ps[i] = b at *
    clear F1 N1
    dsimp only [kstB] at F2
    k_steps
    · rename ((left : Int) < (b.size : Int)) => hlt
      rename ∀ p ∈ news ++ own, p.1 < _ => l1
      rw [if_pos (by omega)] at hpl2
      have e1 : ((place ps k).1 : Int) = 0 + (i : Int) := by rw [hpl2]; simp
      have e2 : ((place ps k).2 : Int) = (left : Int) := by rw [hpl2]
      rw [e1, e2] at ret
      exact ret _ _ _ _ _ (by assumption) (News.sub (by assumption) (by kcf_all)) (fun p hp => Nat.ne_of_lt (l1 p (List.mem_append.mpr (.inl hp))))
    · rename ¬ ((left : Int) < (b.size : Int)) => hlt
      rw [if_neg (by omega)] at hpl2
      refine ⟨my_end ((left : Int) - b.size, _) (by assumption) (by assumption) (by (try dsimp only); kcf_all) (by (try dsimp only); kcf_all) hoff (by kst_all) (by kst_same) ?_⟩
      refine ⟨left - b.size, by dsimp only; omega, by omega, ?_⟩
      rw [hpl2]
      simp only [Prod.mk.injEq, and_true]
      omega
  · rintro ⟨lf, lt⟩ u h tk ⟨left, hl, hlk, hpl2⟩ F2 N2
    dsimp only at hl
    subst hl
    rw [List.drop_length, place] at hpl2
    clear F1 N1
    dsimp only [kstB] at F2
    k_steps
    rename ∀ p ∈ news, p.1 < _ => l1
    have e1 : ((place ps k).1 : Int) = (ps.length : Int) := by rw [hpl2]; simp
    have e2 : ((place ps k).2 : Int) = 0 := by rw [hpl2]; simp
    rw [e1, e2] at ret
    exact ret _ _ _ _ _ (by assumption) (by assumption) (fun p hp => Nat.ne_of_lt (l1 p hp))


theorem slice_len1 {b : Array UInt8} {j t : Nat} : (((j : Int) + (b.size : Int) - (t : Int)).toNat - j) = b.size - t := by
  rw [← Int.natCast_add, Int.toNat_sub, Nat.sub_right_comm, Nat.add_sub_cancel_left]
theorem slice_len2 {t n : Nat} : (((t : Int) + (n : Int)).toNat - t) = n := by
  rw [← Int.natCast_add, Int.toNat_natCast, Nat.add_sub_cancel_left]
set_option maxHeartbeats 4000000 in
theorem stands_spec {w : World} {mean : ExcName → Option Value} {mg mb : Str → Option Value} {cs : Scope} {outer : List Env} {A₀ : Around} {base h₀ : Heap} (C : Cx w mean mg mb cs outer A₀ base h₀)
    {dp un : Nat} {gd : Option (List Code)} {cn : Str} {a : Addr} {ccd : Value} {cl : List (Str × Addr)} {L : Addr} {m : Str → Option Value} {s : Shared} {Q E : Value → Shared → Prop}
    (hd : dp + 10 < recursionLimit) (F : Fr h₀ L s.heap m)
    {x : Addr} {ps : List (Array UInt8)} {news : List (Addr × Obj)} {k : Nat} {tt tb : Tok} {b : Array UInt8}
    (N : News h₀ L s.heap news) (hc : ChainAt news x ps) (hz : (cat ps).length ≤ 100000) (hn : ps.length ≤ 1000) (hkz : k < 1000000) (hbz : b.size ≤ 100000) (hp : ∀ p ∈ ps, 0 < p.size)
    (ret : ∀ h' tk', Fr h₀ L h' m → News h₀ L h' news → Q (.bool (decide (StandsP ps b k))) { s with heap := h', toks := tk' }) :
    wpAny (model PySem.Challenge.rw_xw0333_01.row.prog w) (ktrTop dp un gd cn cs L a ccd cl outer) (call (.ref 212) [.ref x, .bytes b tb, .int (k : Int) tt]) Q E s := by
  obtain ⟨B, X, T, hk⟩ := C
  obtain ⟨dx, hsh, tk0, pl, vs, nn, hx, hdx, hpl, hb⟩ := id hc.at'
  have hvl := hb.length
  refine wpAny_call ?_
  k_dflt cell_enter
  k_steps
  refine ⟨?_⟩
  k_dflt (refine' size_spec ⟨?c1, ?c2, ?c3, ?c4⟩ ?hd ?F ?N hc hz ?_; (case c1 => k_asm); (case c2 => k_asm); (case c3 => k_asm); (case c4 => exact rfl); (case F => k_asm); (case N => k_asm); (case hd => ktr_room))
  intro h2 t2 tk2 F2 N2
  k_steps
  · rename ((cat ps).length : Int) < (k : Int) + (b.size : Int) => hlt
    rw [decide_eq_false (by omega)] at ret
    exact ret _ _ (by assumption) (by assumption)
  refine ⟨?_⟩
  rename ¬ (((cat ps).length : Int) < (k : Int) + (b.size : Int)) => hge
  k_dflt (refine' place_spec ⟨?c1, ?c2, ?c3, ?c4⟩ ?hd ?F ?N hc hz hn hkz ?_; (case c1 => k_asm); (case c2 => k_asm); (case c3 => k_asm); (case c4 => exact rfl); (case F => k_asm); (case N => k_asm); (case hd => ktr_room))
  intro h3 tp ti tj tk3 F3 N3 hne3
  k_steps
  refine ⟨?_⟩
  rename Fr _ _ _ _ => F4
  rename News _ _ _ _ => N4
  have N5 := News.sub (l' := news) N4 (by kcf_all)
  have hst := standJ_start hp (k := k) (b := b) (by omega)
  with_unfolding_all refine ksw_while (σ := (Int × Tok) × (Int × Tok) × (Int × Tok)) (fun _ => news) (fun c => [(Str.ofString "taken", .int c.1.1 c.1.2), (Str.ofString "index", .int c.2.1.1 c.2.1.2), (Str.ofString "inner", .int c.2.2.1 c.2.2.2)]) (fun _ => True) [Str.ofString "piece"] (fun c => ∃ t i j : Nat, c.1.1 = (t : Int) ∧ c.2.1.1 = (i : Int) ∧ c.2.2.1 = (j : Int) ∧ StandJ ps b k t i j) (fun c => b.size - c.1.1.toNat) ((0, _), (((place ps k).1 : Int), _), (((place ps k).2 : Int), _)) F4 N5 trivial (by kst_all) ⟨0, _, _, rfl, rfl, rfl, hst⟩ ?_
  rintro ⟨⟨t1, t2⟩, ⟨i1, i2⟩, ⟨j1, j2⟩⟩ u h tk _ ⟨t, i, j, e1, e2, e3, hJ⟩ F6 N6
  dsimp only at e1 e2 e3
  subst e1 e2 e3
  clear F4 N5 N4
  dsimp only [kstB] at F6
  by_cases ht : t < b.size
  · obtain ⟨a1, a2, p, hpi, hjp⟩ := hJ.2.2 ht
    obtain ⟨tp9, hv⟩ := hb.get hpi
    have hv' : vs[((i : Int)).toNat]? = some (.bytes p tp9) := by rw [← hv]; congr 1
    have hpz := Nat.le_trans (part_le hpi) hz
    k_steps
    all_goals rename _ = List.take _ (List.drop _ b.toList) => hq2
    all_goals rename _ = List.take _ (List.drop _ p.toList) => hq1
    all_goals simp only [Int.toNat_natCast] at hq1 hq2
    · rename (_ != _) = true => hne
      rw [slice_len1] at hq1
      rw [slice_len2] at hq2
      rw [hq2] at hne
      rw [decide_eq_false (standJ_no hJ ht hpi hq1 (by simpa using hne))] at ret
      exact ret _ _ (by assumption) (by assumption)
    · rename (_ != _) = false => hne
      rw [slice_len1] at hq1
      rw [slice_len2] at hq2
      rw [hq2] at hne
      have he := hne
      simp only [bne_eq_false_iff_eq] at he
      obtain ⟨q1, q2, q3, q4⟩ := piece_at hJ ht hpi hq1
      have hJ' := standJ_step hJ ht hp (by omega) hpi hq1 he
      refine ⟨ksw_end ((_, _), (_, _), (_, _)) (by assumption) (by assumption) (by kcf_all) trivial (by kst_all) (by ksw_same) ⟨_, _, _, rfl, rfl, rfl, hJ'⟩ ?_⟩
      show b.size - (((t + _ : Nat) : Int)).toNat < b.size - ((t : Int)).toNat
      rw [Int.toNat_natCast, Int.toNat_natCast]
      omega
  · k_steps
    rw [decide_eq_true (standJ_end hJ ht (by omega))] at ret
    exact ret _ _ (by assumption) (by assumption)


theorem stands_iff {ps : List (Array UInt8)} {whole b pc : Array UInt8} {k : Nat} (hw : whole.toList = cat ps) (hk : k ≤ whole.size) (hpc : pc.toList = (whole.toList.drop k).take b.size) :
    (pc.toList == b.toList) = decide (StandsP ps b k) := by
  rw [Bool.eq_iff_iff, beq_iff_eq, decide_eq_true_iff, hpc, hw]
  have hl : whole.size = (cat ps).length := by rw [← hw]; simp
  constructor
  · intro h
    refine ⟨?_, h⟩
    have := congrArg List.length h
    simp at this
    omega
  · exact fun h => h.2

set_option maxHeartbeats 4000000 in
theorem lawStands_spec {w : World} {mean : ExcName → Option Value} {mg mb : Str → Option Value} {cs : Scope} {outer : List Env} {A₀ : Around} {base h₀ : Heap} (C : Cx w mean mg mb cs outer A₀ base h₀)
    {dp un : Nat} {gd : Option (List Code)} {cn : Str} {a : Addr} {ccd : Value} {cl : List (Str × Addr)} {L : Addr} {m : Str → Option Value} {s : Shared} {Q E : Value → Shared → Prop}
    (hd : dp + 5 < recursionLimit) (F : Fr h₀ L s.heap m)
    {ps : List (Array UInt8)} {news : List (Addr × Obj)} {k : Nat} {tt tb tw : Tok} {whole b : Array UInt8}
    (N : News h₀ L s.heap news) (hw : whole.toList = cat ps) (hz : (cat ps).length ≤ 100000) (hkz : k < 1000000) (hbz : b.size ≤ 100000)
    (ret : ∀ h' tk', Fr h₀ L h' m → News h₀ L h' news → Q (.bool (decide (StandsP ps b k))) { s with heap := h', toks := tk' }) :
    wpAny (model PySem.Challenge.rw_xw0333_01.row.prog w) (ktrTop dp un gd cn cs L a ccd cl outer) (call (.ref 274) [.bytes whole tw, .bytes b tb, .int (k : Int) tt]) Q E s := by
  obtain ⟨B, X, T, hk⟩ := C
  have hwz : whole.size = (cat ps).length := by rw [← hw]; simp
  refine wpAny_call ?_
  k_dflt cell_enter
  k_steps
  · rename (k : Int) ≤ (whole.size : Int) => hle
    rename _ = List.take _ (List.drop _ whole.toList) => hq
    simp only [Int.toNat_natCast] at hq
    rw [slice_len2] at hq
    rw [← stands_iff hw (by omega) hq] at ret
    exact ret _ _ (by assumption) (by assumption)
  · rename ¬ (k : Int) ≤ (whole.size : Int) => hle
    rw [decide_eq_false (fun h9 => by have := h9.1; omega)] at ret
    rw [decide_eq_false hle]
    exact ret _ _ (by assumption) (by assumption)

theorem pool_x (c : Int) (d : Bool) : 0 ≤ (if -1 - c > c then -1 - c else c) * (if d = true then 1 else 0) := by
  refine Int.mul_nonneg ?_ ?_
  · split <;> omega
  · split <;> decide

set_option maxHeartbeats 4000000 in
theorem pool_spec {w : World} {mean : ExcName → Option Value} {mg mb : Str → Option Value} {cs : Scope} {outer : List Env} {A₀ : Around} {base h₀ : Heap} (C : Cx w mean mg mb cs outer A₀ base h₀)
    {dp un : Nat} {gd : Option (List Code)} {cn : Str} {a : Addr} {ccd : Value} {cl : List (Str × Addr)} {L : Addr} {m : Str → Option Value} {s : Shared} {Q E : Value → Shared → Prop}
    (hd : dp + 5 < recursionLimit) (F : Fr h₀ L s.heap m)
    {l : Addr} {vs : List Value} {ns : List Int} {news : List (Addr × Obj)} {tt : Tok}
    (N : News h₀ L s.heap news) (hl : base.IsList l vs.toArray) (hi : IntsAre vs ns) (hfit : ns.length < 1000)
    (ret : ∀ D x y tx ty h' tk', 0 ≤ x → 0 ≤ y → y < 2147483647 → Fr h₀ L h' m → News h₀ L h' ((D, listOf #[.int x tx, .int y ty] 0) :: news) → (∀ p ∈ news, @Ne Nat p.1 D) → Q (.ref D) { s with heap := h', toks := tk' }) :
    wpAny (model PySem.Challenge.rw_xw0333_01.row.prog w) (ktrTop dp un gd cn cs L a ccd cl outer) (call (.ref 255) [.ref l, .int 0 tt]) Q E s := by
  obtain ⟨B, X, T, hk⟩ := C
  refine wpAny_call ?_
  k_dflt cell_enter
  k_steps
  refine ⟨?_⟩
  refine join_int (fun _ => True) ?_ ?_
  · have hM : PastIt := ⟨trivial⟩
    k_steps
    all_goals trivial
  intro cell tc tkc _
  k_steps
  rename ∀ p ∈ news, p.1 < _ => l1
  exact ret _ _ _ _ _ _ _ (pool_x _ _) (fm0 (by decide)) (Int.fmod_lt_of_pos _ (by decide)) (by assumption) (by assumption) (fun p hp => Nat.ne_of_lt (l1 p hp))

theorem cat_le {n : Nat} : ∀ {qs : List (Array UInt8)}, (∀ q ∈ qs, q.size ≤ n) → (cat qs).length ≤ n * qs.length
  | [], _ => by simp [cat]
  | q :: r, h => by
    have h1 := h q (.head _)
    have h2 := cat_le (qs := r) fun p hp => h p (.tail _ hp)
    rw [cat_cons, List.length_append, Array.length_toList, List.length_cons, Nat.mul_succ]
    omega
theorem cat_filter : ∀ qs : List (Array UInt8), cat (qs.filter fun p => decide (0 < p.size)) = cat qs
  | [] => rfl
  | q :: r => by
    rw [List.filter_cons, cat_cons]
    by_cases h : 0 < q.size
    · rw [if_pos (by simpa using h), cat_cons, cat_filter r]
    · rw [if_neg (by simpa using h), cat_filter r]
      have h0 : q.size = 0 := by omega
      have e : q.toList = [] := List.eq_nil_of_length_eq_zero (by rw [Array.length_toList]; exact h0)
      rw [e]; rfl
theorem pos_of_ne {b : Array UInt8} (h : (b.toList != (List.toArray []).toList) = true) : 0 < b.size := by
  rcases Nat.eq_zero_or_pos b.size with h0 | h0
  · have e : b.toList = [] := List.eq_nil_of_length_eq_zero (by rw [Array.length_toList]; exact h0)
    rw [e] at h
    exact absurd h (by decide)
  · exact h0
theorem nil_of_eq {b : Array UInt8} (h : (b.toList != (List.toArray []).toList) = false) : ¬ 0 < b.size := by
  have e : b.toList = [] := by simpa only [bne_eq_false_iff_eq] using h
  have e2 := congrArg List.length e
  rw [Array.length_toList, List.length_nil] at e2
  omega
theorem slice_le {a b : Array UInt8} {m n : Nat} (h : a.toList = List.take n (List.drop m b.toList)) : a.size ≤ b.size := by
  have e := congrArg List.length h
  rw [Array.length_toList] at e
  rw [e]
  exact Nat.le_trans (List.length_take_le' _ _) (by rw [List.length_drop, Array.length_toList]; exact Nat.sub_le _ _)
theorem F17n {h₀ h : Heap} {L : Addr} {p q a b c : Addr × Obj} {r : List (Addr × Obj)} (N : News h₀ L h (q :: a :: b :: c :: r)) (hp : p ∈ r) : h.get? p.1 = some p.2 ∧ p.1 ≠ L ∧ h₀.get? p.1 = none := N p (.tail _ (.tail _ (.tail _ (.tail _ hp))))

theorem News.tail {h₀ h : Heap} {L : Addr} {p : Addr × Obj} {l : List (Addr × Obj)} (N : News h₀ L h (p :: l)) : News h₀ L h l := fun q hq => N q (.tail _ hq)
theorem chainAt_here {h₀ h : Heap} {L x dx D : Addr} {hsh : Int} {tk : Tok} {ys : List Value} {ps : List (Array UInt8)} {news : List (Addr × Obj)} (_ : News h₀ L h ((x, instObj 244 dx) :: (dx, chainDict hsh tk D) :: (D, LCg.lst ys) :: news)) (hys : BytesAre ys ps) :
    ChainAt ((x, instObj 244 dx) :: (dx, chainDict hsh tk D) :: (D, LCg.lst ys) :: news) x ps :=
  ⟨dx, hsh, tk, D, ys, ys.length, List.mem_cons_self, List.mem_cons_of_mem _ List.mem_cons_self, List.mem_cons_of_mem _ (List.mem_cons_of_mem _ List.mem_cons_self), hys⟩

set_option maxHeartbeats 8000000 in
theorem law1 : PySem.Challenge.rw_xw0333_01.Holds := by
  refine hd1 ?_
  w_strict (k_go0; (all_goals try k_fold); skip)
  rename IntsAre _ _ => hI
  rename Heap.IsList _ _ _ => hL
  rename ¬ ((63 : Nat) : Int) < _ => hlen
  rename Obj => oc
  rename oc.data = _ => hocd
  rename Shared => s₁
  rename World => w
  replace hocd : oc.data = .cell none := hocd
  k_steps
  refine ⟨?_⟩
  k_dflt (refine' chain_spec (ps := [#[97, 98], #[99]]) ⟨?c1, ?c2, ?c3, ?c4⟩ ?hd ?F ?N ?m (.cons _ _ (.cons _ _ .nil)) (by decide) (by decide) ?_; (case c1 => k_asm); (case c2 => k_asm); (case c3 => k_asm); (case c4 => exact rfl); (case F => k_asm); (case N => k_asm); (case m => exact List.mem_cons_self); (case hd => ktr_room))
  intro x dx D hsh tk ys h' tk' hys F1 N1 ne1 ne2 ne3 ne4
  k_steps
  refine ⟨?_⟩
  have hc1 := chainAt_here N1 hys
  k_dflt (refine' stands_spec (k := 1) (ps := [#[97, 98], #[99]]) ⟨?c1, ?c2, ?c3, ?c4⟩ ?hd ?F N1 hc1 (by decide) (by decide) (by decide) (by decide) (by decide) ?_; (case c1 => k_asm); (case c2 => k_asm); (case c3 => k_asm); (case c4 => exact rfl); (case F => k_asm); (case hd => ktr_room))
  intro h2 tk2 F2 N2
  have N3 := News.tail (News.tail (News.tail (News.tail N2)))
  clear hc1 N1 F1 N2 hys ne1 ne2 ne3 ne4
  rw [decide_eq_true (by decide)]
  k_steps
  refine ⟨?_⟩
  k_dflt (refine' pool_spec ⟨?c1, ?c2, ?c3, ?c4⟩ ?hd ?F N3 hL hI ?hf ?_; (case c1 => k_asm); (case c2 => k_asm); (case c3 => k_asm); (case c4 => exact rfl); (case F => k_asm); (case hd => ktr_room); (case hf => omega))
  intro src x0 y0 tx0 ty0 h3 tk3 hx0 hy0 hy0' F3 N4 hne4
  have hne5 : @Ne Nat (s₁.heap.objs.size + 1) src := hne4 _ (.head _)
  clear N3 F2
  k_steps
  refine ⟨?_⟩
  refine join_int (fun n => 5 ≤ n ∧ n ≤ 7) ?_ ?_
  · have hM : PastIt := ⟨trivial⟩
    k_steps
    all_goals exact ⟨_, _, _, rfl, by decide, rfl⟩
  rintro most tm tkm ⟨hm1, hm2⟩
  rename Obj => oc1
  rename oc1.data = _ => hocd1
  have hoffc : OwnOff [(s₁.heap.objs.size + 1, oc1)] [src] := off_cons hne5 off_nil
  clear hne4 hne5
  k_steps
  refine ⟨?_⟩
  k_dflt (refine LCg.Assign_ListComp_U (F₀ := by k_asm) (by rfl) (by with_unfolding_all rfl) (by with_unfolding_all rfl) (by decide) (by rfl) (by decide) (by rfl) (by rfl) (by rfl) ?_)
  k_steps
  refine ⟨?_⟩
  rename News _ _ _ _ => N5
  k_dflt (refine' take_spec ⟨?c1, ?c2, ?c3, ?c4⟩ ?hd ?F N5 hoffc hx0 hy0 hy0' ?m1 ?m2 ?_; (case c1 => k_asm); (case c2 => k_asm); (case c3 => k_asm); (case c4 => exact rfl); (case F => k_asm); (case hd => ktr_room); (case m1 => omega); (case m2 => omega))
  intro v1 x1 y1 tv1 tx1 ty1 h4 tk4 hv1 hv1' hx1 hx1' hy1 hy1' F6 N6
  clear N5 hx0 hy0 hy0' hx1'
  k_steps
  refine ⟨?_⟩
  rename Fr _ _ _ _ => F7
  rename News _ _ _ _ => N7
  rename IsRange _ _ _ _ _ _ _ _ => R7
  refine LCg.CompSrc.range (by rfl) F7 N7 R7 (small_one (by decide) (by decide) (by omega) (by omega)) (rangeSize_nat _ _) (by rw [sizeLine_eq]; omega) ?_
  intro gH
  refine comp_inv (fun i ys nw => ∃ x2 y2 tx2 ty2 qs, nw = [(src, listOf #[.int x2 tx2, .int y2 ty2] 0), (s₁.heap.objs.size + 1, oc1)] ∧ 0 ≤ x2 ∧ 0 ≤ y2 ∧ y2 < 2147483647 ∧ BytesAre ys qs ∧ qs.length = i ∧ ∀ q ∈ qs, q.size ≤ 3) ?_ ?_ _ 0 [] _ (Nat.zero_add _) ⟨x1, y1, tx1, ty1, [], rfl, hx1, hy1, hy1', .nil, rfl, fun _ hq => nomatch hq⟩
  · rintro i ys nw hi ⟨x2, y2, tx2, ty2, qs, rfl, hx2, hy2, hy2', hys2, hql, hq3⟩ v I oI Cc oC D m₂ h tk E' hv hC hm2 F8 N8 off ne
    obtain ⟨tv, rfl⟩ := hv
    have off9 := off
    simp only [LCg.Off3] at off
    k_steps
    refine ⟨?_⟩
    have hsub1 : News _ _ _ ((src, listOf #[.int x2 tx2, .int y2 ty2] 0) :: [(I, oI), (Cc, oC), (D, LCg.lst ys), (s₁.heap.objs.size + 1, oc1)]) := News.sub N8 (by kcf_all)
    k_dflt (refine' take_spec ⟨?c1, ?c2, ?c3, ?c4⟩ ?hd F8 hsub1 ?off hx2 hy2 hy2' (by decide) (by decide) ?_; (case c1 => k_asm); (case c2 => k_asm); (case c3 => k_asm); (case c4 => exact rfl); (case hd => ktr_room); (case off => exact off_cons (Ne.symm off.1.1) (off_cons (Ne.symm off.1.2.1) (off_cons (Ne.symm off.1.2.2) hoffc))))
    intro v3 x3 y3 tv3 tx3 ty3 h9 tk9 hv3 hv3' hx3 hx3' hy3 hy3' F9 N9
    clear N8 hsub1 F8 hx2 hy2 hy2' hx3'
    k_steps
    refine ⟨?_⟩
    k_dflt (refine' letters_spec ⟨?c1, ?c2, ?c3, ?c4⟩ ?hd ?F N9 ?off hx3 hy3 hy3' hv3 ?hv ?_; (case F => k_asm); (case c1 => k_asm); (case c2 => k_asm); (case c3 => k_asm); (case c4 => exact rfl); (case hd => ktr_room); (case hv => omega); (case off => exact off_cons (Ne.symm off.1.1) (off_cons (Ne.symm off.1.2.1) (off_cons (Ne.symm off.1.2.2) hoffc))))
    intro b4 x4 y4 tv4 tx4 ty4 h10 tk10 hb4 hx4 hx4' hy4 hy4' F10 N10
    clear N9 F9 hx3 hy3 hy3' hx4'
    k_steps
    refine ⟨?_⟩
    refine LCg.CompEnd.intro (by assumption) (by assumption) [(src, listOf #[.int x4 tx4, .int y4 ty4] 0), (s₁.heap.objs.size + 1, oc1)] (by kcf_all) off9 trivial ⟨x4, y4, tx4, ty4, qs ++ [b4], rfl, hx4, hy4, hy4', hys2.append (.cons _ _ .nil), by simp [hql], ?_⟩
    intro q hq
    rcases List.mem_append.mp hq with hq | hq
    · exact hq3 q hq
    · rw [List.mem_singleton.mp hq]; omega
  · rintro ys nw ⟨x2, y2, tx2, ty2, qs, rfl, hx2, hy2, hy2', hys2, hql, hq3⟩
    intro D h tk F8 N8 off
    simp only [LCg.Off1] at off
    have hDs : OwnOff [(D, LCg.lst ys)] [src] := off_cons (Ne.symm off.1) off_nil
    clear F7 N7 off hm1
    have hcz := cat_le hq3
    k_steps
    refine ⟨?_⟩
    k_dflt (refine' chain_spec ⟨?c1, ?c2, ?c3, ?c4⟩ ?hd F8 N8 List.mem_cons_self hys2 ?hn ?hz ?_; (case c1 => k_asm); (case c2 => k_asm); (case c3 => k_asm); (case c4 => exact rfl); (case hd => ktr_room); (case hn => omega); (case hz => omega))
    intro x9 dx9 D9 hsh9 tk9 ys9 h9 tk9' hys9 F9 N9 ne9 ne9a ne9b ne9c
    have hsx : OwnOff [(x9, instObj 244 dx9), (dx9, chainDict hsh9 tk9 D9), (D9, LCg.lst ys9), (D, LCg.lst ys)] [src] := by
      have h1 : @Ne Nat src x9 ∧ @Ne Nat src dx9 ∧ @Ne Nat src D9 := ne9 _ (.tail _ (.head _))
      exact off_cons (Ne.symm h1.1) (off_cons (Ne.symm h1.2.1) (off_cons (Ne.symm h1.2.2) hDs))
    clear F8 N8 ne9 ne9a ne9b ne9c hDs
    k_steps
    refine ⟨?_⟩
    refine join_bytes (vs := ys) (ps := qs) ⟨_, (N9 (D, LCg.lst ys) (by kcf_m)).1, rfl, ys.length, rfl⟩ hys2 (by omega) ?_
    intro tw kw
    have hw0 : (cat qs).toArray.toList = cat qs := rfl
    generalize (cat qs).toArray = whole at *
    have hwz : whole.size = (cat qs).length := by rw [← hw0]; simp
    have hwz1 : whole.size ≤ 100 := by omega
    have hqz1 : qs.length ≤ 100 := by omega
    clear hcz hql hv1 hv1' hm2
    k_steps
    refine ⟨?_⟩
    rename News _ _ _ _ => N10
    have N11 : News _ _ _ ((src, listOf #[.int x2 tx2, .int y2 ty2] 0) :: (s₁.heap.objs.size + 1, oc1) :: [(x9, instObj 244 dx9), (dx9, chainDict hsh9 tk9 D9), (D9, LCg.lst ys9), (D, LCg.lst ys)]) := News.sub N10 (by kcf_all)
    clear N10
    obtain ⟨rest9, hm1, hm2, hm3, hm4, hr9⟩ : ∃ r : List (Addr × Obj), (x9, instObj 244 dx9) ∈ r ∧ (dx9, chainDict hsh9 tk9 D9) ∈ r ∧ (D9, LCg.lst ys9) ∈ r ∧ (D, LCg.lst ys) ∈ r ∧ r = [(x9, instObj 244 dx9), (dx9, chainDict hsh9 tk9 D9), (D9, LCg.lst ys9), (D, LCg.lst ys)] := ⟨_, by kcf_m, by kcf_m, by kcf_m, by kcf_m, rfl⟩
    rw [← hr9] at N11 hsx
    clear hr9
    have hoff9' : OwnOff ((s₁.heap.objs.size + 1, oc1) :: rest9) [src] := off_cons (hoffc _ (.head _) _ (.head _)) hsx
    k_dflt (refine' take_spec ⟨?c1, ?c2, ?c3, ?c4⟩ ?hd ?F N11 hoff9' hx2 hy2 hy2' ?m1 ?m2 ?_; (case F => k_asm); (case c1 => k_asm); (case c2 => k_asm); (case c3 => k_asm); (case c4 => exact rfl); (case hd => ktr_room); (case m1 => omega); (case m2 => omega))
    intro v3 x3 y3 tv3 tx3 ty3 h9 tk9 hv3 hv3' hx3 hx3' hy3 hy3' F10 N12
    clear N11 hx2 hy2 hy2' hx3'
    k_steps
    refine ⟨?_⟩
    rename News _ _ _ _ => N11
    k_dflt (refine' take_spec ⟨?c1, ?c2, ?c3, ?c4⟩ ?hd ?F N11 hoff9' hx3 hy3 hy3' (by decide) (by decide) ?_; (case F => k_asm); (case c1 => k_asm); (case c2 => k_asm); (case c3 => k_asm); (case c4 => exact rfl); (case hd => ktr_room))
    intro v5 x5 y5 tv5 tx5 ty5 h11 tk11 hv5 hv5' hx5 hx5' hy5 hy5' F11 N12
    clear N11 hx3 hy3 hy3' hx5'
    k_steps
    refine ⟨?_⟩
    rename Array UInt8 => run
    rename run.toList = _ => hrun
    rename run.size ≤ _ => hrun9
    have hrunz : run.size ≤ whole.size := slice_le hrun
    clear hrun hrun9 hv3 hv3' hv5 hv5'
    rename News _ _ _ _ => N11
    k_dflt (refine' take_spec ⟨?c1, ?c2, ?c3, ?c4⟩ ?hd ?F N11 hoff9' hx5 hy5 hy5' (by decide) (by decide) ?_; (case F => k_asm); (case c1 => k_asm); (case c2 => k_asm); (case c3 => k_asm); (case c4 => exact rfl); (case hd => ktr_room))
    intro v6 x6 y6 tv6 tx6 ty6 h12 tk12 hv6 hv6' hx6 hx6' hy6 hy6' F12 N12
    clear N11 hx5 hy5 hy5' hx6'
    k_steps
    refine ⟨?_⟩
    rename News _ _ _ _ => N11
    k_dflt (refine' letters_spec ⟨?c1, ?c2, ?c3, ?c4⟩ ?hd ?F N11 hoff9' hx6 hy6 hy6' hv6 ?hv ?_; (case F => k_asm); (case c1 => k_asm); (case c2 => k_asm); (case c3 => k_asm); (case c4 => exact rfl); (case hd => ktr_room); (case hv => omega))
    intro lets x7 y7 tv7 tx7 ty7 h13 tk13 hlets hx7 hx7' hy7 hy7' F13 N13
    have hletz : lets.size ≤ 3 := by omega
    clear N11 hx6 hy6 hy6' hx7' hv6 hv6' hlets hx7 hy7 hy7'
    k_steps
    refine ⟨?_⟩
    have hfz : cat (qs.filter fun p => decide (0 < p.size)) = cat qs := cat_filter qs
    have hfl : (qs.filter fun p => decide (0 < p.size)).length ≤ 1000 := Nat.le_trans (List.length_filter_le _ _) (by omega)
    have hfp : ∀ p ∈ qs.filter (fun p => decide (0 < p.size)), 0 < p.size := fun p hp => by simpa using (List.mem_filter.mp hp).2
    have hcA : ChainAt rest9 x9 (qs.filter fun p => decide (0 < p.size)) := ⟨dx9, _, _, D9, ys9, ys9.length, hm1, hm2, hm3, hys9⟩
    generalize hfs : (qs.filter fun p => decide (0 < p.size)) = fs at *
    rename Addr => l8
    rename Fr _ _ _ _ => F14
    rename News _ _ _ _ => N14
    have hsz6 : ∀ q ∈ [(#[] : Array UInt8), run, run ++ #[97], lets, whole, whole ++ #[98]], q.size ≤ 1000 := by
      simp only [List.forall_mem_cons, Array.size_append, List.not_mem_nil, false_implies, implies_true, and_true]
      refine ⟨by decide, by omega, ?_, by omega, by omega, ?_⟩
      · show run.size + 1 ≤ _; omega
      · show whole.size + 1 ≤ _; omega
    have hb6 : ∃ vs6, BytesAre vs6 [(#[] : Array UInt8), run, run ++ #[97], lets, whole, whole ++ #[98]] ∧ News _ _ _ ((l8, listOf vs6.toArray 0) :: (src, listOf #[.int x7 tx7, .int y7 ty7] 0) :: (s₁.heap.objs.size + 1, oc1) :: rest9) := ⟨_, .cons _ _ (.cons _ _ (.cons _ _ (.cons _ _ (.cons _ _ (.cons _ _ .nil))))), N14⟩
    have hfz1 : (cat fs).length ≤ 100 := by rw [hfz, ← hwz]; exact hwz1
    have hbz1 : (cat fs).length ≤ 100000 := Nat.le_trans hfz1 (by decide)
    clear hsx hq3
    with_unfolding_all refine my_list (σ := Unit) (l := l8) (vs := [_, _, _, _, _, _]) (nn := 0) (fun _ => (l8, _) :: (src, listOf #[.int x7 tx7, .int y7 ty7] 0) :: (s₁.heap.objs.size + 1, oc1) :: rest9) (fun _ => []) [Str.ofString "at"] (fun _ _ => True) () (by rfl) (fun _ => List.mem_cons_self) F14 N14 (by kst_all) trivial ?_ ?_
    · rintro i v ⟨⟩ u h tk own hv hoff _ F15 N15
      obtain ⟨wb, twb, hwb, rfl⟩ := BytesAre.at (ps := [(#[] : Array UInt8), run, run ++ #[97], lets, whole, whole ++ #[98]]) (.cons _ _ (.cons _ _ (.cons _ _ (.cons _ _ (.cons _ _ (.cons _ _ .nil)))))) hv
      have hwbz := hsz6 wb (List.mem_of_getElem? hwb)
      clear hv hwb hsz6 N14 F14 hb6
      dsimp only [kstB] at F15
      k_steps
      refine ⟨?_⟩
      rename IsRange _ _ _ _ _ _ _ _ => R16
      rename Fr _ _ _ _ => F16
      rename News _ _ _ _ => N16
      with_unfolding_all refine my_range (σ := Unit) (n := whole.size + 2) (fun _ => _) (fun _ => []) [] (fun _ _ => True) () (by rfl) R16 (small_one (by decide) (by decide) (by omega) (by omega)) (by rw [rangeSize_nat]; congr 1) F16 N16 (by kst_all) trivial ?_ ?_
      · rintro k tk17 ⟨⟩ u17 h17 tk18 own17 hk17 hoff17 _ F17 N17
        clear F16 N16 R16
        have e0 : (0 : Int) + (k : Int) = (k : Int) := Int.zero_add _
        have hk18 : k < 1000000 := Nat.lt_trans hk17 (Nat.lt_of_le_of_lt (Nat.add_le_add_right hwz1 2) (by decide))
        have hwb18 : wb.size ≤ 100000 := Nat.le_trans hwbz (by decide)
        rw [e0] at F17
        dsimp only [kstB] at F17
        k_steps
        refine ⟨?_⟩
        k_dflt (refine' stands_spec (ps := fs) ⟨?c1, ?c2, ?c3, ?c4⟩ ?hd F17 N17 (hcA.mono (by kcf_all)) hbz1 hfl hk18 hwb18 hfp ?_; (case c1 => k_asm); (case c2 => k_asm); (case c3 => k_asm); (case c4 => exact rfl); (case hd => ktr_room))
        intro h19 tk19 F19 N19
        clear N17 F17
        k_steps
        refine ⟨?_⟩
        k_dflt (refine' lawStands_spec (ps := fs) ⟨?c1, ?c2, ?c3, ?c4⟩ ?hd F19 N19 (hw0.trans hfz.symm) hbz1 hk18 hwb18 ?_; (case c1 => k_asm); (case c2 => k_asm); (case c3 => k_asm); (case c4 => exact rfl); (case hd => ktr_room))
        intro h20 tk20 F20 N20
        clear N19 F19
        k_steps
        refine ⟨my_end () (by assumption) (by assumption) (fun p hp => List.mem_append.mpr (.inl hp)) (fun p hp => List.mem_append.mpr (.inr hp)) hoff17 (by kst_all) (by kst_same) trivial⟩
      · rintro ⟨⟩ u17 h17 tk18 _ F17 N17
        clear F16 N16 R16
        dsimp only [kstB] at F17
        k_steps
        refine ⟨my_end () (by assumption) (by assumption) (fun p hp => List.mem_append.mpr (.inl hp)) (fun p hp => List.mem_append.mpr (.inr hp)) hoff (by kst_all) (by kst_same) trivial⟩
    · rintro ⟨⟩ u h tk _ F15 N15
      clear N14 F14 hb6
      dsimp only [kstB] at F15
      k_steps
      refine ⟨?_⟩
      k_dflt (refine LCt.ListComp_T (F₀ := by k_asm) (by with_unfolding_all rfl) (by decide) (by rfl) (by decide) (by rfl) ?_)
      k_steps
      refine ⟨?_⟩
      rename Fr _ _ _ _ => F16
      rename News _ _ _ _ => N16
      refine LCt.CompSrcT.ledger (by rfl) F16 N16 (List.mem_cons_of_mem _ (List.mem_cons_of_mem _ (List.mem_cons_of_mem _ hm4))) (by rw [sizeLine_eq, List.size_toArray, hys2.length]; omega) ?_
      intro gH2
      have hvl : ys.toArray.size = ys.length := by simp
      refine comp_invT (fun i zs nw => nw = _ ∧ BytesAre zs ((qs.take i).filter fun p => decide (0 < p.size))) ?_ ?_ _ 0 [] _ (Nat.zero_add _) ⟨rfl, .nil⟩
      · rintro i zs nw hi ⟨rfl, hzs⟩ v I oI Cc oC D2 m₂ h2 tk2 E' hv hC hm2 F17 N17 off2 ne
        obtain ⟨b, t, hpb, rfl⟩ := hys2.at (by simpa using hv)
        have hstep : (qs.take (i + 1)).filter (fun p => decide (0 < p.size)) = (qs.take i).filter (fun p => decide (0 < p.size)) ++ if 0 < b.size then [b] else [] := by
          rw [List.take_add_one, hpb, List.filter_append]
          by_cases h0 : 0 < b.size <;> simp [h0]
        k_steps
        · rename (_ != _) = true => hne
          refine ⟨LCg.CompEnd.intro F17 N17 _ (by kcf_all) off2 (.inr ⟨_, List.mem_cons_of_mem _ (List.mem_cons_of_mem _ (List.mem_cons_of_mem _ hm4)), rfl, _, rfl⟩) ⟨rfl, ?_⟩⟩
          rw [hstep, if_pos (pos_of_ne hne)]
          exact hzs.append (.cons b t .nil)
        · rename (_ != _) = false => hne
          refine ⟨LCg.CompEnd.intro F17 N17 _ (by kcf_all) off2 (.inr ⟨_, List.mem_cons_of_mem _ (List.mem_cons_of_mem _ (List.mem_cons_of_mem _ hm4)), rfl, _, rfl⟩) ⟨rfl, ?_⟩⟩
          rw [hstep, if_neg (nil_of_eq hne), List.append_nil]
          exact hzs
      · rintro zs nw ⟨rfl, hzs⟩
        intro Dz hz tkz F17 N17 offz
        have hall : qs.take ys.toArray.size = qs := List.take_of_length_le (by rw [hvl, hys2.length]; exact Nat.le_refl _)
        rw [hall, hfs] at hzs
        k_steps
        refine ⟨?_⟩
        refine eq_bytes_lists (vs := ys9) (ws := zs) (ps := fs) ⟨_, (F17n N17 hm3).1, rfl, ys9.length, rfl⟩ ⟨_, (N17 (Dz, LCg.lst zs) List.mem_cons_self).1, rfl, zs.length, rfl⟩ hys9 hzs (by ktr_units) ?_
        k_steps
end Mine

theorem PySem.Challenge.cw_xw0333_01_holds : PySem.Challenge.rw_xw0333_01.Holds :=
  Mine.law1
