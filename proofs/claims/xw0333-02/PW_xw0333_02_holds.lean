import PyProof.Rows.All
import Wide.All
import OpenK.AllK
import Wide.FinOn
import PySem.Challenge.RW_xw0333_02
open PySem PySem.W PyProof.Rows
set_option Elab.async false
set_option compiler.extract_closed false
namespace Mine
set_option maxRecDepth 100000 in
set_option maxHeartbeats 8000000 in
open_top hd2 for PySem.Challenge.rw_xw0333_02
end Mine
open PySem.Calls PySem.Spec
set_option maxRecDepth 100000
set_option rowWalk.seconds 0
namespace Mine
section
variable {prog : Program} {w : World} {A : Around} {E : Value → Shared → Prop} {s : Shared}
theorem has_bytes : typeLookup (.type "bytes") "__bytes__" = pure (some (.builtin "bytes.__bytes__")) := by rw [typeLookup_type, builtinLookup_eq_fast]; kernel_rfl
theorem new_bytes {b : Array UInt8} {t : Tok} {Q : Value → Shared → Prop} (h : Q (.bytes b t) s) :
    codeAny (model prog w) A (.call (.builtin "bytes.__new__") ⟨[.type "bytes", .bytes b t], []⟩) (wants Q E) s := by
  refine codeAny_of_tree ?_
  show wpAny _ A.in1 (do checkBuiltinCall "bytes.__new__" ⟨[.type "bytes", .bytes b t], []⟩; again (.builtin "bytes.__new__" ⟨[.type "bytes", .bytes b t], []⟩)) _ _ s
  refine wpAny_bind (wpAny_of_eq (F.bm_newCall _) (wpAny_pure ⟨plainId_quiet F.bm_plain _, codeAny_builtin F.bm_entry ?_⟩))
  rw [Around.under_plainId F.bm_plain _]
  unfold Builtin.«bytes.__new__»
  refine wpAny_bind (wpAny_of_eq (a := true) rfl ?_)
  refine bm_if_false rfl ?_
  refine wpAny_bind (wpAny_of_eq F.bm_sub ?_)
  refine bm_if_false rfl ?_
  refine wpAny_bind (wpAny_of_eq (F.bm_bind _) ?_)
  refine wpAny_bind (wpAny_of_eq (a := ()) rfl ?_)
  refine wpAny_bind (wpAny_of_eq (a := ()) rfl ?_)
  refine bm_if_false rfl ?_
  refine wpAny_bind (wpAny_of_eq (KBy.special_eq has_bytes) ?_)
  refine wpAny_bind (wpAny_rule ?_)
  refine wpAny_bind (wpAny_typeOf (typeIs_bytes s b t) ?_)
  refine bm_if_true (by decide) ?_
  refine bm_if_true (by decide) ?_
  first
    | exact wpAny_pure h
    | exact wpAny_bind (wpAny_pure (wpAny_pure h))
theorem call_bytes_bytes {b : Array UInt8} {t : Tok} {Q : Value → Shared → Prop} (h : Q (.bytes b t) s) : wpAny (model prog w) A (call (.type "bytes") [.bytes b t]) Q E s := by
  refine callType_codes (Q₁ := fun obj s₁ => s₁.TypeIs obj "bytes" ∧ Q obj s₁) F.bm_called (F.bm_typeCall _) F.entry_object_init
    (new_bytes ⟨typeIs_bytes _ _ _, h⟩) fun obj s₁ h₁ => ?_
  exact ⟨h₁.1, F.args_object_init_2 obj _, object_init_meets F.bm_called.init.lookup F.bm_called.made (by decide) prog w A.in1 _ s₁ ⟨h₁.1, rfl, h₁.2⟩⟩
end

/-- the values are these octets, each with a token of its own -/
inductive BytesAre : List Value → List (Array UInt8) → Prop
  | nil : BytesAre [] []
  | cons (b : Array UInt8) (t : Tok) {vs : List Value} {ps : List (Array UInt8)} : BytesAre vs ps → BytesAre (.bytes b t :: vs) (b :: ps)
theorem BytesAre.length {vs : List Value} {ps : List (Array UInt8)} (h : BytesAre vs ps) : vs.length = ps.length := by
  induction h with
  | nil => rfl
  | cons b t _ ih => simp [ih]
theorem BytesAre.append {vs ws : List Value} {ps qs : List (Array UInt8)} (h : BytesAre vs ps) (k : BytesAre ws qs) : BytesAre (vs ++ ws) (ps ++ qs) := by
  induction h with
  | nil => exact k
  | cons b t _ ih => exact .cons b t ih
theorem BytesAre.get {vs : List Value} {ps : List (Array UInt8)} (h : BytesAre vs ps) : ∀ {i : Nat} {b : Array UInt8}, ps[i]? = some b → ∃ t, vs[i]? = some (.bytes b t) := by
  induction h with
  | nil => intro i b e; simp at e
  | cons b t _ ih =>
    intro i c e
    cases i with
    | zero => simp at e; subst e; exact ⟨t, rfl⟩
    | succ i => exact ih (by simpa using e)
theorem BytesAre.at {vs : List Value} {ps : List (Array UInt8)} (h : BytesAre vs ps) : ∀ {i : Nat} {v : Value}, vs[i]? = some v → ∃ b t, ps[i]? = some b ∧ v = .bytes b t := by
  induction h with
  | nil => intro i b e; simp at e
  | cons b t _ ih =>
    intro i c e
    cases i with
    | zero => simp at e; subst e; exact ⟨b, t, rfl, rfl⟩
    | succ i => exact ih (by simpa using e)
noncomputable def cat (ps : List (Array UInt8)) : List UInt8 := (ps.map Array.toList).flatten

namespace Jn
open Builtin
theorem slot_join : Slot "bytes" "join" "bytes.join" :=
  .of (owner := "bytes") (n := "join") (by rw [typeLookup_type, builtinLookup_eq_fast]; kernel_rfl) (by decide +kernel) (by decide +kernel) (by decide +kernel)
    (by first | exact .inl (by decide +kernel) | exact .inr (by decide +kernel)) (by rw [isSubtype_type]; kernel_rfl)
theorem entry_join : entryFor table "bytes.join" = some Builtin.«bytes.join» := by first | exact entryFor_of_tree (by kernel_rfl) | exact entryFor_of_fast (by kernel_rfl)
theorem args_join (a b : Value) : argsOk "bytes.join" ⟨[a, b], []⟩ := by
  unfold argsOk; rw [signature?_of (id := "bytes.join") (n := ['n', 'i', 'o', 'j']) (o := ['s', 'e', 't', 'y', 'b']) (by kernel_rfl) FB.owner_bytes]; kernel_rfl
theorem take_eq {id : String} {b : Array UInt8} {t : Tok} : Bytes.takeBuffer? id (.bytes b t) 0 = pure (some (b, none)) := by
  unfold Bytes.takeBuffer?
  rw [KBy.special_eq KBy.look_buffer, KBy.own_buffer]
  simp only [pure_bind, Bool.not_true, Bool.false_eq_true, if_false]
  have e : ∀ f, Bytes.buffer? id (.bytes b t) f = pure (some b) := fun f => by
    unfold Bytes.buffer?
    rw [KBy.special_eq KBy.look_buffer, KBy.own_buffer, KBy.own_release]
    rfl
  rw [e]
  rfl
theorem takeQuiet_eq {id : String} {b : Array UInt8} {t : Tok} : Bytes.takeBufferQuiet? id (.bytes b t) 0 = pure (some (b, none)) := by
  unfold Bytes.takeBufferQuiet?
  rw [take_eq]
  rfl
theorem letGo_all {M : Model} {A : Around} {E : Value → Shared → Prop} {s : Shared} {Q : Unit → Shared → Prop} {keep : List Value} : ∀ {taken : List (Value × Option Value)}, (∀ p ∈ taken, p.2 = none) → Q () s → wpAny M A (Bytes.joinLetGo taken keep) Q E s
  | [], _, h => wpAny_pure h
  | (x, w) :: rest, hn, h => by
    have e : w = none := hn (x, w) (.head _)
    subst e
    unfold Bytes.joinLetGo
    exact wpAny_bind (wpAny_letGo (letGo_all (fun p hp => hn p (.tail _ hp)) h))
theorem joined_go (ps : List (Array UInt8)) : ∀ (k : Nat) (acc : Array UInt8), (ps.zipIdx k).foldl (fun out (p, i) => (if i > 0 then out ++ (#[] : Array UInt8) else out) ++ p) acc = acc ++ (cat ps).toArray := by
  induction ps with
  | nil => intro k acc; simp [cat]
  | cons p r ih =>
    intro k acc
    rw [List.zipIdx_cons, List.foldl_cons, ih]
    have e : (if k > 0 then acc ++ (#[] : Array UInt8) else acc) = acc := by split <;> simp
    simp only [e]
    have e2 : (cat (p :: r)).toArray = p ++ (cat r).toArray := by
      apply Array.toList_inj.mp
      simp [cat]
    rw [e2, Array.append_assoc]
theorem joined_eq (ps : List (Array UInt8)) : Bytes.joined #[] ps = (cat ps).toArray := by
  unfold Bytes.joined
  rw [joined_go]
  simp
theorem fold_size (ps : List (Array UInt8)) : ∀ k : Nat, ps.foldl (fun x p => x + p.size) k = k + (cat ps).length := by
  induction ps with
  | nil => intro k; simp [cat]
  | cons p r ih => intro k; rw [List.foldl_cons, ih]; simp [cat]; omega
theorem items_eq {M : Model} {A : Around} {E : Value → Shared → Prop} {s : Shared} {a : Addr} {its : Array Value} {Q : Option (Array Value) → Shared → Prop} (hl : s.heap.IsList a its) (h : Q (some its) s) : wpAny M A (seqItems? (.ref a)) Q E s := by
  obtain ⟨o, ho, hc, n, hd⟩ := hl
  unfold seqItems?
  refine wpAny_bind (wpAny_load ho ?_)
  rw [hd]
  exact wpAny_pure h
theorem match_off {β : Type} {items : Array Value} {h1 : Value → β} {h2 : Array Value → β} (h : items.size ≠ 1) : Bytes.joinM.match_1 (fun _ => β) items h1 h2 = h2 items :=
  match items, h with
  | ⟨[]⟩, _ => rfl
  | ⟨[_]⟩, h => absurd rfl h
  | ⟨_ :: _ :: _⟩, _ => rfl
theorem meets_join (t : Tok) (a : Addr) (vs : List Value) (ps : List (Array UInt8)) (hb : BytesAre vs ps) (hz : (cat ps).length ≤ 16777216) :
    Meets («bytes.join» ⟨[.bytes #[] t, .ref a], []⟩) (fun _ R s => s.heap.IsList a vs.toArray ∧ ∀ t' k, R (.ok (.ret (.bytes (cat ps).toArray t'))) { s with toks := k }) := by
  refine .of_wp fun prog w A R s hS => ?_
  obtain ⟨hl, h⟩ := hS
  unfold «bytes.join» Bytes.joinM
  refine wpAny_bind (wpAny_of_eq (a := (Value.bytes #[] t, Value.ref a)) rfl ?_)
  dsimp only
  refine bm_if_true (by decide) ?_
  refine wpAny_bind ?_
  unfold Bytes.joinItems
  refine wpAny_bind (wpAny_typeOf hl.typeIs ?_)
  refine bm_if_true (by decide) ?_
  refine wpAny_pure ?_
  refine wpAny_bind (items_eq hl ?_)
  dsimp only
  refine bm_if_true (by decide) ?_
  have hcase : (∃ b t, vs = [.bytes b t] ∧ ps = [b]) ∨ vs.toArray.size ≠ 1 := by
    cases hb with
    | nil => exact .inr (by simp)
    | cons b t r => cases r with
      | nil => exact .inl ⟨b, t, rfl, rfl⟩
      | cons c u r => exact .inr (by simp)
  rcases hcase with ⟨b, t, rfl, rfl⟩ | hcase
  · · with_unfolding_all refine wpAny_bind (wpAny_typeOf (typeIs_bytes s b t) ?_)
      refine bm_if_true (by decide) ?_
      refine wpAny_bind (wpAny_rule ?_)
      have e2 : (cat [b]).toArray = b := by
        apply Array.toList_inj.mp
        simp [cat]
      rw [e2] at h
      exact wpAny_pure ⟨_, rfl, h t s.toks⟩
  · rw [match_off hcase]
    clear hcase
    obtain ⟨vs0, hvs0⟩ : ∃ v0, v0 = vs := ⟨vs, rfl⟩
    subst hvs0
    have hb0 := hb
    have hl0 := hl
    clear hb hl
    refine wpAny_bind ?_
    show wpAny _ _ (forIn [0:vs0.toArray.size] _ _) _ _ _
    rw [Std.Legacy.Range.forIn_eq_forIn_range']
    refine wpAny_forIn_list _ (fun rest (b : Array (Array UInt8) × List (Value × Option Value)) s' => s' = s ∧ ∃ i, rest = List.range' i (vs0.length - i) ∧ i ≤ vs0.length ∧ b.1.toList = ps.take i ∧ ∀ p ∈ b.2, p.2 = none ∧ p.1.onHeap = false) _ ?_ ?_ _ _ ?_
    · rintro x rest ⟨parts, taken⟩ s' ⟨rfl, i, hr, hi, hp, ht⟩
      dsimp only at hp ht ⊢
      have hlt : i < vs0.length := by
        rcases Nat.lt_or_ge i vs0.length with h1 | h1
        · exact h1
        · rw [Nat.sub_eq_zero_of_le h1] at hr; cases hr
      have e3 : vs0.length - i = (vs0.length - (i + 1)) + 1 := (Nat.succ_pred_eq_of_pos (Nat.sub_pos_of_lt hlt)).symm
      rw [e3, List.range'_succ] at hr
      injection hr with hx hrest
      subst hx hrest
      obtain ⟨b, t, hpb, hv⟩ := hb0.at (List.getElem?_eq_getElem hlt)
      have hg : vs0.toArray.getD x Value.none = .bytes b t := by
        rw [← hv]; simp [Array.getD, hlt]
      refine wpAny_bind (items_eq hl0 ?_)
      dsimp only
      rw [hg]
      refine bm_if_false ?_ ?_
      · rw [Bool.or_eq_false_iff]
        exact ⟨by decide, List.any_eq_false.mpr fun p hp9 => by rw [(ht p hp9).2]; exact Bool.false_ne_true⟩
      refine wpAny_bind (wpAny_holding (wpAny_of_eq takeQuiet_eq ?_))
      dsimp only
      refine wpAny_bind (items_eq hl0 ?_)
      dsimp only
      refine bm_if_false (by simp) ?_
      refine wpAny_pure ⟨rfl, x + 1, rfl, hlt, ?_, ?_⟩
      · rw [Array.toList_push, hp, List.take_add_one, hpb]; rfl
      · intro p hp9
        rcases List.mem_append.mp hp9 with h9 | h9
        · exact ht p h9
        · rw [List.mem_singleton.mp h9]; exact ⟨rfl, rfl⟩
    · rintro ⟨parts, taken⟩ s' ⟨rfl, i, hr, hi, hp, ht⟩
      dsimp only at hp ht ⊢
      have hin : i = vs0.length := Nat.le_antisymm hi (Nat.sub_eq_zero_iff_le.mp (List.length_range'.symm.trans (congrArg List.length hr.symm)))
      rw [hin, hb0.length, List.take_length] at hp
      refine wpAny_bind (wpAny_of_eq (a := #[]) rfl ?_)
      have hz' : Array.foldl (fun x1 x2 => x1 + x2.size) ((#[] : Array UInt8).size * (parts.size - 1)) parts = (cat ps).length := by
        rw [← Array.foldl_toList, hp, fold_size]; simp
      refine bm_if_false ?_ ?_
      · rw [hz']
        unfold Bytes.tooLong
        rw [sizeLine_eq]
        exact decide_eq_false (by omega)
      have ej : Bytes.joined #[] parts.toList = (cat ps).toArray := by rw [hp, joined_eq]
      rw [ej]
      refine wpAny_bind (wpAny_mkBytes ?_ (by rw [sizeLine_eq]; simpa using hz))
      refine wpAny_bind (wpAny_holding (wpAny_point ?_))
      refine wpAny_bind (letGo_all (fun p hp9 => (ht p hp9).1) ?_)
      exact wpAny_pure ⟨_, rfl, h _ _⟩
    · refine ⟨rfl, 0, ?_, Nat.zero_le _, rfl, fun _ hp9 => nomatch hp9⟩
      simp [Std.Legacy.Range.size]
end Jn
section
variable {prog : Program} {w : World} {A : Around} {E : Value → Shared → Prop} {s : Shared}
theorem join_bytes {l : Addr} {vs : List Value} {ps : List (Array UInt8)} {t : Tok} {Q : Value → Shared → Prop} (hl : s.heap.IsList l vs.toArray) (hb : BytesAre vs ps) (hz : (cat ps).length ≤ 16777216)
    (h : ∀ t' k, Q (.bytes (cat ps).toArray t') { s with toks := k }) : wpAny (model prog w) A (call (.builtin "bytes.join") [.bytes #[] t, .ref l]) Q E s :=
  call_meets Jn.slot_join (typeIs_bytes s #[] t) Jn.entry_join (Jn.args_join _ _) (Jn.meets_join t l vs ps hb hz) ⟨hl, h⟩
end

section
variable {prog : Program} {w : World} {A : Around} {E : Value → Shared → Prop} {s : Shared} {h₀ : Heap} {L : Addr} {news : List (Addr × Obj)}
theorem item_list {value slice : PySem.Expr} {l : Addr} {vs : List Value} {c : Nat} {k : Int} {u : Tok} {v : Value} {Q : Value → Shared → Prop}
    (N : News h₀ L s.heap news) (hm : (l, listOf vs.toArray c) ∈ news) (h0 : 0 ≤ k) (hhi : k < 2 ^ 63) (hx : vs[k.toNat]? = some v) (h : Q v s)
    (hs : subscripted slice false (.ref l) (.int k u) = operate [.ref l, .int k u] (getItem (.ref l) (.int k u)) := by with_unfolding_all rfl) :
    wpAny (model prog w) A (subscriptTail value slice (.ref l) (.int k u)) Q E s :=
  have hl : s.heap.IsList l vs.toArray := ⟨_, (N _ hm).1, rfl, c, rfl⟩
  tail_any hl.typeIs slot_list_getitem.lookup (wpAny_getItem_list hl h0 hhi (by simpa using hx) h) hs
end
/-- the place of an octet: its part, the octets ahead of it there -/
noncomputable def place : List (Array UInt8) → Nat → Nat × Nat
  | [], _ => (0, 0)
  | p :: r, k => if k < p.size then (0, k) else ((place r (k - p.size)).1 + 1, (place r (k - p.size)).2)

section
variable {prog : Program} {w : World} {A : Around} {E : Value → Shared → Prop} {s : Shared} {value slice : PySem.Expr} {b : Array UInt8} {t : Tok} {h₀ : Heap} {L : Addr} {m : PySem.Str → Option Value} {news : List (Addr × Obj)} {lo hi : Int} {tl th : Tok} {Q : Value → Shared → Prop}
end

theorem cat_nil : cat [] = [] := rfl
theorem cat_cons (p : Array UInt8) (r : List (Array UInt8)) : cat (p :: r) = p.toList ++ cat r := by simp [cat]
section
variable {prog : Program} {w : World} {A : Around} {E : Value → Shared → Prop} {s : Shared}
theorem type_join : typeOf (.builtin "bytes.join") = pure (.type "method_descriptor") := by show builtinType _ = _; rw [builtinType_eq_fast]; kernel_rfl
theorem getMethod_join {M : Model} {b : Array UInt8} {t : Tok} {pl : Sem Bool} {Q : Value × List Value → Shared → Prop} (h : Q (.builtin "bytes.join", [.bytes b t]) s) : wpAny M A (getMethod (.bytes b t) "join" pl) Q E s := by
  with_reducible exact KBd.method_of (.bytes b t) (typeIs_bytes _ _ _) Jn.slot_join type_join KBd.noRef h
end

/-- what holds ahead of turn i: the ledger, the named locals, a word of one's own -/
def LoopJ {σ : Type} (Led : σ → List (Addr × Obj)) (ps : σ → List (Str × Value)) (x : Str) (stored : List Str) (m₀ : Str → Option Value) (P : Nat → σ → Prop) (i : Nat) (m : Str → Option Value) (nx : List (Addr × Obj)) : Prop :=
  ∃ c : σ, nx = Led c ∧ (∀ p ∈ ps c, m p.1 = some p.2) ∧ (∀ z, z ≠ x → (∀ p ∈ ps c, z ≠ p.1) → stored.contains z = false → m z = m₀ z) ∧ P i c
section
variable {prog : Program} {w : World} {A : Around} {E : Value → Shared → Prop} {s : Shared} {env : Env} {h₀ : Heap} {x : Str} {body : List Stmt} {Q : Flow → Shared → Prop}
theorem my_list {σ : Type} {l : Addr} {vs : List Value} {nn : Nat} {m₀ : Str → Option Value} (Led : σ → List (Addr × Obj)) (ps : σ → List (Str × Value)) (stored : List Str) (P : Nat → σ → Prop) (c₀ : σ)
    (hh : A.handled = none) (hl : ∀ c, (l, listOf vs.toArray nn) ∈ Led c) (F : Fr h₀ env.locals s.heap m₀) (N : News h₀ env.locals s.heap (Led c₀)) (hk : ∀ p ∈ ps c₀, m₀ p.1 = some p.2) (hp : P 0 c₀)
    (turn : ∀ i v c (u : Str → Option Value) h tk own, vs[i]? = some v → OwnOff own ((Led c).map (·.1)) → P i c →
      Fr h₀ env.locals h (fun y => if y = x then some v else kstB (fun z => if stored.contains z then u z else m₀ z) (ps c) y) → News h₀ env.locals h (Led c ++ own) →
      wpAny (model prog w) A (execs body env) (InvPostG h₀ env.locals (LoopJ Led ps x stored m₀ P (i + 1)) own { s with heap := h, toks := tk } Q) E { s with heap := h, toks := tk })
    (done : ∀ c (u : Str → Option Value) h tk, P vs.length c → Fr h₀ env.locals h (fun y => if y = x then u y else kstB (fun z => if stored.contains z then u z else m₀ z) (ps c) y) → News h₀ env.locals h (Led c) → Q .next { s with heap := h, toks := tk }) :
    wpAny (model prog w) A (pyIter (.ref l)) (fun it s₂ => LoopAtV prog w A h₀ env x body Q E it s₂) E s := by
  refine kdl_iter (LoopJ Led ps x stored m₀ P) hh (hl c₀) F N ⟨c₀, rfl, hk, fun _ _ _ _ => rfl, hp⟩ ?_ ?_
  · rintro i v m₁ nx h tk own hv hoff _ ⟨c, rfl, h1, h2, hp'⟩ F₁ N₁
    refine wpAny_mono (turn i v c m₁ h tk own hv hoff hp' (kst_fr h1 h2 F₁) N₁) (fun f s₂ p => ?_) fun _ _ e => e
    have up : InvEndG h₀ env.locals (LoopJ Led ps x stored m₀ P (i + 1)) own { s with heap := h, toks := tk } s₂ → InvEndG h₀ env.locals (fun m' nx => (l, listOf vs.toArray nn) ∈ nx ∧ LoopJ Led ps x stored m₀ P (i + 1) m' nx) own { s with heap := h, toks := tk } s₂ := by
      rintro ⟨h', tk', m', news', nx', e', F', N', hn', ho', ha, hS⟩
      refine ⟨h', tk', m', news', nx', e', F', N', hn', ho', ha, ?_, hS⟩
      obtain ⟨c', rfl, _⟩ := hS
      exact hl c'
    cases f with
    | ret v => exact p
    | brk => exact p
    | next => exact up p
    | cont => exact up p
  · rintro m₁ nx h tk ⟨c, rfl, h1, h2, hp'⟩ F₁ N₁
    exact done c m₁ h tk hp' (kst_frOut h1 h2 F₁) N₁
theorem my_range {σ : Type} {r : Addr} {a₀ b₀ : Int} {t₀ u₀ v₀ : Tok} {n : Nat} {m₀ : Str → Option Value} (Led : σ → List (Addr × Obj)) (ps : σ → List (Str × Value)) (stored : List Str) (P : Nat → σ → Prop) (c₀ : σ)
    (hh : A.handled = none) (hr : IsRange s.heap r a₀ b₀ 1 t₀ u₀ v₀) (hsmall : Builtin.Range.small a₀ b₀ 1 = true) (hsz : Builtin.Range.rangeSize a₀ b₀ 1 = (n : Int)) (F : Fr h₀ env.locals s.heap m₀) (N : News h₀ env.locals s.heap (Led c₀)) (hk : ∀ p ∈ ps c₀, m₀ p.1 = some p.2) (hp : P 0 c₀)
    (turn : ∀ i t c (u : Str → Option Value) h tk own, i < n → OwnOff own ((Led c).map (·.1)) → P i c →
      Fr h₀ env.locals h (fun y => if y = x then some (.int (a₀ + (i : Int)) t) else kstB (fun z => if stored.contains z then u z else m₀ z) (ps c) y) → News h₀ env.locals h (Led c ++ own) →
      wpAny (model prog w) A (execs body env) (InvPostG h₀ env.locals (LoopJ Led ps x stored m₀ P (i + 1)) own { s with heap := h, toks := tk } Q) E { s with heap := h, toks := tk })
    (done : ∀ c (u : Str → Option Value) h tk, P n c → Fr h₀ env.locals h (fun y => if y = x then u y else kstB (fun z => if stored.contains z then u z else m₀ z) (ps c) y) → News h₀ env.locals h (Led c) → Q .next { s with heap := h, toks := tk }) :
    wpAny (model prog w) A (pyIter (.ref r)) (fun it s₂ => LoopAtV prog w A h₀ env x body Q E it s₂) E s := by
  refine wpAny_pyIter_range hr hsmall ?_
  have W : Walks prog w A s.heap.objs.size [s.heap.objs.size] [s.heap.objs.size] n (fun i v => i < n ∧ ∃ t, v = .int (a₀ + i * 1) t)
      (fun i h => IsRangeIter h s.heap.objs.size (a₀ + (i : Nat) * 1) ((n : Int) - (i : Nat)) 1) := (Walks.range hh _ a₀ 1 n).bound
  refine kdr_loop (LoopJ Led ps x stored m₀ P) W (fun _ h => h) (fun _ h => h) ?_ ?_ ?_ ?_ (by show IsRangeIter _ _ _ _ _; rw [hsz]; simpa using Heap.get?_push_size _ rfl) (F.push _) (fun p hp => ⟨Heap.get?_push_of_some _ (N p hp).1, (N p hp).2⟩) ⟨c₀, rfl, hk, fun _ _ _ _ => rfl, hp⟩ ?_ ?_
  · intro i h hi b hb
    rw [List.mem_singleton.mp hb]
    exact ⟨_, hi⟩
  · intro hm
    exact absurd F.ns.lt ((List.mem_singleton.mp hm) ▸ Nat.lt_irrefl _)
  · intro b hb
    rw [List.mem_singleton.mp hb]
    exact next_is_new F
  · intro p hp hI
    exact absurd (Heap.lt_size (N p hp).1) ((List.mem_singleton.mp hI) ▸ Nat.lt_irrefl _)
  · rintro i v m₁ nx h tk own hi ⟨_, t, rfl⟩ hoff ⟨c, rfl, h1, h2, hp'⟩ F₁ N₁
    have e1 : a₀ + (i : Int) * 1 = a₀ + (i : Int) := by omega
    rw [e1] at F₁
    exact turn i t c m₁ h tk own hi hoff hp' (kst_fr h1 h2 F₁) N₁
  · rintro m₁ nx h tk ⟨c, rfl, h1, h2, hp'⟩ F₁ N₁
    exact done c m₁ h tk hp' (kst_frOut h1 h2 F₁) N₁
theorem my_end {σ : Type} {Led : σ → List (Addr × Obj)} {ps : σ → List (Str × Value)} {stored : List Str} {m₀ : Str → Option Value} {P : Nat → σ → Prop} {i : Nat} (c : σ) {L : Addr} {m' : Str → Option Value} {own news' : List (Addr × Obj)} {s₁ : Shared} {h' : Heap} {tk : Nat}
    (F : Fr h₀ L h' m') (N : News h₀ L h' news') (hn : ∀ p ∈ Led c, p ∈ news') (ho : ∀ p ∈ own, p ∈ news') (hoff : OwnOff own ((Led c).map (·.1))) (hk : ∀ p ∈ ps c, m' p.1 = some p.2) (hr : ∀ z, z ≠ x → (∀ p ∈ ps c, z ≠ p.1) → stored.contains z = false → m' z = m₀ z) (hp : P i c) :
    InvEndG h₀ L (LoopJ Led ps x stored m₀ P i) own s₁ { s₁ with heap := h', toks := tk } := ⟨h', tk, m', news', Led c, rfl, F, N, hn, ho, hoff, c, rfl, hk, hr, hp⟩
end
theorem fill4 {w : World} {h : Heap} : (hd2.heap_39 w.params).In h → PySem.Challenge.rw_xw0333_02.name = PySem.Challenge.rw_xw0333_02.name := by
  k_fill
  intro _
  rfl
structure Cx (w : World) (mean : ExcName → Option Value) (mg mb : Str → Option Value) (cs : Scope) (outer : List Env) (A₀ : Around) (base h₀ : Heap) : Prop where
  B : Below A₀ base outer h₀
  X : (hd2.heap_39 w.params).In h₀
  T : Top hd2.view_39 (looseW hd2.view_39 []) mean mg mb h₀
  hk : cs.kind = .function

theorem fm0 {a b : Int} (h : 0 < b) : 0 ≤ a.fmod b := by
  rw [Int.fmod_eq_emod_of_nonneg _ (by omega)]
  exact Int.emod_nonneg _ (by omega)
theorem mulOk_fmod (z : Int) : IntMulOk (z.fmod 2147483647) (z.fmod 2147483647) := by
  have h0 : 0 ≤ z.fmod 2147483647 := fm0 (by decide)
  have h1 : z.fmod 2147483647 < 2147483647 := Int.fmod_lt_of_pos _ (by decide)
  exact .of_right (intBits_le_64 (by omega) (by omega))
theorem fdiv_nonneg' {x t : Int} (hx : 0 ≤ x) (ht : 0 < t) : 0 ≤ x.fdiv t := Int.fdiv_nonneg hx (by omega)
theorem fdiv_le' {x t : Int} (hx : 0 ≤ x) (ht : 1 ≤ t) : x.fdiv t ≤ x := by
  rw [Int.fdiv_eq_ediv_of_nonneg _ (by omega)]
  exact Int.ediv_le_self _ hx

set_option maxHeartbeats 4000000 in
theorem take_spec {w : World} {mean : ExcName → Option Value} {mg mb : Str → Option Value} {cs : Scope} {outer : List Env} {A₀ : Around} {base h₀ : Heap} (C : Cx w mean mg mb cs outer A₀ base h₀)
    {dp un : Nat} {gd : Option (List Code)} {cn : Str} {a : Addr} {ccd : Value} {cl : List (Str × Addr)} {L : Addr} {m : Str → Option Value} {s : Shared} {Q E : Value → Shared → Prop}
    (hd : dp + 3 < recursionLimit) (F : Fr h₀ L s.heap m)
    {src : Addr} {x y top : Int} {tx ty tt : Tok} {nn : Nat} {news : List (Addr × Obj)}
    (N : News h₀ L s.heap ((src, listOf #[.int x tx, .int y ty] nn) :: news)) (hoff : OwnOff news [src])
    (hx : 0 ≤ x) (hy : 0 ≤ y) (hy' : y < 2147483647) (ht : 1 ≤ top) (ht' : top < 1048576)
    (ret : ∀ v x' y' tv tx' ty' h' tk', 0 ≤ v → v < top → 0 ≤ x' → x' ≤ x → 0 ≤ y' → y' < 2147483647 → Fr h₀ L h' m → News h₀ L h' ((src, listOf #[.int x' tx', .int y' ty'] nn) :: news) → Q (.int v tv) { s with heap := h', toks := tk' }) :
    wpAny (model PySem.Challenge.rw_xw0333_02.row.prog w) (ktrTop dp un gd cn cs L a ccd cl outer) (call (.ref 262) [.ref src, .int top tt]) Q E s := by
  obtain ⟨B, X, T, hk⟩ := C
  refine wpAny_call ?_
  k_dflt cell_enter
  rename Fr _ _ _ _ => F9
  revert F9
  show let m9 : Str → Option Value := _; Fr _ _ _ m9 → _
  intro m9 F9
  k_steps
  · exact ret _ _ _ _ _ _ _ _ (fm0 (by omega)) (Int.fmod_lt_of_pos _ (by omega)) (fdiv_nonneg' hx (by omega)) (fdiv_le' hx ht) hy hy' (by assumption) (by assumption)
  · refine mul_int ?_ (mulOk_fmod _)
    k_steps
    rename_i kF kN _ _
    exact ret _ _ _ _ _ _ _ _ (fm0 (by omega)) (Int.fmod_lt_of_pos _ (by omega)) hx (Int.le_refl _) (fm0 (by decide)) (Int.fmod_lt_of_pos _ (by decide)) (by assumption) (by assumption)

/-- the walk stops here: the prover goes on by hand -/
structure Stop (P : Prop) : Prop where
  out : P
structure PastIt : Prop where
  mark :: (one : True)
theorem join_int {M : Model} {A : Around} {E : Value → Shared → Prop} {s : Shared} {t : Sem Value} {Q : Value → Shared → Prop} (P : Int → Prop)
    (h1 : wpAny M A t (fun v s' => ∃ n u k, v = .int n u ∧ P n ∧ s' = { s with toks := k }) E s) (h2 : ∀ n u k, P n → Q (.int n u) { s with toks := k }) : wpAny M A t Q E s :=
  wpAny_mono h1 (fun v s' h => by obtain ⟨n, u, k, rfl, a, rfl⟩ := h; exact h2 n u k a) fun _ _ e => e
theorem stopIter {prog : Program} {w : World} {A A' : Around} {h₀ : Heap} {env : Env} {x : Str} {body : List Stmt} {Q : Flow → Shared → Prop} {E E' : Value → Shared → Prop} {r : Addr} {s : Shared}
    (h : Stop (wpAny (model prog w) A (pyIter (.ref r)) (fun it s₂ => LoopAtV prog w A' h₀ env x body Q E it s₂) E' s)) : wpAny (model prog w) A (pyIter (.ref r)) (fun it s₂ => LoopAtV prog w A' h₀ env x body Q E it s₂) E' s := h.out
local macro_rules
  | `(tactic| walk_at $k:str) =>
    let s := k.getString
    if ["call ref", "eval ListComp", "exec Assign cons ListComp", "CompSrc", "CompSrcT", "CompEnd", "InvEndG", "RSrc", "JB", "subscriptTail Name Slice ref ref", "compareOp Eq ref ref", "compareOp NotEq ref ref", "call builtin:bytes.join", "call builtin:list.append", "call builtin:list.insert", "leaving ref", "exec Raise some none"].contains s then `(tactic| refine Stop.out ?_)
    else if s == "eval IfExp" || s == "eval BoolOp" then `(tactic| ((fail_if_success (rename PastIt => hM9)); refine Stop.out ?_))
    else if s == "setAttr ref" then `(tactic| ((rename PastIt => hM9); refine Stop.out ?_))
    else if s == "pyIter ref" then `(tactic| refine stopIter ?_)
    else if ["exec For Name", "exec For Name Attribute cons nil", "exec For Name Call cons nil", "exec For Name List cons nil"].contains s then `(tactic| (k_here; (rename Fr _ _ _ _ => lF'); (with_unfolding_all refine' For_invVF lF' rfl rfl ?_)))
    else if s == "call type:bytes" then `(tactic| refine call_bytes_bytes ?_)
    else if s == "getMethod bytes" then `(tactic| refine getMethod_join ?_)
    else if s == "call builtin:len" then `(tactic| first
    | (refine len_bytes (by first | assumption | omega) ?_)
    | (k_dflt (refine kst_len (by k_asm) (by assumption) (by first | exact BytesAre.length (by assumption) | assumption) (by omega) ?_)))
    else if s == "subscriptTail" then `(tactic| k_dflt (refine item_list (by k_asm) (by first | assumption | exact List.mem_append_left _ (by assumption)) (by omega) (by omega) (by assumption) ?_))
    else Lean.Macro.throwUnsupported
local macro_rules | `(tactic| k_mem) => `(tactic| assumption)


section
open LCg
variable {prog : Program} {w : World} {A : Around} {h₀ : Heap} {L : Addr} {m : Str → Option Value} {env : Env}
end
theorem News.sub {h₀ h : Heap} {L : Addr} {l l' : List (Addr × Obj)} (N : News h₀ L h l) (hs : ∀ p ∈ l', p ∈ l) : News h₀ L h l' := fun p hp => N p (hs p hp)
theorem off_cons {src : Addr} {p : Addr × Obj} {l : List (Addr × Obj)} (h : @Ne Nat p.1 src) (hl : OwnOff l [src]) : OwnOff (p :: l) [src] := fun q hq b hb => by
  rcases List.mem_cons.mp hq with rfl | hq
  · rw [List.mem_singleton.mp hb]; exact h
  · exact hl q hq b hb
theorem off_nil {src : Addr} : OwnOff [] [src] := fun _ hq => nomatch hq
theorem part_le {ps : List (Array UInt8)} : ∀ {i : Nat} {b : Array UInt8}, ps[i]? = some b → b.size ≤ (cat ps).length := by
  induction ps with
  | nil => intro i b e; simp at e
  | cons p r ih =>
    intro i b e
    cases i with
    | zero => simp at e; subst e; simp [cat]
    | succ i =>
      have := ih (i := i) (b := b) (by simpa using e)
      simp [cat] at this ⊢
      omega
theorem off1_mem {D : Addr} : ∀ {l : List (Addr × Obj)}, LCg.Off1 D l → ∀ p ∈ l, p.1 ≠ D
  | [], _, _, hp => nomatch hp
  | _ :: _, x, p, hp => by
    rcases List.mem_cons.mp hp with rfl | hp
    · exact x.1
    · exact off1_mem x.2 p hp
section
open LCg LCt
variable {prog : Program} {w : World} {A : Around} {h₀ : Heap} {L : Addr} {m : Str → Option Value} {env : Env}
theorem comp_invT {ct elt : Expr} {x : Str} {scope : Scope} {cl : List (Str × Addr)} {s : Shared} {S : List (Addr × Obj) → Prop} {P : Nat → Value → Prop} {Fin : List Value → List (Addr × Obj) → Prop} {n : Nat}
    (Inv : Nat → List Value → List (Addr × Obj) → Prop)
    (step : ∀ i ys news, i < n → Inv i ys news → ∀ v I oI C oC D m₂ h tk (E' : Value → Shared → Prop), P i v → NsObj oC m₂ → m₂ x = some v → Fr h₀ L h m → News h₀ L h ((I, oI) :: (C, oC) :: (D, lst ys) :: news) → Off3 I C D news → ((@Ne Nat I C) ∧ (@Ne Nat I D) ∧ (@Ne Nat C D)) →
      wpAny (model prog w) A (isTrue ct (compEnvC scope cl C env) (eval ct (compEnvC scope cl C env))) (fun ok s' => if ok = true then
        wpAny (model prog w) A (eval elt (compEnvC scope cl C env)) (CompEnd h₀ L m { s with heap := h, toks := tk } I oI C oC D (lst ys) S (fun y news' => Inv (i + 1) (ys ++ [y]) news')) E' s'
        else CompEnd h₀ L m { s with heap := h, toks := tk } I oI C oC D (lst ys) S (fun _ news' => Inv (i + 1) ys news') Value.none s') E' { s with heap := h, toks := tk })
    (fin : ∀ ys news, Inv n ys news → Fin ys news) :
    ∀ j i ys news, i + j = n → Inv i ys news → CompRestT prog w A h₀ L m env ct elt x scope cl s S P Fin j i ys news := by
  intro j
  induction j with
  | zero =>
    intro i ys news hi hI
    have e : i = n := by omega
    subst e
    exact CompRestT.zero (fin ys news hI)
  | succ j ih =>
    intro i ys news hi hI
    refine CompRestT.succ ?_
    intro v I oI C oC D m₂ h tk E' hv hC hx F N off ne
    refine wpAny_mono (step i ys news (by omega) hI v I oI C oC D m₂ h tk E' hv hC hx F N off ne) (fun b s₂ hq => ?_) fun _ _ e => e
    cases b with
    | true =>
      simp only [if_true] at hq ⊢
      refine wpAny_mono hq (fun y s₃ hr => ?_) fun _ _ e => e
      obtain ⟨h', tk', nw, e, F', N', off', hS, hn⟩ := hr
      exact ⟨h', tk', nw, e, F', N', off', hS, ih (i + 1) _ _ (by omega) hn⟩
    | false =>
      simp only [Bool.false_eq_true, if_false] at hq ⊢
      obtain ⟨h', tk', nw, e, F', N', off', hS, hn⟩ := hq
      exact ⟨h', tk', nw, e, F', N', off', hS, ih (i + 1) _ _ (by omega) hn⟩
end

set_option maxHeartbeats 4000000 in
theorem filled_spec {w : World} {mean : ExcName → Option Value} {mg mb : Str → Option Value} {cs : Scope} {outer : List Env} {A₀ : Around} {base h₀ : Heap} (C : Cx w mean mg mb cs outer A₀ base h₀)
    {dp un : Nat} {gd : Option (List Code)} {cn : Str} {a : Addr} {ccd : Value} {cl : List (Str × Addr)} {L : Addr} {m : Str → Option Value} {s : Shared} {Q E : Value → Shared → Prop}
    (hd : dp + 5 < recursionLimit) (F : Fr h₀ L s.heap m)
    {pl : Addr} {vs : List Value} {ps : List (Array UInt8)} {nn : Nat} {news : List (Addr × Obj)}
    (N : News h₀ L s.heap news) (hm : (pl, listOf vs.toArray nn) ∈ news) (hb : BytesAre vs ps) (hn : ps.length ≤ 1000) (hz : (cat ps).length ≤ 100000)
    (ret : ∀ D ys h' tk', BytesAre ys (ps.filter fun p => decide (0 < p.size)) → Fr h₀ L h' m → News h₀ L h' ((D, LCg.lst ys) :: news) → (∀ p ∈ news, p.1 ≠ D) → Q (.ref D) { s with heap := h', toks := tk' }) :
    wpAny (model PySem.Challenge.rw_xw0333_02.row.prog w) (ktrTop dp un gd cn cs L a ccd cl outer) (call (.ref 58) [.ref pl]) Q E s := by
  obtain ⟨B, X, T, hk⟩ := C
  refine wpAny_call ?_
  k_dflt cell_enter
  rename Fr _ _ _ _ => F9
  revert F9
  show let m9 : Str → Option Value := _; Fr _ _ _ m9 → _
  intro m9 F9
  k_steps
  refine ⟨?_⟩
  k_dflt (refine LCt.ListComp_T (F₀ := by k_asm) (by with_unfolding_all rfl) (by decide) (by rfl) (by decide) (by rfl) ?_)
  k_steps
  refine ⟨?_⟩
  refine LCt.CompSrcT.ledger (by rfl) (by k_asm) (by k_asm) hm (by rw [sizeLine_eq, List.size_toArray, hb.length]; omega) ?_
  intro gH
  have hvl : vs.toArray.size = vs.length := by simp
  refine comp_invT (fun i ys nw => nw = news ∧ BytesAre ys ((ps.take i).filter fun p => decide (0 < p.size))) ?_ ?_ _ 0 [] _ (Nat.zero_add _) ⟨rfl, .nil⟩
  · rintro i ys nw hi ⟨rfl, hys⟩ v I oI Cc oC D m₂ h tk E' hv hC hm2 F2 N2 off ne
    obtain ⟨b, t, hpb, rfl⟩ := hb.at (by simpa using hv)
    have hbs : b.size ≤ 100000 := Nat.le_trans (part_le hpb) hz
    have hstep : (ps.take (i + 1)).filter (fun p => decide (0 < p.size)) = (ps.take i).filter (fun p => decide (0 < p.size)) ++ if 0 < b.size then [b] else [] := by
      rw [List.take_add_one, hpb, List.filter_append]
      by_cases h0 : 0 < b.size <;> simp [h0]
    k_steps
    · rename_i h0
      refine ⟨LCg.CompEnd.intro F2 N2 _ (by kcf_all) off (.inr ⟨_, hm, rfl, _, rfl⟩) ⟨rfl, ?_⟩⟩
      rw [hstep, if_pos (by omega)]
      exact hys.append (.cons b t .nil)
    · rename_i h0
      refine ⟨LCg.CompEnd.intro F2 N2 _ (by kcf_all) off (.inr ⟨_, hm, rfl, _, rfl⟩) ⟨rfl, ?_⟩⟩
      rw [hstep, if_neg (by omega), List.append_nil]
      exact hys
  · rintro ys nw ⟨rfl, hys⟩
    intro D h tk F2 N2 off
    have hall : ps.take vs.toArray.size = ps := List.take_of_length_le (by rw [hvl, hb.length]; exact Nat.le_refl _)
    rw [hall] at hys
    k_steps
    exact ret D ys _ _ hys (by assumption) (by assumption) (off1_mem off)


noncomputable abbrev chainDict (hsh : Int) (tk : Tok) (pl : Addr) : Obj := dictOf [⟨hsh, .str (Str.ofString "parts") tk, .ref pl⟩] 1

set_option maxHeartbeats 4000000 in
theorem chain_spec {w : World} {mean : ExcName → Option Value} {mg mb : Str → Option Value} {cs : Scope} {outer : List Env} {A₀ : Around} {base h₀ : Heap} (C : Cx w mean mg mb cs outer A₀ base h₀)
    {dp un : Nat} {gd : Option (List Code)} {cn : Str} {a : Addr} {ccd : Value} {cl : List (Str × Addr)} {L : Addr} {m : Str → Option Value} {s : Shared} {Q E : Value → Shared → Prop}
    (hd : dp + 10 < recursionLimit) (F : Fr h₀ L s.heap m)
    {pl : Addr} {vs : List Value} {ps : List (Array UInt8)} {nn : Nat} {news : List (Addr × Obj)}
    (N : News h₀ L s.heap news) (hm : (pl, listOf vs.toArray nn) ∈ news) (hb : BytesAre vs ps) (hn : ps.length ≤ 1000) (hz : (cat ps).length ≤ 100000)
    (ret : ∀ x dx D hsh tk ys h' tk', BytesAre ys (ps.filter fun p => decide (0 < p.size)) → Fr h₀ L h' m → News h₀ L h' ((x, instObj 244 dx) :: (dx, chainDict hsh tk D) :: (D, LCg.lst ys) :: news) → (∀ p ∈ news, @Ne Nat p.1 x ∧ @Ne Nat p.1 dx ∧ @Ne Nat p.1 D) → @Ne Nat x dx → @Ne Nat x D → @Ne Nat dx D →
      Q (.ref x) { s with heap := h', toks := tk' }) :
    wpAny (model PySem.Challenge.rw_xw0333_02.row.prog w) (ktrTop dp un gd cn cs L a ccd cl outer) (call (.ref 244) [.ref pl]) Q E s := by
  obtain ⟨B, X, T, hk⟩ := C
  k_dflt (refine' call_cls ?k1 ?k2 ?k3 ?k4 ?k5 ?k6 ?_; (case k1 => k_asm); (case k2 => k_asm); (case k3 => k_asm); (case k4 => k_is); (case k5 => k_is); (case k6 => k_is); k_whole; intro x' d' h' F' N' l1 l2; (try k_sweep))
  k_dflt cell_enter
  rename Fr _ _ _ _ => F9
  revert F9
  show let m9 : Str → Option Value := _; Fr _ _ _ m9 → _
  intro m9 F9
  k_steps
  refine ⟨?_⟩
  have hoffd : OwnOff news [d'] := fun p hp b hb => by rw [List.mem_singleton.mp hb]; exact Nat.ne_of_lt (l1 p hp)
  have l2' : @LT.lt Nat _ d' x' := l2
  k_dflt (refine' filled_spec ⟨?c1, ?c2, ?c3, ?c4⟩ ?hd ?F ?N ?m hb hn hz ?_; (case c1 => k_asm); (case c2 => k_asm); (case c3 => k_asm); (case c4 => exact rfl); (case F => k_asm); (case N => k_asm); (case m => exact List.Mem.tail _ (List.Mem.tail _ hm)); (case hd => ktr_room))
  intro D ys h2 tk2 hys F2 N2 hD
  have hD1 : @Ne Nat x' D := hD _ (.head _)
  have hD2 : @Ne Nat d' D := hD _ (.tail _ (.head _))
  k_steps
  exact ret x' d' D _ _ ys _ _ hys (by assumption) (News.sub (by assumption) (by kcf_all)) (fun p hp => ⟨Nat.ne_of_lt (Nat.lt_trans (l1 p hp) l2), Nat.ne_of_lt (l1 p hp), hD _ (.tail _ (.tail _ hp))⟩) (Nat.ne_of_gt l2') hD1 hD2


structure ChainAt (news : List (Addr × Obj)) (x : Addr) (ps : List (Array UInt8)) : Prop where
  at' : ∃ dx hsh tk pl vs nn, (x, instObj 244 dx) ∈ news ∧ (dx, chainDict hsh tk pl) ∈ news ∧ (pl, listOf vs.toArray nn) ∈ news ∧ BytesAre vs ps
theorem ChainAt.elim {P : Prop} {news : List (Addr × Obj)} {x : Addr} {ps : List (Array UInt8)} (h : ChainAt news x ps) (k : ∀ dx hsh tk pl vs nn, (x, instObj 244 dx) ∈ news → (dx, chainDict hsh tk pl) ∈ news → (pl, listOf (List.toArray vs) nn) ∈ news → BytesAre vs ps → P) : P := by
  obtain ⟨dx, hsh, tk, pl, vs, nn, h1, h2, h3, h4⟩ := h.at'
  exact k dx hsh tk pl vs nn h1 h2 h3 h4
theorem ChainAt.mono {news news' : List (Addr × Obj)} {x : Addr} {ps : List (Array UInt8)} (h : ChainAt news x ps) (hs : ∀ p ∈ news, p ∈ news') : ChainAt news' x ps := by
  obtain ⟨dx, hsh, tk, pl, vs, nn, h1, h2, h3, h4⟩ := h.at'
  exact ⟨dx, hsh, tk, pl, vs, nn, hs _ h1, hs _ h2, hs _ h3, h4⟩

theorem cat_take_succ {ps : List (Array UInt8)} {i : Nat} {b : Array UInt8} (h : ps[i]? = some b) : (cat (ps.take (i + 1))).length = (cat (ps.take i)).length + b.size := by
  rw [List.take_add_one, h]
  simp [cat]
theorem cat_take_le (ps : List (Array UInt8)) (i : Nat) : (cat (ps.take i)).length ≤ (cat ps).length := by
  have h := congrArg (fun l => (cat l).length) (List.take_append_drop i ps)
  simp only [cat, List.map_append, List.flatten_append, List.length_append] at h ⊢
  omega

set_option maxHeartbeats 4000000 in
theorem size_spec {w : World} {mean : ExcName → Option Value} {mg mb : Str → Option Value} {cs : Scope} {outer : List Env} {A₀ : Around} {base h₀ : Heap} (C : Cx w mean mg mb cs outer A₀ base h₀)
    {dp un : Nat} {gd : Option (List Code)} {cn : Str} {a : Addr} {ccd : Value} {cl : List (Str × Addr)} {L : Addr} {m : Str → Option Value} {s : Shared} {Q E : Value → Shared → Prop}
    (hd : dp + 5 < recursionLimit) (F : Fr h₀ L s.heap m)
    {x : Addr} {ps : List (Array UInt8)} {news : List (Addr × Obj)}
    (N : News h₀ L s.heap news) (hc : ChainAt news x ps) (hz : (cat ps).length ≤ 100000)
    (ret : ∀ h' t tk', Fr h₀ L h' m → News h₀ L h' news → Q (.int ((cat ps).length : Int) t) { s with heap := h', toks := tk' }) :
    wpAny (model PySem.Challenge.rw_xw0333_02.row.prog w) (ktrTop dp un gd cn cs L a ccd cl outer) (call (.ref 79) [.ref x]) Q E s := by
  obtain ⟨B, X, T, hk⟩ := C
  refine hc.elim ?_
  intro dx hsh tk0 pl vs nn hx hdx hpl hb
  refine wpAny_call ?_
  k_dflt cell_enter
  rename Fr _ _ _ _ => F9
  revert F9
  show let m9 : Str → Option Value := _; Fr _ _ _ m9 → _
  intro m9 F9
  k_steps
  refine ⟨?_⟩
  rename Fr _ _ _ _ => F1
  rename News _ _ _ _ => N1
  with_unfolding_all refine my_list (σ := Int × Tok) (l := pl) (vs := vs) (nn := nn) (fun _ => news) (fun c => [(Str.ofString "total", .int c.1 c.2)]) [] (fun i c => c.1 = ((cat (ps.take i)).length : Int)) (0, _) (by rfl) (fun _ => hpl) F1 N1 (by kst_all) (by rfl) ?_ ?_
  · rintro i v ⟨tot, tt⟩ u h tk own hv hoff hp F2 N2
    obtain ⟨b, t, hpb, rfl⟩ := hb.at hv
    have hbs : b.size ≤ 100000 := Nat.le_trans (part_le hpb) hz
    dsimp only at hp
    clear F1 N1
    dsimp only [kstB] at F2
    k_steps
    refine ⟨my_end (tot + b.size, _) (by assumption) (by assumption) (by (try dsimp only); kcf_all) (by (try dsimp only); kcf_all) hoff (by kst_all) (by kst_same) ?_⟩
    show tot + b.size = _
    rw [cat_take_succ hpb]
    omega
  · rintro ⟨tot, tt⟩ u h tk hp F2 N2
    dsimp only at hp
    rw [hb.length, List.take_length] at hp
    clear F1 N1
    dsimp only [kstB] at F2
    subst hp
    k_steps
    exact ret _ _ _ (by assumption) (by assumption)



noncomputable abbrev tupObj (vs : List Value) : Obj := { cls := .type "tuple", data := .seq vs.toArray }

set_option maxHeartbeats 4000000 in
theorem place_spec {w : World} {mean : ExcName → Option Value} {mg mb : Str → Option Value} {cs : Scope} {outer : List Env} {A₀ : Around} {base h₀ : Heap} (C : Cx w mean mg mb cs outer A₀ base h₀)
    {dp un : Nat} {gd : Option (List Code)} {cn : Str} {a : Addr} {ccd : Value} {cl : List (Str × Addr)} {L : Addr} {m : Str → Option Value} {s : Shared} {Q E : Value → Shared → Prop}
    (hd : dp + 5 < recursionLimit) (F : Fr h₀ L s.heap m)
    {x : Addr} {ps : List (Array UInt8)} {news : List (Addr × Obj)} {k : Nat} {tt : Tok}
    (N : News h₀ L s.heap news) (hc : ChainAt news x ps) (hz : (cat ps).length ≤ 100000) (hn : ps.length ≤ 1000) (hkz : k < 1000000)
    (ret : ∀ h' tp ti tj tk', Fr h₀ L h' m → News h₀ L h' ((tp, tupObj [.int ((place ps k).1 : Int) ti, .int ((place ps k).2 : Int) tj]) :: news) → (∀ p ∈ news, @Ne Nat p.1 tp) → Q (.ref tp) { s with heap := h', toks := tk' }) :
    wpAny (model PySem.Challenge.rw_xw0333_02.row.prog w) (ktrTop dp un gd cn cs L a ccd cl outer) (call (.ref 121) [.ref x, .int (k : Int) tt]) Q E s := by
  obtain ⟨B, X, T, hk⟩ := C
  refine hc.elim ?_
  intro dx hsh tk0 pl vs nn hx hdx hpl hb
  have hvl := hb.length
  refine wpAny_call ?_
  k_dflt cell_enter
  rename Fr _ _ _ _ => F9
  revert F9
  show let m9 : Str → Option Value := _; Fr _ _ _ m9 → _
  intro m9 F9
  k_steps
  refine ⟨?_⟩
  rename Fr _ _ _ _ => F1
  rename News _ _ _ _ => N1
  rename IsRange _ _ _ _ _ _ _ _ => R1
  with_unfolding_all refine my_range (σ := Int × Tok) (n := ps.length) (fun _ => news) (fun c => [(Str.ofString "left", .int c.1 c.2)]) [] (fun i c => ∃ left : Nat, c.1 = (left : Int) ∧ left ≤ k ∧ place ps k = ((place (ps.drop i) left).1 + i, (place (ps.drop i) left).2)) ((k : Int), _) (by rfl) R1 (small_one (by decide) (by decide) (by omega) (by omega)) (by rw [rangeSize_nat]; simp) F1 N1 (by kst_all) ⟨k, rfl, Nat.le_refl _, rfl⟩ ?_ ?_
  · rintro i t ⟨lf, lt⟩ u h tk own hi hoff ⟨left, hl, hlk, hpl2⟩ F2 N2
    dsimp only at hl
    subst hl
    have hpb := List.getElem?_eq_getElem hi
    obtain ⟨tb, hv⟩ := hb.get hpb
    have hbs := Nat.le_trans (part_le hpb) hz
    have hv' : vs[((0 : Int) + (i : Int)).toNat]? = some (.bytes ps[i] tb) := by rw [← hv]; congr 1; omega
    have hdrop : ps.drop i = ps[i] :: ps.drop (i + 1) := List.drop_eq_getElem_cons hi
    rw [hdrop, place] at hpl2
    generalize ps[i] = b at *
    clear F1 N1
    dsimp only [kstB] at F2
    k_steps
    · rename ((left : Int) < (b.size : Int)) => hlt
      rename ∀ p ∈ news ++ own, p.1 < _ => l1
      rw [if_pos (by omega)] at hpl2
      have e1 : ((place ps k).1 : Int) = 0 + (i : Int) := by rw [hpl2]; simp
      have e2 : ((place ps k).2 : Int) = (left : Int) := by rw [hpl2]
      rw [e1, e2] at ret
      exact ret _ _ _ _ _ (by assumption) (News.sub (by assumption) (by kcf_all)) (fun p hp => Nat.ne_of_lt (l1 p (List.mem_append.mpr (.inl hp))))
    · rename ¬ ((left : Int) < (b.size : Int)) => hlt
      rw [if_neg (by omega)] at hpl2
      refine ⟨my_end ((left : Int) - b.size, _) (by assumption) (by assumption) (by (try dsimp only); kcf_all) (by (try dsimp only); kcf_all) hoff (by kst_all) (by kst_same) ?_⟩
      refine ⟨left - b.size, by dsimp only; omega, by omega, ?_⟩
      rw [hpl2]
      simp only [Prod.mk.injEq, and_true]
      omega
  · rintro ⟨lf, lt⟩ u h tk ⟨left, hl, hlk, hpl2⟩ F2 N2
    dsimp only at hl
    subst hl
    rw [List.drop_length, place] at hpl2
    clear F1 N1
    dsimp only [kstB] at F2
    k_steps
    rename ∀ p ∈ news, p.1 < _ => l1
    have e1 : ((place ps k).1 : Int) = (ps.length : Int) := by rw [hpl2]; simp
    have e2 : ((place ps k).2 : Int) = 0 := by rw [hpl2]; simp
    rw [e1, e2] at ret
    exact ret _ _ _ _ _ (by assumption) (by assumption) (fun p hp => Nat.ne_of_lt (l1 p hp))


theorem pool_x (c : Int) (d : Bool) : 0 ≤ (if -1 - c > c then -1 - c else c) * (if d = true then 1 else 0) := by
  refine Int.mul_nonneg ?_ ?_
  · split <;> omega
  · split <;> decide

set_option maxHeartbeats 4000000 in
theorem pool_spec {w : World} {mean : ExcName → Option Value} {mg mb : Str → Option Value} {cs : Scope} {outer : List Env} {A₀ : Around} {base h₀ : Heap} (C : Cx w mean mg mb cs outer A₀ base h₀)
    {dp un : Nat} {gd : Option (List Code)} {cn : Str} {a : Addr} {ccd : Value} {cl : List (Str × Addr)} {L : Addr} {m : Str → Option Value} {s : Shared} {Q E : Value → Shared → Prop}
    (hd : dp + 5 < recursionLimit) (F : Fr h₀ L s.heap m)
    {l : Addr} {vs : List Value} {ns : List Int} {news : List (Addr × Obj)} {tt : Tok}
    (N : News h₀ L s.heap news) (hl : base.IsList l vs.toArray) (hi : IntsAre vs ns) (hfit : ns.length < 1000)
    (ret : ∀ D x y tx ty h' tk', 0 ≤ x → 0 ≤ y → y < 2147483647 → Fr h₀ L h' m → News h₀ L h' ((D, listOf #[.int x tx, .int y ty] 0) :: news) → (∀ p ∈ news, @Ne Nat p.1 D) → Q (.ref D) { s with heap := h', toks := tk' }) :
    wpAny (model PySem.Challenge.rw_xw0333_02.row.prog w) (ktrTop dp un gd cn cs L a ccd cl outer) (call (.ref 255) [.ref l, .int 0 tt]) Q E s := by
  obtain ⟨B, X, T, hk⟩ := C
  refine wpAny_call ?_
  k_dflt cell_enter
  rename Fr _ _ _ _ => F9
  revert F9
  show let m9 : Str → Option Value := _; Fr _ _ _ m9 → _
  intro m9 F9
  k_steps
  refine ⟨?_⟩
  refine join_int (fun _ => True) ?_ ?_
  · have hM : PastIt := ⟨trivial⟩
    k_steps
    all_goals trivial
  intro cell tc tkc _
  k_steps
  rename ∀ p ∈ news, p.1 < _ => l1
  exact ret _ _ _ _ _ _ _ (pool_x _ _) (fm0 (by decide)) (Int.fmod_lt_of_pos _ (by decide)) (by assumption) (by assumption) (fun p hp => Nat.ne_of_lt (l1 p hp))

theorem cat_le {n : Nat} : ∀ {qs : List (Array UInt8)}, (∀ q ∈ qs, q.size ≤ n) → (cat qs).length ≤ n * qs.length
  | [], _ => by simp [cat]
  | q :: r, h => by
    have h1 := h q (.head _)
    have h2 := cat_le (qs := r) fun p hp => h p (.tail _ hp)
    rw [cat_cons, List.length_append, Array.length_toList, List.length_cons, Nat.mul_succ]
    omega
theorem cat_filter : ∀ qs : List (Array UInt8), cat (qs.filter fun p => decide (0 < p.size)) = cat qs
  | [] => rfl
  | q :: r => by
    rw [List.filter_cons, cat_cons]
    by_cases h : 0 < q.size
    · rw [if_pos (by simpa using h), cat_cons, cat_filter r]
    · rw [if_neg (by simpa using h), cat_filter r]
      have h0 : q.size = 0 := by omega
      have e : q.toList = [] := List.eq_nil_of_length_eq_zero (by rw [Array.length_toList]; exact h0)
      rw [e]; rfl
theorem News.tail {h₀ h : Heap} {L : Addr} {p : Addr × Obj} {l : List (Addr × Obj)} (N : News h₀ L h (p :: l)) : News h₀ L h l := fun q hq => N q (.tail _ hq)
theorem chainAt_here {h₀ h : Heap} {L x dx D : Addr} {hsh : Int} {tk : Tok} {ys : List Value} {ps : List (Array UInt8)} {news : List (Addr × Obj)} (_ : News h₀ L h ((x, instObj 244 dx) :: (dx, chainDict hsh tk D) :: (D, LCg.lst ys) :: news)) (hys : BytesAre ys ps) :
    ChainAt ((x, instObj 244 dx) :: (dx, chainDict hsh tk D) :: (D, LCg.lst ys) :: news) x ps :=
  ⟨dx, hsh, tk, D, ys, ys.length, List.mem_cons_self, List.mem_cons_of_mem _ List.mem_cons_self, List.mem_cons_of_mem _ (List.mem_cons_of_mem _ List.mem_cons_self), hys⟩

section
variable {prog : Program} {w : World} {A₀ A : Around} {s : Shared} {base h₀ : Heap} {L a : Addr} {m : Str → Option Value} {cn : Str} {cs : Scope} {ccd : Value} {cl : List (Str × Addr)} {news : List (Addr × Obj)} {K : Frag} {p : Program} {loose : List Str} {mean : ExcName → Option Value} {mg mb : Str → Option Value}
    {R : Result → Shared → Prop} {name qual : Str} {params : Arguments} {body : List Stmt} {scope : Scope} {dV kV doc pm cdv ct oc : Value} {an od : Option Addr} {osl : Array (Option Value)} {f : Addr} {args : Args} {binds : List (Str × Value)}
/-- the frame L with cells stands below the one that is entered; the ground is all that is not of the ledger -/
theorem ground_under (B : Below A₀ base [] h₀) (F : Fr h₀ L s.heap m) (N : News h₀ L s.heap news) (hA : A.frames = some [envX cn cs L a ccd cl]) (hck : cs.kind = .function) :
    h₀.StaysIn (hideAll s.heap (news.map (·.1))) ∧ (hideAll s.heap (news.map (·.1))).get? L = s.heap.get? L ∧ Below A base [envX cn cs L a ccd cl] (hideAll s.heap (news.map (·.1))) := by
  have far : ∀ b o, h₀.get? b = some o → b ∉ news.map (·.1) := by
    intro b o hb hm
    obtain ⟨q, hq, rfl⟩ := List.mem_map.mp hm
    have := (N q hq).2.2
    rw [hb] at this
    cases this
  have farL : L ∉ news.map (·.1) := by
    intro hm
    obtain ⟨q, hq, e⟩ := List.mem_map.mp hm
    exact (N q hq).2.1 e
  have st : h₀.StaysIn (hideAll s.heap (news.map (·.1))) := fun b o hb => hideAll_get _ (F.keep b o hb) (far b o hb)
  obtain ⟨oL, es, ep, hL, hLd, hLk, hLf⟩ := F.ns
  have hLg := hideAll_get (news.map (·.1)) hL farL
  have hnew : base.get? L = none := by
    cases hq : base.get? L with
    | none => rfl
    | some o => exact absurd (Nat.lt_of_lt_of_le (Heap.lt_size (B.stays L o hq)) F.above) (Nat.lt_irrefl _)
  refine ⟨st, hLg.trans hL.symm, hA, fun b o hb => st b o (B.stays b o hb), ?_⟩
  exact .cons (by show cs.kind ≠ .module; rw [hck]; decide) rfl ⟨oL, es, ep, hLg, hLd, hLk, hLf⟩ hnew trivial

theorem enterX (B : Below A₀ base [] h₀) (F : Fr h₀ L s.heap m) (X₀ : K.In h₀) (N : News h₀ L s.heap news) (T : Top p loose mean mg mb h₀) (hA : A.frames = some [envX cn cs L a ccd cl])
    (ho : K.lookup f = some ⟨oc, od, .func (fnOf name qual params body scope dV kV doc pm an cdv ct), osl⟩) (hcd : codeIn K cdv qual = true) (hroom : A.depth < recursionLimit)
    (hbind : BindsTo s (fnOf name qual params body scope dV kV doc pm an cdv ct) args binds) (hloc : ∀ y ∈ binds, scope.names.lookup y.1 = some .local)
    (h : ∀ g L' h₁, Fr h₀ L g m → Fr g L' h₁ (fun y => binds.reverse.lookup y) → News g L' h₁ news → Below A base [envX cn cs L a ccd cl] g → K.In g → Top p loose mean mg mb g → KtsDicts ([envX cn cs L a ccd cl].filterMap (·.frame)) g →
      wpAny (model prog w) (A.deeper (envOf qual scope L' f cdv)) (execs body (envOf qual scope L' f cdv))
        (fun fl s' => LeaveS0 ([envX cn cs L a ccd cl].filterMap (·.frame)) h₀ L m g R (match fl with | .ret v => v | _ => .none) s')
        (fun e s' => wpAny (model prog w) (A.deeper (envOf qual scope L' f cdv)) (leaving (envOf qual scope L' f cdv) e) (fun _ s'' => R (.error e) s'') (fun e' s'' => R (.error e') s'') s')
        { s with heap := h₁, toks := s.toks + binds.length })
    (hck : cs.kind = .function) (hco : scope.isCoroutine = false) (hgen : scope.isGenerator = false) (hk : scope.kind = .function)
    (hcell : ∀ x ∈ scope.names, x.2 ≠ .cell) : codeAny (model prog w) A (.call (.ref f) args) R s := by
  refine codeAny_call_def (fd := fnOf name qual params body scope dV kV doc pm an cdv ct) (body := body) (binds := binds) hroom ((X₀.keeps F.keep) _ _ ho) rfl (T.nolimit.keeps F.keep) (codeRec_of (X₀.keeps F.keep) hcd) rfl hbind hcell hloc (fun h₁ hns hk₁ => ?_) hco hgen hk
  obtain ⟨st, eL, B₂⟩ := ground_under B F N hA hck
  have Fn := F.ns
  obtain ⟨oL, es, ep, hL, hLd, hLk, hLf⟩ := F.ns
  have hLg := eL.trans hL
  have fsL : ([envX cn cs L a ccd cl].filterMap (·.frame)) = [L] := rfl
  refine wpAny_mono (h _ s.heap.objs.size h₁ ⟨⟨oL, es, ep, hLg, hLd, hLk, hLf⟩, st, F.above⟩ ⟨hns, fun b o e => hk₁ b o (of_hideAll _ e), Nat.le_of_eq (hideAll_size _ _)⟩
    (fun q hq => ⟨hk₁ _ _ (N q hq).1, Nat.ne_of_lt (Heap.lt_size (N q hq).1), hideAll_none _ (List.mem_map_of_mem hq)⟩) B₂ (X₀.keeps st) (T.keeps st) (fun b hb => by
      rw [fsL] at hb
      rw [List.mem_singleton.mp hb]
      exact ⟨oL, es, ep, hLg, hLd⟩)) (fun fl s' hl => ?_) fun _ _ y => y
  obtain ⟨g', L', m', news', T', F', N', k⟩ := hl
  rw [fsL] at T'
  have nL : h₀.get? L = none := kts_self F
  obtain ⟨sl, hs⟩ := T'.up hLg
  refine k ⟨⟨_, es, ep, F'.keep _ _ hs, hLd, hLk, hLf⟩, fun b o hb => F'.keep b o (T'.other b o (st b o hb) fun hm => ?_), F.above⟩ fun q hq => ⟨(N' q hq).1, fun e => ?_, ?_⟩
  · rw [List.mem_singleton.mp hm, nL] at hb
    cases hb
  · have := (N' q hq).2.2
    rw [e, hs] at this
    cases this
  · cases hq0 : h₀.get? q.1 with
    | none => rfl
    | some o =>
      obtain ⟨sl', hs'⟩ := T'.up (st _ _ hq0)
      have := (N' q hq).2.2
      rw [hs'] at this
      cases this
end
noncomputable abbrev excBare (C t : Addr) : Obj := { cls := .ref C, data := .fields #[.ref t, .none, .none, .none, .bool false, .none] }
noncomputable abbrev argTup (vs : List Value) : Obj := { cls := .type "tuple", data := .seq vs.toArray }
section
variable {prog : Program} {w : World} {A : Around} {R : Result → Shared → Prop} {h : Heap} {g : Array GenState} {d : Drawn} {t : Nat} {os : OsState}
variable {nm q : Str} {C D N : Addr} {bs bmB : List Value} {hdct : Bool} {sn : List Str} {sub : List Value} {ab : Bool} {col : Option Bool} {dd : Option Addr} {k0 k1 k2 k3 k5 : Option Value} {B newId initId : String}
theorem under_two {X : String} : (Value.ref C :: Value.ref D :: bmB).contains (.type X) = bmB.contains (.type X) := by
  rw [List.contains_cons, List.contains_cons]
  rfl
theorem new_exc {rest : List Value} (FB : ExcBaseFacts B newId initId bmB)
    (hC : h.get? C = some (excClassObj nm q C N bs (.ref D :: bmB) hdct sn sub ab col dd k0 k1 k2 k3 k5 newId)) (hrest : rest.length ≤ sizeLine)
    (hq : R (.ok (.ret (.ref (h.objs.size + 1)))) ⟨(h.push (argTup rest)).push (excBare C h.objs.size), g, d, t, os⟩) :
    codeAny (model prog w) A (.builtin newId ⟨.ref C :: rest, []⟩) R ⟨h, g, d, t, os⟩ := by
  have hends := FB.ends
  have hcB : (Value.ref C :: Value.ref D :: bmB).contains (.type B) = true := under_two.trans FB.hasB
  have hcA : (Value.ref C :: Value.ref D :: bmB).contains (.type "AttributeError") = false := under_two.trans FB.noAttr
  have hcN : (Value.ref C :: Value.ref D :: bmB).contains (.type "NameError") = false := under_two.trans FB.noName
  refine codeAny_builtinAt FB.entry ?_
  unfold Builtin.«BaseException.__new__»
  refine PySem.wpAt_bind ?_
  show PySem.wpAt _ _ _ (stack >>= _) _ _ _
  refine PySem.wpAt_bind (PySem.wpAt_stack fun p below => PySem.wpAt_of_wpAny ?_)
  wp_walk
  refine PySem.wpAt_of_wpAny ?_
  rw [FB.owner]
  repeat (first | with_reducible refine wpAny_madeHere_exc FB.canon hC ?_ | with_reducible refine wpAny_loadPart_at hC ?_ | (with_reducible refine wpAny_isSubtype_exc hC ?_; first | rw [hcB] | rw [hcA] | rw [hcN]) | wp_step)
  show R _ _
  rw [Heap.size_push]
  exact hq
theorem new_checked {M : Model} {E : Value → Shared → Prop} {rest : List Value} {Q : Unit → Shared → Prop} (FB : ExcBaseFacts B newId initId bmB)
    (hC : h.get? C = some (excClassObj nm q C N bs (.ref D :: bmB) hdct sn sub ab col dd k0 k1 k2 k3 k5 newId))
    (hq : Q () ⟨h, g, d, t, os⟩) : wpAny M A (checkBuiltinCall newId ⟨.ref C :: rest, []⟩) Q E ⟨h, g, d, t, os⟩ := by
  exact wpAny_check_new_subU FB (by rw [List.contains_cons, FB.hasB, Bool.or_true]) .base hC hq
/-- the making of an exception whose base of its own has an __init__ -/
theorem make_exc {rest : List Value} {fI : Addr} (FB : ExcBaseFacts B newId initId bmB)
    (hC : h.get? C = some (excClassObj nm q C N bs (.ref D :: bmB) hdct sn sub ab col dd k0 k1 k2 k3 k5 newId))
    (hi : Looks (model prog w) h (typeLookup (.ref C) "__init__") (some (.ref fI))) (hb : ∀ self, Looks (model prog w) h (bindSpecial (.ref fI) self) (.ref fI, [self]))
    (hrest : rest.length ≤ sizeLine)
    (hq : codeAny (model prog w) (A.under (.builtin "type.__call__" ⟨.ref C :: rest, []⟩)) (.call (.ref fI) ⟨.ref (h.objs.size + 1) :: rest, []⟩) (InitBack (h.objs.size + 1) R) ⟨(h.push (argTup rest)).push (excBare C h.objs.size), g, d, t, os⟩) :
    codeAny (model prog w) A (.call (.ref C) ⟨rest, []⟩) R ⟨h, g, d, t, os⟩ := by
  have f1 := tc_lookup
  have f2 := tc_bind (.ref C)
  have hT : (⟨h, g, d, t, os⟩ : Shared).TypeIs (.ref C) "type" := ⟨_, hC, rfl⟩
  refine codeAny_of_tree ?_
  show wpAny _ _ (callAny (.ref C) _) _ _ _
  repeat (any_goals (first | assumption | with_reducible refine wpAny_loadPart_at hC ?_ | wp_step))
  refine ⟨rfl, ?_⟩
  show codeAny _ _ (.call (.builtin "type.__call__") ⟨.ref C :: rest, []⟩) _ _
  refine codeAny_call_builtin_at (Code.quiet_builtin _ (by decide +kernel)) entry_typeCall (wpAny_check_type_call_sub hC ?_)
  repeat (first | with_reducible refine wpAny_loadPart_at hC ?_ | with_reducible refine wpAny_madeBy_exc hC ?_ | wp_step)
  refine codeAny_call_builtin_code (Code.quiet_builtin _ FB.quiet) (new_checked FB hC ?_)
  refine new_exc FB hC hrest ?_
  show wpAny _ _ _ _ _ _
  have k : ∀ b o, h.get? b = some o → ((h.push (argTup rest)).push (excBare C h.objs.size)).get? b = some o := fun b o e => Heap.get?_push_of_some _ (Heap.get?_push_of_some _ e)
  have hC₁ := k _ _ hC
  have hget : ((h.push (argTup rest)).push (excBare C h.objs.size)).get? (h.objs.size + 1) = some (excBare C h.objs.size) := by heap_get
  have hcC : (Value.ref C :: Value.ref D :: bmB).contains (.ref C) = true := by simp
  have i1 := hi.keeps k
  have b1 := (hb (.ref (h.objs.size + 1))).keeps k
  unfold isInstance
  repeat (first | with_reducible refine wpAny_loadPart_at hget ?_ | (with_reducible refine wpAny_isSubtype_exc hC₁ ?_; rw [hcC]) | wp_step)
  show wpAny _ _ (typeLookup (.ref C) _) _ _ _
  refine i1.here ?_
  dsimp only
  refine wpAny_holding (wpAny_bind (b1.here ?_))
  dsimp only
  refine wpAny_bind (wpAny_call (codeAny_mono hq fun r s' z => ?_))
  rcases r with e | (v | _ | _ | _) <;> first | exact z | exact z.elim | skip
  obtain ⟨rfl, z⟩ := z
  exact wpAny_pure (wpAny_pure z)
end
noncomputable abbrev excFull (C t dx : Addr) : Obj := { cls := .ref C, dict := some dx, data := .fields #[.ref t, .none, .none, .none, .bool false, .none] }
section
variable {prog : Program} {w : World} {A : Around} {K : Frag} {C D x t : Addr} {s : Shared} {h₀ : Heap} {L : Addr} {m : Str → Option Value} {news : List (Addr × Obj)}
/-- the first store of a field on an exception: its dict is made -/
theorem set_exc {E : Value → Shared → Prop} {Q : Unit → Shared → Prop} {name : Str} {v : Value} {cd : ClassData} (F : Fr h₀ L s.heap m) (N : News h₀ L s.heap ((x, excBare C t) :: news)) (X₀ : K.In h₀)
    (hne : ∀ p ∈ news, p.1 ≠ x)
    (hs : findIn K (.ref C) "__setattr__" = some (some (.builtin "object.__setattr__"))) (ht : takerIn K C name = some none) (hf : findIn K (.ref C) name = some none)
    (hc : clsIn K C = some cd) (hd : cd.hasDict = true) (hm : cd.mro = [.ref C, .ref D, .type "Exception", .type "BaseException", .type "object"])
    (h : ∀ dx od h' tk', Fr h₀ L h' m → News h₀ L h' ((x, excFull C t dx) :: (dx, od) :: news) → Q () { s with heap := h', toks := tk' }) :
    wpAny (model prog w) A (setAttr (.ref x) name v) Q E s := by
  obtain ⟨hh, gg, dr, tt, oo⟩ := s
  dsimp only at F N h
  have X := X₀.keeps F.keep
  have I : InstAt hh x (excBare C t) C none := ⟨(N _ (.head _)).1, rfl, rfl, trivial⟩
  refine set_plain X I hs ?_
  have SF := PySem.F.store_object
  have ne : cd.mro.isEmpty = false := by rw [hm]; rfl
  have sub : Looks (model prog w) hh (isInstance (.ref x) (.type "object")) true := I.type.andThen (looks_mroIn X (by unfold mroIn; rw [hc, Option.bind_some, if_neg (by rw [ne]; decide), hm]; rfl))
  refine codeAny_call_builtin SF.slot.plain SF.entry (@check_slot (model prog w) _ _ _ "object.__setattr__" "object" "__setattr__" (.ref x) [.str name tt, v] [] _ SF.kind SF.split sub (SF.args (.ref x) (.str name tt) v) ?_)
  have hml : Looks (model prog w) hh (mroOf (.ref C)) cd.mro := (looks_clsIn X hc).andThen .now
  have L3 : Looks (model prog w) hh (Builtin.ObjectAttr.storeTaker? none) none := .now
  have hr : refuseLoop (.ref x) "__setattr__" cd.mro = pure () := by
    rw [hm, refuseLoop_ref, refuseLoop_ref]
    kernel_rfl
  rw [osa_eq, refuse_eq]
  refine wpAny_bind (wpAny_bind (I.type.here (wpAny_bind (hml.here ?_))))
  rw [hr]
  refine wpAny_pure (wpAny_bind (I.type.here (wpAny_bind ((looks_findIn X hf).here (wpAny_bind (L3.here ?_))))))
  dsimp only
  refine wpAny_bind (wpAny_pure (wpAny_bind (wpAny_bind (wpAny_loadPart (N _ (.head _)).1 (wpAny_bind ((looks_clsIn X hc).here ?_))))))
  rw [hd]
  have P1 := N.push F emptyDict
  have F1 := F.push emptyDict
  have hx1 : x ≠ hh.objs.size := Nat.ne_of_lt (Heap.lt_size (N _ (.head _)).1)
  obtain ⟨F2, N2⟩ := news_upd (pre := [(hh.objs.size, emptyDict)]) (d := x) (o := excBare C t) (o' := excFull C t hh.objs.size) (post := news) (f := fun o => { o with dict := some hh.objs.size }) F1 P1
    (fun p hp => by rw [List.mem_singleton.mp hp]; exact Ne.symm hx1) hne rfl rfl
  obtain ⟨F3, N3⟩ := news_upd (pre := []) (d := hh.objs.size) (o := emptyDict) (post := (x, excFull C t hh.objs.size) :: news) (f := Obj.putName name (PyData.keyHash w.params name) (.str name (tt + 1)) v)
    (o' := { cls := .type "dict", data := .dict #[⟨PyData.keyHash w.params name, .str name (tt + 1), v⟩] 1 }) F2 N2 (fun _ hp => nomatch hp)
    (fun p hp => by
      rcases List.mem_cons.mp hp with rfl | hp
      · exact hx1
      · exact Nat.ne_of_lt (Heap.lt_size (N _ (.tail _ hp)).1)) rfl rfl
  have D2 := (N2 (hh.objs.size, emptyDict) (by simp)).1
  have D3 := (N3 (hh.objs.size, _) (List.Mem.head _)).1
  show wpAny _ _ (alloc emptyDict >>= fun d => update x (fun o => { o with dict := some d }) >>= fun _ => dictMade (.ref C) x d) _ _ _
  refine wpAny_bind (wpAny_alloc (wpAny_bind (wpAny_update (Heap.get?_push_of_some _ (N _ (.head _)).1) ?_)))
  refine wpAny_pure (wpAny_bind (wpAny_pure (wpAny_bind ?_)))
  unfold nsSet
  refine wpAny_bind (wpAny_bind (wpAny_askSetting (wpAny_pure (wpAny_bind (wpAny_mkText (wpAny_bind (wpAny_loadPart D2 ?_)))))))
  dsimp only
  rw [aRefKeyMayBeTheName_at, ← Array.any_toList, ← Array.any_toList]
  show wpAny _ _ (updatePart _ _ _) _ _ _
  refine wpAny_updatePart D2 ?_
  refine wpAny_bind (wpAny_lookBehind D3 (pastItsLine_dict (by rw [sizeLine_eq, List.size_toArray]; exact Nat.le_of_ble_eq_true rfl)) ?_)
  refine wpAny_pure ?_
  show Q () _
  have N4 : News h₀ L _ ((x, excFull C t hh.objs.size) :: (hh.objs.size, { cls := .type "dict", data := .dict #[⟨PyData.keyHash w.params name, .str name (tt + 1), v⟩] 1 }) :: news) := fun p hp => N3 p (by
    simp only [List.nil_append, List.mem_cons] at hp ⊢
    rcases hp with h9 | h9 | h9
    · exact .inr (.inl h9)
    · exact .inl h9
    · exact .inr (.inr h9))
  exact h _ _ _ _ F3 N4
end
section
variable {prog : Program} {w : World} {A : Around} {E : Value → Shared → Prop} {s : Shared} {env : Env}
variable {nm q : Str} {C N : Addr} {bs bm : List Value} {hdct : Bool} {sn : List Str} {sub : List Value} {ab : Bool} {col : Option Bool} {dd : Option Addr} {k0 k1 k2 k3 k5 : Option Value} {newId : String}
/-- what a raise asks of the value that it raises -/
def Raisable (C : Addr) (E : Value → Shared → Prop) (v : Value) (s₁ : Shared) : Prop :=
  ∃ e t dx nm q N bs bm hdct sn sub ab col dd k0 k1 k2 k3 k5 newId, v = .ref e ∧ bm.contains (.type "BaseException") = true ∧ s₁.heap.get? C = some (excClassObj nm q C N bs bm hdct sn sub ab col dd k0 k1 k2 k3 k5 newId) ∧ s₁.heap.get? e = some (excFull C t dx) ∧ E (.ref e) s₁
theorem raise_it {x : Expr} {pos : Pos} {Q : Flow → Shared → Prop} (hh : A.handled = none)
    (h : wpAny (model prog w) A (eval x env) (Raisable C E) E s) :
    wpAny (model prog w) A (exec (.Raise (some x) none pos) env) Q E s := by
  rw [arm_exec_Raise]
  refine wpAny_bind (wpAny_standAt ?_)
  unfold raiseStmt
  have e : evalOpt (some x) env = some (eval x env) := rfl
  rw [e]
  simp only [Option.map]
  refine wpAny_bind (wpAny_bind (wpAny_mono h (fun v s₁ h₁ => wpAny_bind (wpAny_standAt (wpAny_pure ?_))) fun _ _ z => z))
  obtain ⟨e, t, dx, nm, q, N, bs, bm, hdct, sn, sub, ab, col, dd, k0, k1, k2, k3, k5, newId, rfl, hbase, hC, he, hE⟩ := h₁
  have hcB : (Value.ref C :: bm).contains (.type "BaseException") = true := by rw [List.contains_cons, hbase, Bool.or_true]
  obtain ⟨hp, g, d, tk, os⟩ := s₁
  repeat (first | with_reducible refine wpAny_loadPart_at he ?_ | with_reducible refine wpAny_loadPart_at hC ?_ | (with_reducible refine wpAny_isSubtype_exc hC ?_; rw [hcB]) | wp_step)
  exact wpAny_raiseNew_none hh hE
end
section
variable {M : Model} {A : Around} {E : Value → Shared → Prop} {s' : Shared} {base g : Heap} {outer : List Env} {L a e t C dx : Addr} {m : Str → Option Value} {name : Str} {scope : Scope} {cd : Value} {Q : Unit → Shared → Prop} {news : List (Addr × Obj)}
/-- an exception with a dict leaves the frame in which it was raised -/
theorem leave_exc {vs : List Value} (K : Below A base outer g) (F : Fr g L s'.heap m) (N : News g L s'.heap ((e, excFull C t dx) :: (t, argTup vs) :: news)) (hne : ∀ p ∈ news, p.1 ≠ e ∧ p.1 ≠ t)
    (hQ : ∀ h', RaisedS base g outer e (.ref C) t vs news h' → RaisedK base outer e (.ref C) t vs news h' → g.UpToSlots h' → Q () { s' with heap := h' }) (hk : scope.kind = .function := by rfl) :
    wpAny M (A.deeper (envOf name scope L a cd)) (leaving (envOf name scope L a cd) (.ref e)) Q E s' := by
  have K' := K.push (name := name) (a := a) (cd := cd) F hk
  have Ne := N _ (.head _)
  have Nt := N _ (.tail _ (.head _))
  have bare : ∀ b o, g.get? b = some o → b ≠ e ∧ b ≠ t := fun b o q =>
    ⟨fun z => (by have := Ne.2.2; rw [← z, q] at this; cases this), fun z => (by have := Nt.2.2; rw [← z, q] at this; cases this)⟩
  have hin : ∀ env ∈ (envOf name scope L a cd :: outer), ∀ b, env.frame = some b → b ∈ e :: t :: (envOf name scope L a cd :: outer).filterMap (·.frame) := fun env he b hb => .tail _ (.tail _ (List.mem_filterMap.mpr ⟨env, he, hb⟩))
  have st : base.StaysIn (hideAll s'.heap (e :: t :: (envOf name scope L a cd :: outer).filterMap (·.frame))) := fun b o q => hideAll_get _ (K'.stays b o q) fun hm => by
    rcases List.mem_cons.mp hm with rfl | hm
    · exact (bare _ _ (K.stays _ _ q)).1 rfl
    rcases List.mem_cons.mp hm with rfl | hm
    · exact (bare _ _ (K.stays _ _ q)).2 rfl
    rw [(K'.frames.mem hm).1] at q; cases q
  have sg : ∀ b o, g.get? b = some o → b ∉ outer.filterMap (·.frame) → (hideAll s'.heap (e :: t :: (envOf name scope L a cd :: outer).filterMap (·.frame))).get? b = some o := fun b o q nm => hideAll_get _ (F.keep b o q) fun hm => by
    rcases List.mem_cons.mp hm with rfl | hm
    · exact (bare _ _ q).1 rfl
    rcases List.mem_cons.mp hm with rfl | hm
    · exact (bare _ _ q).2 rfl
    rcases kts_mem hm with z | z
    · rw [z, kts_self F] at q; cases q
    · exact nm z
  have hl : ∀ q ∈ news, (hideAll s'.heap (e :: t :: (envOf name scope L a cd :: outer).filterMap (·.frame))).get? q.1 = some q.2 ∧ g.get? q.1 = none ∧ base.get? q.1 = none := fun q hq => by
    have Nq := N q (.tail _ (.tail _ hq))
    refine ⟨hideAll_get _ Nq.1 fun hm => ?_, Nq.2.2, fresh_of_stays K.stays Nq.2.2⟩
    rcases List.mem_cons.mp hm with z | hm
    · exact (hne q hq).1 z
    rcases List.mem_cons.mp hm with z | hm
    · exact (hne q hq).2 z
    rcases kts_mem hm with z | z
    · exact Nq.2.1 z
    · obtain ⟨o, ho, _⟩ := (K.frames.mem z).2
      rw [Nq.2.2] at ho; cases ho
  have back : (hideAll s'.heap (e :: t :: (envOf name scope L a cd :: outer).filterMap (·.frame))).StaysIn s'.heap := fun b o q => of_hideAll _ q
  refine wpAny_leaving_firstW (a0 := .ref t) K'.stack (funFrames_hide K'.frames hin) rfl Ne.1 back (hideAll_none _ (.head _)) rfl rfl rfl fun h' hL => ?_
  obtain ⟨k1, ⟨_, _, k2⟩, k3, k4⟩ := hL
  have R : RaisedS base g outer e (.ref C) t vs news h' :=
    ⟨⟨_, st, sg, hl, ⟨k1, hideAll_none _ (.head _), k2, k3⟩, hideAll_none _ (.tail _ (.head _))⟩, Heap.TupAt.of_slots ⟨_, _, Nt.1, rfl, rfl⟩ k4⟩
  exact hQ h' R R.toK ((Heap.UpToSlots.of_keeps F.keep).trans k4)
end


theorem raisable_of {C e t dx : Addr} {E : Value → Shared → Prop} {s₁ : Shared} {nm q : Str} {N : Addr} {bs bm : List Value} {hdct : Bool} {sn : List Str} {sub : List Value} {ab : Bool} {col : Option Bool} {dd : Option Addr} {k0 k1 k2 k3 k5 : Option Value} {newId : String}
    (hC : s₁.heap.get? C = some (excClassObj nm q C N bs bm hdct sn sub ab col dd k0 k1 k2 k3 k5 newId)) (hb : bm.contains (.type "BaseException") = true) (he : s₁.heap.get? e = some (excFull C t dx)) (hE : E (.ref e) s₁) : Raisable C E (.ref e) s₁ :=
  ⟨e, t, dx, nm, q, N, bs, bm, hdct, sn, sub, ab, col, dd, k0, k1, k2, k3, k5, newId, rfl, hb, hC, he, hE⟩

set_option maxHeartbeats 4000000 in
theorem sizeErr_spec {w : World} {mean : ExcName → Option Value} {mg mb : Str → Option Value} {cs : Scope} {outer : List Env} {A₀ : Around} {base h₀ : Heap} (C : Cx w mean mg mb cs outer A₀ base h₀)
    {dp un : Nat} {gd : Option (List Code)} {cn : Str} {a : Addr} {ccd : Value} {cl : List (Str × Addr)} {L : Addr} {m : Str → Option Value} {s : Shared} {Q E : Value → Shared → Prop}
    (hd : dp + 3 < recursionLimit) (F : Fr h₀ L s.heap m) {news : List (Addr × Obj)} (N : News h₀ L s.heap news) {msg : Str} {tm : Tok}
    (ret : ∀ e t dx h' tk', Fr h₀ L h' m → News h₀ L h' ((e, excFull 51 t dx) :: (t, argTup [.str msg tm]) :: news) → (∀ p ∈ news, p.1 ≠ e ∧ p.1 ≠ t) → Q (.ref e) { s with heap := h', toks := tk' }) :
    wpAny (model PySem.Challenge.rw_xw0333_02.row.prog w) (ktrTop dp un gd cn cs L a ccd cl outer) (call (.ref 51) [.str msg tm]) Q E s := by
  have hM9 : PastIt := ⟨trivial⟩
  obtain ⟨B, X, T, hk⟩ := C
  obtain ⟨hh, gg, dr, tt, oo⟩ := s
  dsimp only at F N ret
  refine wpAny_call ?_
  have X1 := X.keeps F.keep
  have N1 := (N.push F (argTup [.str msg tm])).push (F.push _) (excBare 51 hh.objs.size)
  rw [Heap.size_push] at N1
  have F1 := (F.push (argTup [.str msg tm])).push (excBare 51 hh.objs.size)
  have hfar : ∀ p ∈ news, p.1 < hh.objs.size := fun p hp => Heap.lt_size (N p hp).1
  k_dflt (refine' make_exc PySem.F.excBase_Exception (X1 51 _ ?hC) (looks_findIn X1 ?hi) (fun self => bind_fn X1 self ?hb) (by size_fits) ?_; (case hC => k_is); (case hi => k_is); (case hb => k_is))
  clear N F
  k_dflt cell_enter
  rename Fr _ _ _ _ => F9
  revert F9
  show let m9 : Str → Option Value := _; Fr _ _ _ m9 → _
  intro m9 F9
  k_steps
  refine ⟨?_⟩
  k_dflt (refine' set_exc (D := 38) ?F ?N ?X ?ne ?hs ?ht ?hf ?hc ?hd ?hm ?_; (case F => k_asm); (case N => k_asm); (case X => k_asm); (case hs => k_is); (case ht => k_is); (case hf => k_is); (case hc => k_is); (case hd => rfl); (case hm => rfl); (case ne => intro p hp; rcases List.mem_cons.mp hp with rfl | hp; exact Nat.ne_of_lt (Nat.lt_succ_self _); exact Nat.ne_of_lt (Nat.lt_succ_of_lt (hfar p hp))))
  intro dx od h' tk' F2 N2
  k_steps
  exact ret _ _ _ _ _ (by assumption) (News.sub (by assumption) (by kcf_all)) fun p hp => ⟨Nat.ne_of_lt (Nat.lt_succ_of_lt (hfar p hp)), Nat.ne_of_lt (hfar p hp)⟩

set_option maxHeartbeats 4000000 in
theorem check_spec {w : World} {mean : ExcName → Option Value} {mg mb : Str → Option Value} {cs : Scope} {outer : List Env} {A₀ : Around} {base h₀ : Heap} (C : Cx w mean mg mb cs outer A₀ base h₀)
    {dp un : Nat} {gd : Option (List Code)} {cn : Str} {a : Addr} {ccd : Value} {cl : List (Str × Addr)} {L : Addr} {m : Str → Option Value} {s : Shared} {Q E : Value → Shared → Prop}
    (hd : dp + 7 < recursionLimit) (F : Fr h₀ L s.heap m)
    {x : Addr} {ps : List (Array UInt8)} {news : List (Addr × Obj)} {k z : Int} {tk tz : Tok}
    (N : News h₀ L s.heap news) (hc : ChainAt news x ps) (hz : (cat ps).length ≤ 100000) (hk0 : -1 ≤ k) (hk1 : k ≤ 200000) (hz0 : -100000 ≤ z) (hz1 : z ≤ 200000)
    (ret : 0 ≤ k ∧ 0 ≤ z ∧ k + z ≤ ((cat ps).length : Int) → ∀ h' tk', Fr h₀ L h' m → News h₀ L h' news → Q .none { s with heap := h', toks := tk' })
    (exc : ¬ (0 ≤ k ∧ 0 ≤ z ∧ k + z ≤ ((cat ps).length : Int)) → ∀ e t vs G h' tk', Fr h₀ L G m → RaisedS base G (envX cn cs L a ccd cl :: outer) e (.ref 51) t vs news h' → G.UpToSlots h' → E (.ref e) { s with heap := h', toks := tk' }) :
    wpAny (model PySem.Challenge.rw_xw0333_02.row.prog w) (ktrTop dp un gd cn cs L a ccd cl outer) (call (.ref 114) [.ref x, .int k tk, .int z tz]) Q E s := by
  obtain ⟨B, X, T, hk⟩ := C
  refine hc.elim ?_
  intro dx hsh tk0 pl vs nn hx hdx hpl hb
  refine wpAny_call ?_
  k_dflt cell_enter
  rename Fr _ _ _ _ => F9
  revert F9
  show let m9 : Str → Option Value := _; Fr _ _ _ m9 → _
  intro m9 F9
  k_steps
  all_goals refine ⟨?_⟩
  any_goals
    (refine raise_it (C := 51) rfl ?_
     k_steps
     refine ⟨?_⟩
     k_dflt (refine' sizeErr_spec ⟨?c1, ?c2, ?c3, ?c4⟩ ?hd ?F ?N ?_; (case F => k_asm); (case N => k_asm); (case c1 => k_asm); (case c2 => k_asm); (case c3 => k_asm); (case c4 => exact rfl); (case hd => ktr_room))
     intro e t dx9 h9 tk9 F9 N9 hne9
     have X9 : (hd2.heap_39 w.params).In h9 := Frag.In.keeps (by assumption) F9.keep
     k_dflt (refine' raisable_of (X9 51 _ ?hC) ?hb (N9 _ (.head _)).1 ?_; (case hC => k_is); (case hb => exact rfl))
     k_dflt (refine leave_exc (by assumption) F9 N9 hne9 ?_)
     intro h8 R8 _ U8
     exact exc (by omega) _ _ _ _ _ _ (by assumption) R8 U8)
  k_dflt (refine' size_spec ⟨?c1, ?c2, ?c3, ?c4⟩ ?hd ?F ?N hc hz ?_; (case F => k_asm); (case N => k_asm); (case c1 => k_asm); (case c2 => k_asm); (case c3 => k_asm); (case c4 => exact rfl); (case hd => ktr_room))
  intro h6 t6 tk6 F6 N6
  k_steps
  all_goals (try refine Stop.mk ?_)
  any_goals
    (refine raise_it (C := 51) rfl ?_
     k_steps
     refine ⟨?_⟩
     k_dflt (refine' sizeErr_spec ⟨?c1, ?c2, ?c3, ?c4⟩ ?hd ?F ?N ?_; (case F => k_asm); (case N => k_asm); (case c1 => k_asm); (case c2 => k_asm); (case c3 => k_asm); (case c4 => exact rfl); (case hd => ktr_room))
     intro e t dx9 h9 tk9 F9 N9 hne9
     have X9 : (hd2.heap_39 w.params).In h9 := Frag.In.keeps (by assumption) F9.keep
     k_dflt (refine' raisable_of (X9 51 _ ?hC) ?hb (N9 _ (.head _)).1 ?_; (case hC => k_is); (case hb => exact rfl))
     k_dflt (refine leave_exc (by assumption) F9 N9 hne9 ?_)
     intro h8 R8 _ U8
     exact exc (by omega) _ _ _ _ _ _ (by assumption) R8 U8)
  exact ret ⟨by omega, by omega, by omega⟩ _ _ (by assumption) (by assumption)

set_option maxHeartbeats 4000000 in
theorem islet_spec {w : World} {mean : ExcName → Option Value} {mg mb : Str → Option Value} {cs : Scope} {A₀ : Around} {h₀ : Heap} (C : Cx w mean mg mb cs [] A₀ h₀ h₀)
    {dp un : Nat} {gd : Option (List Code)} {cn : Str} {a : Addr} {ccd : Value} {cl : List (Str × Addr)} {L : Addr} {m : Str → Option Value} {s : Shared} {Q E : Value → Shared → Prop}
    (hd : dp + 9 < recursionLimit) (F : Fr h₀ L s.heap m)
    {x : Addr} {ps : List (Array UInt8)} {news : List (Addr × Obj)} {k z : Int} {tk tz : Tok}
    (N : News h₀ L s.heap news) (hc : ChainAt news x ps) (hz : (cat ps).length ≤ 100000) (hk0 : -1 ≤ k) (hk1 : k ≤ 200000) (hz0 : -100000 ≤ z) (hz1 : z ≤ 200000)
    (ret : ∀ h' tk', Fr h₀ L h' m → News h₀ L h' news → Q (.bool (decide (0 ≤ k ∧ 0 ≤ z ∧ k + z ≤ ((cat ps).length : Int)))) { s with heap := h', toks := tk' }) :
    wpAny (model PySem.Challenge.rw_xw0333_02.row.prog w) (ktrTop dp un gd cn cs L a ccd cl []) (call (.ref 269) [.ref x, .int k tk, .int z tz]) Q E s := by
  obtain ⟨B, X, T, hk⟩ := C
  refine hc.elim ?_
  intro dx hsh tk0 pl vs nn hx hdx hpl hb
  refine wpAny_call ?_
  k_dflt (refine' enterX ?k1 ?k2 ?k3 ?k4 ?k5 ?kA ?k6 ?k7 ?k8 ?k9 ?kB ?_ ?cK ?c2 ?c3 ?c4 ?c5; (case kA => exact rfl); (case k2 => k_asm); (case k1 => k_asm); (case k3 => k_asm); (case k4 => k_asm); (case k5 => k_asm); (case k6 => k_is); (case k7 => k_is); (case k8 => ktr_room); (case k9 => exact BindsTo.of_eq rfl); (case kB => exact locs rfl); (case cK => exact hk); (case c2 => exact rfl); (case c3 => exact rfl); (case c4 => exact rfl); (case c5 => decide); k_whole; intro g' L' h' FG' F' N' B' X' T' D'; (try dsimp only); (try k_lift B'); (try k_fold))
  k_steps
  refine ⟨?_⟩
  k_dflt (refine' check_spec ⟨?c1, ?c2, ?c3, ?c4⟩ ?hd ?F ?N hc hz hk0 hk1 hz0 hz1 ?_ ?_; (case F => k_asm); (case N => k_asm); (case c1 => k_asm); (case c2 => k_asm); (case c3 => k_asm); (case c4 => exact rfl); (case hd => ktr_room))
  · intro hin h6 tk6 F6 N6
    k_steps
    rw [decide_eq_true hin] at ret
    exact ret _ _ (by assumption) (by assumption)
  · intro hout e t vs G h6 tk6 F6 R6 U6
    k_steps
    rw [decide_eq_false hout] at ret
    exact ret _ _ (by assumption) (by assumption)

theorem apart3 {h₀ h : Heap} {L x dx pl : Addr} {hsh : Int} {tk : Tok} {vs : List Value} {nn : Nat} {news : List (Addr × Obj)} (N : News h₀ L h ((x, instObj 244 dx) :: (dx, chainDict hsh tk pl) :: (pl, listOf vs.toArray nn) :: news)) : x ≠ pl ∧ dx ≠ pl := by
  have h3 := (N _ (.tail _ (.tail _ (.head _)))).1
  refine ⟨fun e => ?_, fun e => ?_⟩
  · have h1 := (N _ (.head _)).1
    dsimp only at h1 h3
    rw [e, h3] at h1
    cases h1
  · have h1 := (N _ (.tail _ (.head _))).1
    dsimp only at h1 h3
    rw [e, h3] at h1
    exact absurd (Value.type.inj (congrArg Obj.cls (Option.some.inj h1))) (by decide)

set_option maxHeartbeats 4000000 in
theorem back_spec {w : World} {mean : ExcName → Option Value} {mg mb : Str → Option Value} {cs : Scope} {outer : List Env} {A₀ : Around} {base h₀ : Heap} (C : Cx w mean mg mb cs outer A₀ base h₀)
    {dp un : Nat} {gd : Option (List Code)} {cn : Str} {a : Addr} {ccd : Value} {cl : List (Str × Addr)} {L : Addr} {m : Str → Option Value} {s : Shared} {Q E : Value → Shared → Prop}
    (hd : dp + 5 < recursionLimit) (F : Fr h₀ L s.heap m)
    {x dx pl : Addr} {hsh : Int} {tk0 tb : Tok} {vs : List Value} {nn : Nat} {ps : List (Array UInt8)} {b : Array UInt8} {news : List (Addr × Obj)}
    (N : News h₀ L s.heap ((x, instObj 244 dx) :: (dx, chainDict hsh tk0 pl) :: (pl, listOf vs.toArray nn) :: news)) (hb : BytesAre vs ps) (hl : ps.length ≤ 100) (hz : b.size ≤ 1000)
    (hof : ∀ p ∈ news, p.1 ≠ pl)
    (ret : ∀ vs' nn' h' tk', BytesAre vs' (if 0 < b.size then ps ++ [b] else ps) → Fr h₀ L h' m → News h₀ L h' ((x, instObj 244 dx) :: (dx, chainDict hsh tk0 pl) :: (pl, listOf vs'.toArray nn') :: news) → Q .none { s with heap := h', toks := tk' }) :
    wpAny (model PySem.Challenge.rw_xw0333_02.row.prog w) (ktrTop dp un gd cn cs L a ccd cl outer) (call (.ref 163) [.ref x, .bytes b tb]) Q E s := by
  obtain ⟨B, X, T, hk⟩ := C
  obtain ⟨a1, a2⟩ := apart3 N
  have hlv : vs.length ≤ 100 := by rw [hb.length]; exact hl
  refine wpAny_call ?_
  k_dflt cell_enter
  rename Fr _ _ _ _ => F9
  revert F9
  show let m9 : Str → Option Value := _; Fr _ _ _ m9 → _
  intro m9 F9
  k_steps
  · refine ⟨?_⟩
    k_dflt (refine' append_K (D := pl) (its := vs.toArray) (n := nn) (news' := (x, instObj 244 dx) :: (dx, chainDict hsh tk0 pl) :: (pl, listOf (vs ++ [Value.bytes b tb]).toArray (nn + 1)) :: news) ?F ?N ?U ?_ ?z; (case F => k_asm); (case N => k_asm); (case z => rw [List.size_toArray, sizeLine_eq]; omega); (case U => rw [List.push_toArray]; exact .tail a1 (.tail a2 (.head hof))))
    intro h6 F6 N6
    k_steps
    refine ret _ _ _ _ ?_ (by assumption) (by assumption)
    rw [if_pos (by omega)]
    exact hb.append (.cons _ _ .nil)
  · refine ret _ _ _ _ ?_ (by assumption) (by assumption)
    rw [if_neg (by omega)]
    exact hb

set_option maxHeartbeats 4000000 in
theorem front_spec {w : World} {mean : ExcName → Option Value} {mg mb : Str → Option Value} {cs : Scope} {outer : List Env} {A₀ : Around} {base h₀ : Heap} (C : Cx w mean mg mb cs outer A₀ base h₀)
    {dp un : Nat} {gd : Option (List Code)} {cn : Str} {a : Addr} {ccd : Value} {cl : List (Str × Addr)} {L : Addr} {m : Str → Option Value} {s : Shared} {Q E : Value → Shared → Prop}
    (hd : dp + 5 < recursionLimit) (F : Fr h₀ L s.heap m)
    {x dx pl : Addr} {hsh : Int} {tk0 tb : Tok} {vs : List Value} {nn : Nat} {ps : List (Array UInt8)} {b : Array UInt8} {news : List (Addr × Obj)}
    (N : News h₀ L s.heap ((x, instObj 244 dx) :: (dx, chainDict hsh tk0 pl) :: (pl, listOf vs.toArray nn) :: news)) (hb : BytesAre vs ps) (hl : ps.length ≤ 100) (hz : b.size ≤ 1000)
    (hof : ∀ p ∈ news, p.1 ≠ pl)
    (ret : ∀ vs' nn' h' tk', BytesAre vs' (if 0 < b.size then b :: ps else ps) → Fr h₀ L h' m → News h₀ L h' ((x, instObj 244 dx) :: (dx, chainDict hsh tk0 pl) :: (pl, listOf vs'.toArray nn') :: news) → Q .none { s with heap := h', toks := tk' }) :
    wpAny (model PySem.Challenge.rw_xw0333_02.row.prog w) (ktrTop dp un gd cn cs L a ccd cl outer) (call (.ref 156) [.ref x, .bytes b tb]) Q E s := by
  obtain ⟨B, X, T, hk⟩ := C
  obtain ⟨a1, a2⟩ := apart3 N
  have hlv : vs.length ≤ 100 := by rw [hb.length]; exact hl
  refine wpAny_call ?_
  k_dflt cell_enter
  rename Fr _ _ _ _ => F9
  revert F9
  show let m9 : Str → Option Value := _; Fr _ _ _ m9 → _
  intro m9 F9
  k_steps
  · refine ⟨?_⟩
    k_dflt (refine' kl_insert (D := pl) (its := vs.toArray) (n := nn) (l := Value.bytes b tb :: vs) (news' := (x, instObj 244 dx) :: (dx, chainDict hsh tk0 pl) :: (pl, listOf (Value.bytes b tb :: vs).toArray (nn + 1)) :: news) ?F ?N ?f ?e ?U ?z ?_; (case F => k_asm); (case N => k_asm); (case f => rfl); (case e => rfl); (case z => rw [List.toList_toArray, sizeLine_eq]; omega); (case U => exact .tail a1 (.tail a2 (.head hof))))
    intro h6 F6 N6
    k_steps
    refine ret _ _ _ _ ?_ (by assumption) (by assumption)
    rw [if_pos (by omega)]
    exact .cons _ _ hb
  · refine ret _ _ _ _ ?_ (by assumption) (by assumption)
    rw [if_neg (by omega)]
    exact hb

section
variable {M : Model} {A : Around} {E : Value → Shared → Prop} {s : Shared} {h₀ : Heap} {L a : Addr} {m : Str → Option Value} {cn : Str} {cs : Scope} {ccd : Value} {cl : List (Str × Addr)}
  {x : Str} {v : Value} {news rest : List (Addr × Obj)} {c : Addr} {o : Obj} {v₀ : Option Value}
/-- a store into a cell: it comes to the head of the ledger, behind it what is kept -/
theorem store_cell {Q : Unit → Shared → Prop} (F : Fr h₀ L s.heap m) (N : News h₀ L s.heap news) (hc : cl.lookup x = some c) (hm : (c, o) ∈ news) (hd : o.data = .cell v₀)
    (hr : ∀ p ∈ rest, p ∈ news) (hn : ∀ p ∈ rest, @Ne Nat p.1 c)
    (h : ∀ h' o', o'.data = .cell (some v) → Fr h₀ L h' m → News h₀ L h' ((c, o') :: rest) → Q () { s with heap := h' })
    (hk : cs.kind = .function := by rfl) (hx : (envX cn cs L a ccd cl).kindOf x = some .cell := by rfl) : wpAny M A (storeName (envX cn cs L a ccd cl) x v) Q E s := by
  have hmem := N (c, o) hm
  unfold storeName
  simp only [hx, hk]
  refine wpAny_bind (wpAny_cellOf hc (wpAny_cellSet ⟨o, hmem.1, hd⟩ ?_))
  intro h' hv hs
  obtain ⟨o', ho', hd'⟩ := hv
  refine h h' o' hd' ⟨F.ns.sameBut hs (Ne.symm hmem.2.1), fun b ob e => (hs.2 b (fun q => ?_)).trans (F.keep b ob e), F.above⟩ fun p hp => ?_
  · rw [q, hmem.2.2] at e; cases e
  · rcases List.mem_cons.mp hp with rfl | hp
    · exact ⟨ho', hmem.2⟩
    · have h1 := hr p hp
      have h2 := hn p hp
      exact ⟨(hs.2 _ h2).trans (N p h1).1, (N p h1).2⟩
end
section
variable {prog : Program} {w : World} {A : Around} {E : Value → Shared → Prop} {s : Shared}
/-- two pairs of ints that are alike -/
theorem ne_pair {a b : Addr} {i j k l : Int} {ti tj tk tl : Tok} {Q : Value → Shared → Prop} (ha : s.heap.get? a = some { cls := .type "tuple", data := .seq [Value.int i ti, .int j tj].toArray })
    (hb : s.heap.get? b = some { cls := .type "tuple", data := .seq [Value.int k tk, .int l tl].toArray }) (hu : A.units + 64 < cLine) (e1 : i = k) (e2 : j = l) (h : Q (.bool false) s) :
    wpAny (model prog w) A (compareOp .NotEq (.ref a) (.ref b)) Q E s := by
  subst e1 e2
  refine ne_dataH (reads_tuple_at ha rfl rfl (.cons (Reads.int i ti) (.cons (Reads.int j tj) .nil))) (reads_tuple_at hb rfl rfl (.cons (Reads.int i tk) (.cons (Reads.int j tl) .nil))) rfl rfl hu ?_
  simp only [PyData.eqv, PyData.eqvAll, beq_self_eq_true, Bool.and_true, Bool.not_true]
  exact h

theorem cat_lists {h₀ : Heap} {L a b : Addr} {m : Str → Option Value} {news : List (Addr × Obj)} {xs ys : List Value} {c d : Nat} {Q : Value → Shared → Prop} (F : Fr h₀ L s.heap m) (N : News h₀ L s.heap news) (ha : (a, listOf xs.toArray c) ∈ news) (hb : (b, listOf ys.toArray d) ∈ news)
    (hz : xs.length + ys.length ≤ 1000) (h : ∀ D h', Fr h₀ L h' m → News h₀ L h' ((D, listOf (xs ++ ys).toArray 0) :: news) → (∀ p ∈ news, p.1 < D) → Q (.ref D) { s with heap := h' }) : wpAny (model prog w) A (binaryOp .Add (.ref a) (.ref b)) Q E s :=
  kmk_add_lit F N ⟨_, (N _ ha).1, rfl, _, rfl⟩ ⟨_, (N _ hb).1, rfl, _, rfl⟩ rfl h (Nat.le_trans hz (by rw [sizeLine_eq]; decide))

theorem slice_spots {h₀ : Heap} {L l : Addr} {m : Str → Option Value} {news : List (Addr × Obj)} {value slice : PySem.Expr} {us : List Value} {c : Nat} {lo hi : Int} {tl th : Tok} {Q : Value → Shared → Prop} (F : Fr h₀ L s.heap m) (N : News h₀ L s.heap news) (hm : (l, listOf us.toArray c) ∈ news)
    (h0 : 0 ≤ lo) (h1 : 0 ≤ hi) (hz : us.length ≤ 1000)
    (h : ∀ D h' ps, ps.length = min hi.toNat us.length - min lo.toNat us.length → Fr h₀ L h' m → News h₀ L h' ((D, listOf (List.toArray ps) 0) :: news) → Q (.ref D) { s with heap := h' })
    (hs : subscripted slice false (.ref l) (.ref s.heap.objs.size) = operate [.ref s.heap.objs.size, .ref l] (getItem (.ref l) (.ref s.heap.objs.size)) := by with_unfolding_all rfl) (ht : ∀ r, letTemporaryGo value (.ref l) r = pure () := by intro _; with_unfolding_all rfl) :
    wpAny (model prog w) A (subscriptTail value slice (.ref l) (.ref s.heap.objs.size)) Q E { s with heap := s.heap.push { cls := .type "slice", data := .fields #[.int lo tl, .int hi th, .none] } } := by
  refine kms_slice_lit F N ⟨_, (N _ hm).1, rfl, c, rfl⟩ (.int lo tl) (.int hi th) rfl (fun D h' F' N' _ => h D h' _ ?_ F' N') hs ht (by rw [List.size_toArray, sizeLine_eq]; omega)
  rw [kms_pick, List.length_take, List.length_drop, kms_lo, kms_hi, if_neg (Int.not_lt.mpr h0), if_neg (Int.not_lt.mpr h1)]
  show min (_ - _) (us.length - _) = _
  exact Nat.min_eq_left (Nat.sub_le_sub_right (Nat.min_le_right _ _) _)
/-- a way of a test has come to its bool -/
def JB (h₀ : Heap) (L : Addr) (m : Str → Option Value) (news : List (Addr × Obj)) (s : Shared) (b : Bool) (v : Value) (s' : Shared) : Prop := ∃ h' k, v = .bool b ∧ s' = { s with heap := h', toks := k } ∧ Fr h₀ L h' m ∧ News h₀ L h' news
theorem join_bool {M : Model} {t : Sem Value} {h₀ : Heap} {L : Addr} {m : Str → Option Value} {news : List (Addr × Obj)} {Q : Value → Shared → Prop} (_ : Fr h₀ L s.heap m) (_ : News h₀ L s.heap news) (b : Bool)
    (h1 : wpAny M A t (JB h₀ L m news s b) E s) (h2 : ∀ h' k, Fr h₀ L h' m → News h₀ L h' news → Q (.bool b) { s with heap := h', toks := k }) : wpAny M A t Q E s :=
  wpAny_mono h1 (fun v s' h => by obtain ⟨h', k, rfl, rfl, F, N⟩ := h; exact h2 h' k F N) fun _ _ e => e
theorem five {a b c d e lo hi : Int} {ta tb tc td te : Tok} {j : Nat} {v : Value} (h : [Value.int a ta, .int b tb, .int c tc, .int d td, .int e te][j]? = some v) (ha : lo ≤ a ∧ a ≤ hi) (hb : lo ≤ b ∧ b ≤ hi) (hc : lo ≤ c ∧ c ≤ hi) (hd : lo ≤ d ∧ d ≤ hi) (he : lo ≤ e ∧ e ≤ hi) :
    ∃ z t, v = .int z t ∧ lo ≤ z ∧ z ≤ hi := by
  have := List.mem_of_getElem? h
  simp only [List.mem_cons, List.not_mem_nil, or_false] at this
  rcases this with rfl | rfl | rfl | rfl | rfl
  · exact ⟨_, _, rfl, ha⟩
  · exact ⟨_, _, rfl, hb⟩
  · exact ⟨_, _, rfl, hc⟩
  · exact ⟨_, _, rfl, hd⟩
  · exact ⟨_, _, rfl, he⟩
noncomputable abbrev twoFor (elt i1 i2 : Expr) (x z : Str) (px pz : Pos) (scope : Scope) (pos : Pos) : Expr := .ListComp elt [⟨.Name x px, i1, [], 0⟩, ⟨.Name z pz, i2, [], 0⟩] scope pos

variable {elt i1 i2 : Expr} {x z : Str} {px pz : Pos} {scope : Scope} {pos : Pos} {it acc : Value} {env : Env} {R : Result → Shared → Prop}
theorem two_in (I : Nat → Shared → Prop)
    (turn : ∀ n s (E : Value → Shared → Prop), I n s → wpAny (model prog w) A (pyNext it) (fun r s₁ => match r with
      | none => R (.ok .next) s₁
      | some v => wpAny (model prog w) A (assign (.Name z pz) env v) (fun _ s₂ => wpAny (model prog w) A (eval elt env) (fun y s₃ =>
          wpAny (model prog w) A (call (.builtin "list.append") [acc, y]) (fun _ s₄ => ∃ m, m < n ∧ I m s₄) E s₃)
          E s₂) E s₁) E s)
    (n : Nat) (h : I n s) : codeAny (model prog w) A (.compLoop (twoFor elt i1 i2 x z px pz scope pos) 1 it acc env) R s := by
  refine codeAny_loop rfl I (fun n s hI => ?_) n h
  show wpAny _ A ((compTurn (twoFor elt i1 i2 x z px pz scope pos) 1 it acc env).onRaise (fun x => do noteFrame x env; theTreesLotGoes x)) _ _ s
  refine wpAny_noted ?_
  show wpAny _ A (standAt i2.pos >>= fun _ => pyNext it >>= fun r => match r with
      | none => pure (.done .next)
      | some v => assign (.Name z pz) env v >>= fun _ => (eval elt env >>= fun y => call (.builtin "list.append") [acc, y] >>= fun _ => pure ()) >>= fun _ =>
          again (.compLoop (twoFor elt i1 i2 x z px pz scope pos) 1 it acc env)) _ _ s
  refine wpAny_bind (wpAny_standAt (wpAny_bind (wpAny_mono (turn n s _ hI) (fun r s₁ h₁ => ?_) fun _ _ h' => h')))
  cases r with
  | none => exact wpAny_pure h₁
  | some v => exact wpAny_bind (wpAny_mono h₁ (fun _ _ h₂ => wpAny_bind (wpAny_bind (wpAny_mono h₂ (fun _ _ h₃ => wpAny_bind (wpAny_mono h₃ (fun _ _ h₄ => wpAny_pure (wpAny_pure ⟨rfl, h₄⟩)) fun _ _ h' => h')) fun _ _ h' => h'))) fun _ _ h' => h')
theorem two_out (hs : ∀ y, foldedSetIterable i2 env y = pure y) (I : Nat → Shared → Prop)
    (turn : ∀ n s (E : Value → Shared → Prop), I n s → wpAny (model prog w) A (pyNext it) (fun r s₁ => match r with
      | none => R (.ok .next) s₁
      | some v => wpAny (model prog w) A (assign (.Name x px) env v) (fun _ s₂ => wpAny (model prog w) A (eval i2 env) (fun y s₃ =>
          wpAny (model prog w) A (pyIter y) (fun it2 s₄ => ∀ R' : Result → Shared → Prop, (∀ s', (∃ m, m < n ∧ I m s') → R' (.ok .next) s') → codeAny (model prog w) A (.compStart (twoFor elt i1 i2 x z px pz scope pos) 1 it2 acc env)
            R' s₄) E s₃)
          E s₂) E s₁) E s)
    (n : Nat) (h : I n s) : codeAny (model prog w) A (.compLoop (twoFor elt i1 i2 x z px pz scope pos) 0 it acc env) R s := by
  refine codeAny_loop rfl I (fun n s hI => ?_) n h
  show wpAny _ A ((compTurn (twoFor elt i1 i2 x z px pz scope pos) 0 it acc env).onRaise (fun x => do noteFrame x env; theTreesLotGoes x)) _ _ s
  refine wpAny_noted ?_
  show wpAny _ A (standAt i1.pos >>= fun _ => pyNext it >>= fun r => match r with
      | none => pure (.done .next)
      | some v => assign (.Name x px) env v >>= fun _ => eval i2 env >>= fun y => standAt i2.pos >>= fun _ => foldedSetIterable i2 env y >>= fun y => holding [y] (pyIter y) >>= fun it2 =>
          runOwn (.compStart (twoFor elt i1 i2 x z px pz scope pos) 1 it2 acc env) env >>= fun _ =>
          again (.compLoop (twoFor elt i1 i2 x z px pz scope pos) 0 it acc env)) _ _ s
  refine wpAny_bind (wpAny_standAt (wpAny_bind (wpAny_mono (turn n s _ hI) (fun r s₁ h₁ => ?_) fun _ _ h' => h')))
  cases r with
  | none => exact wpAny_pure h₁
  | some v =>
    exact wpAny_bind (wpAny_mono h₁ (fun _ _ h₂ => wpAny_bind (wpAny_mono h₂ (fun y _ h₃ => wpAny_bind (wpAny_standAt (wpAny_bind (wpAny_of_eq (hs y) (wpAny_bind (wpAny_holding
      (wpAny_mono h₃ (fun _ s₄ h₄ => wpAny_bind (wpAny_runOwn (h₄ _ fun s' hr => wpAny_pure ⟨rfl, hr⟩))) fun _ _ h' => h'))))))) fun _ _ h' => h')) fun _ _ h' => h')
theorem two_start (h0 : codeAny (model prog w) A (.compLoop (twoFor elt i1 i2 x z px pz scope pos) 1 it acc env) R s)
    (h : ∀ E, wpAny (model prog w) A (pyIter it) (fun it' s' => codeAny (model prog w) A (.compLoop (twoFor elt i1 i2 x z px pz scope pos) 1 it' acc env) R s') E s) :
    codeAny (model prog w) A (.compStart (twoFor elt i1 i2 x z px pz scope pos) 1 it acc env) R s := by
  refine codeAny_of_tree ?_
  show wpAny _ _ ((compStart (twoFor elt i1 i2 x z px pz scope pos) 1 it acc env).onRaise (fun x => do noteFrame x env; standAt theWindowsPlace)) _ _ s
  refine wpAny_notedAt ?_
  unfold compStart
  show wpAny _ _ (ask >>= _) _ _ s
  refine wpAny_bind (wpAny_askSetting (wpAny_ite ?_))
  split
  · first
      | exact wpAny_bind (wpAny_pure (wpAny_pure ⟨rfl, h0⟩))
      | exact wpAny_pure ⟨rfl, h0⟩
  · refine wpAny_bind (wpAny_rule ?_)
    show wpAny _ _ (standAt i2.pos >>= _) _ _ s
    exact wpAny_bind (wpAny_standAt (wpAny_bind (wpAny_mono (h _) (fun _ _ h' => wpAny_pure ⟨rfl, h'⟩) fun _ _ e => e)))
end
open LCg
section
variable {prog : Program} {w : World} {A : Around} {E : Value → Shared → Prop} {s : Shared} {h₀ : Heap} {L : Addr} {m : Str → Option Value} {env : Env}
noncomputable abbrev itO (a b : Int) : Obj := { cls := .type "range_iterator", dict := none, data := .fields #[rawInt a, rawInt b, rawInt 1], slots := #[] }
theorem itO_succ (i : Nat) (b : Int) : itO ((i : Int) + 1) (b - i - 1) = itO ((i + 1 : Nat) : Int) (b - ((i + 1 : Nat) : Int)) := by
  have e1 : ((i + 1 : Nat) : Int) = (i : Int) + 1 := by omega
  have e2 : b - (i : Int) - 1 = b - ((i : Int) + 1) := by omega
  rw [e1, e2]
theorem pos_left {i n : Nat} (h : i < n) : 0 < (n : Int) - (i : Nat) := by omega
theorem no_left {n : Nat} : (n : Int) - (n : Nat) ≤ 0 := by omega
theorem turn_lt {i n : Nat} (h : i < n) : n + 1 - (i + 1) < n + 1 - i := Nat.sub_succ_lt_self _ _ (Nat.lt_succ_of_lt h)
theorem len_snoc {ys : List Value} {v : Value} {k : Nat} (h : ys.length = k) : (ys ++ [v]).length = k + 1 := by rw [List.length_append, List.length_singleton, h]
theorem size_len {ys : List Value} {k : Nat} (h : ys.length = k) (hk : k ≤ sizeLine) : ys.toArray.size ≤ sizeLine := by rw [List.size_toArray, h]; exact hk
theorem here_of {x z : Str} {v u : Value} {m : Str → Option Value} (hxz : x ≠ z) (h : m x = some v) : (fun q => if q = z then some u else m q) x = some v := (if_neg hxz).trans h
theorem nat_left {n : Nat} : (((n : Int) - 0).toNat : Int) = n := by rw [Int.sub_zero]; rfl
theorem itO_zero {b : Int} : itO 0 b = itO ((0 : Nat) : Int) (b - ((0 : Nat) : Int)) := by simp
/-- a clause's source: a range from 0 -/
def RSrc (h₀ : Heap) (L : Addr) (m : Str → Option Value) (s : Shared) (n : Nat) (P : List (Addr × Obj) → Prop) (xv : Value) (s₁ : Shared) : Prop :=
  ∃ r t u v h' tk' news, xv = .ref r ∧ s₁ = { s with heap := h', toks := tk' } ∧ IsRange h' r 0 (n : Int) 1 t u v ∧ Builtin.Range.small 0 (n : Int) 1 = true ∧ Fr h₀ L h' m ∧ News h₀ L h' news ∧ P news
theorem get_push {h : Heap} {o : Obj} {a : Nat} (e : a = h.objs.size) (hf : o.isFreed = false) : (h.push o).get? a = some o := by
  subst e
  exact Heap.get?_push_size _ hf
theorem news_at {h h' : Heap} {a : Addr} {l : List (Addr × Obj)} (N : News h₀ L h l) (hs : Heap.ExtBut a h h') (off : ∀ p ∈ l, p.1 ≠ a) : News h₀ L h' l := fun p hp => ⟨hs _ _ (off p hp) (N p hp).1, (N p hp).2⟩
theorem news_tail {h : Heap} {p : Addr × Obj} {l : List (Addr × Obj)} (N : News h₀ L h (p :: l)) : News h₀ L h l := fun q hq => N q (.tail _ hq)
theorem cons_news {h : Heap} {a : Addr} {o : Obj} {l : List (Addr × Obj)} (e : h.get? a = some o) (hL : a ≠ L) (h0 : h₀.get? a = none) (N : News h₀ L h l) : News h₀ L h ((a, o) :: l) := fun p hp => by
  rcases List.mem_cons.mp hp with rfl | hp
  · exact ⟨e, hL, h0⟩
  · exact N p hp
theorem fr_at {h h' : Heap} {a : Addr} (F : Fr h₀ L h m) (hs : Heap.ExtBut a h h') (hL : a ≠ L) (ha : h₀.get? a = none) : Fr h₀ L h' m :=
  ⟨F.ns.at' fun o e => hs _ o (Ne.symm hL) e, fun b o e => hs b o (fun q => by rw [q, ha] at e; cases e) (F.keep b o e), F.above⟩

theorem iter_self (hh : A.handled = none) {I : Addr} {a : Int} {k : Nat} {Q : Value → Shared → Prop} (hi : IsRangeIter s.heap I a k 1) (h : Q (.ref I) s) : wpAny (model prog w) A (pyIter (.ref I)) Q E s :=
  (range_walks hh a k).self 0 s Q E (by simpa using hi) h

variable {elt i1 i2 : Expr} {x z y : Str} {px pz py : Pos} {scope : Scope} {cl : List (Str × Addr)} {pos spos : Pos} {Q : Flow → Shared → Prop} {R : Result → Shared → Prop}
  {n : Nat} {sz off : Nat → Nat} {Inv : Nat → List Value → List (Addr × Obj) → Prop} {I C D J : Addr}
theorem two_range {acc : Value} (hh : A.handled = none) {a : Int} {k : Nat} (hi : IsRangeIter s.heap I a k 1) (h0 : codeAny (model prog w) A (.compLoop (twoFor elt i1 i2 x z px pz scope pos) 1 (.ref I) acc env) R s) :
    codeAny (model prog w) A (.compStart (twoFor elt i1 i2 x z px pz scope pos) 1 (.ref I) acc env) R s := two_start h0 fun _ => iter_self hh hi h0
/-- what holds ahead of the inner loop's turn -/
inductive InI (h₀ : Heap) (L : Addr) (m : Str → Option Value) (s : Shared) (Inv : Nat → List Value → List (Addr × Obj) → Prop) (x : Str) (I C D J : Addr) (oI : Obj) (c z i : Nat) : Nat → Shared → Prop
  | mk (h : Heap) (tk : Nat) (j : Nat) (ys : List Value) (m' : Str → Option Value) (nw : List (Addr × Obj)) (t : Tok) : j ≤ z → ys.length = c + j → Fr h₀ L h m → h.Ns C m' → m' x = some (.int (i : Int) t) →
    News h₀ L h ((J, itO (j : Nat) ((z : Int) - (j : Nat))) :: (D, lst ys) :: (I, oI) :: nw) → Off3 J C D ((I, oI) :: nw) → Off3 I C D nw → Inv (c + j) ys nw → InI h₀ L m s Inv x I C D J oI c z i (z + 1 - j) { s with heap := h, toks := tk }
/-- what holds ahead of the outer loop's turn -/
inductive OutI (h₀ : Heap) (L : Addr) (m : Str → Option Value) (s : Shared) (Inv : Nat → List Value → List (Addr × Obj) → Prop) (off : Nat → Nat) (I C D : Addr) (n : Nat) : Nat → Shared → Prop
  | mk (h : Heap) (tk : Nat) (i : Nat) (ys : List Value) (m' : Str → Option Value) (nw : List (Addr × Obj)) : i ≤ n → ys.length = off i → Fr h₀ L h m → h.Ns C m' →
    News h₀ L h ((I, itO (i : Nat) ((n : Int) - (i : Nat))) :: (D, lst ys) :: nw) → Off3 I C D nw → Inv (off i) ys nw → OutI h₀ L m s Inv off I C D n (n + 1 - i) { s with heap := h, toks := tk }
/-- the addresses of a comprehension -/
structure Apart (h₀ : Heap) (L I C D : Addr) : Prop where
  ID : @LT.lt Nat _ I D
  DC : @LT.lt Nat _ D C
  I0 : h₀.get? I = none
  C0 : h₀.get? C = none
  D0 : h₀.get? D = none
  IL : I ≠ L
  CL : C ≠ L
  DL : D ≠ L
/-- the element's step -/
abbrev Step2 (prog : Program) (w : World) (A : Around) (h₀ : Heap) (L : Addr) (m : Str → Option Value) (s : Shared) (Inv : Nat → List Value → List (Addr × Obj) → Prop) (elt : Expr) (env : Env) (x z : Str) (I C D : Addr) (c i j : Nat) : Prop :=
  ∀ ys news J oJ oI oC m₂ h tk t u (E' : Value → Shared → Prop), Inv (c + j) ys news → NsObj oC m₂ → m₂ x = some (.int (i : Int) t) → m₂ z = some (.int (j : Int) u) → Fr h₀ L h m →
      News h₀ L h ((J, oJ) :: (C, oC) :: (D, lst ys) :: (I, oI) :: news) → Off3 J C D ((I, oI) :: news) → Off3 I C D news →
      wpAny (model prog w) A (eval elt env) (CompEnd h₀ L m { s with heap := h, toks := tk } J oJ C oC D (lst ys) (fun _ => True) (fun v nw => ∃ nw', nw = (I, oI) :: nw' ∧ Off3 I C D nw' ∧ Inv (c + j + 1) (ys ++ [v]) nw')) E' { s with heap := h, toks := tk }
theorem inner_loop {oI : Obj} {c sz i k : Nat} (hh : A.handled = none) (hz : scope.names.lookup z = some .local) (hkind : scope.kind = .function) (hxz : x ≠ z) (hmax : ∀ j, j < sz → c + j ≤ sizeLine) (P : Apart h₀ L I C D)
    (lC : @LT.lt Nat _ C J) (hJL : J ≠ L) (hJ₀ : h₀.get? J = none) (step2 : ∀ j, j < sz → Step2 prog w A h₀ L m s Inv elt (compEnvC scope cl C env) x z I C D c i j)
    (next : ∀ h tk ys m' nw, ys.length = c + sz → Fr h₀ L h m → h.Ns C m' → News h₀ L h ((I, oI) :: (D, lst ys) :: nw) → Off3 I C D nw → Inv (c + sz) ys nw → R (.ok .next) { s with heap := h, toks := tk })
    {s' : Shared} (hI : InI h₀ L m s Inv x I C D J oI c sz i k s') : codeAny (model prog w) A (.compLoop (twoFor elt i1 i2 x z px pz scope pos) 1 (.ref J) (.ref D) (compEnvC scope cl C env)) R s' := by
  refine two_in (InI h₀ L m s Inv x I C D J oI c sz i) ?_ k hI
  clear hI s' k
  rintro k s' E' ⟨h7, tk7, j, ys, m7, nw, t7, hj, hyl, F7, n7, hm7, N10, oJ, off2, hI2⟩
  have lDJ := Nat.lt_trans P.DC lC
  by_cases hjt : j < sz
  · refine wpAny_pyNext_range_item (N10 _ (.head _)).1 (pos_left hjt) fun h8 it8 sb8 => ?_
    refine wpAny_assign_Name (wpAny_storeName_local (lookup_relabel_local hz) (n7.at' fun o e => sb8.extBut _ _ (Nat.ne_of_lt lC) e) (fun h9 n9 sb9 => ?_) (by simp [compEnvC, relabel, hkind]))
    have it9 : IsRangeIter h9 J ((j : Int) + 1) ((sz : Int) - j - 1) 1 := sb9.extBut _ _ (Nat.ne_of_gt lC) it8
    have F9 := fr_at (fr_at F7 sb8.extBut hJL hJ₀) sb9.extBut P.CL P.C0
    have N11 := news_at (news_at (news_tail N10) sb8.extBut (List.forall_mem_cons.mpr ⟨Nat.ne_of_lt lDJ, fun p hp => (oJ.mem p hp).1⟩)) sb9.extBut (List.forall_mem_cons.mpr ⟨Nat.ne_of_lt P.DC, fun p hp => (oJ.mem p hp).2.1⟩)
    obtain ⟨oC, eC, hoC⟩ := ns_obj n9
    refine wpAny_mono (step2 j hjt ys nw J _ _ oC _ h9 _ _ _ _ hI2 hoC (here_of hxz hm7) (if_pos rfl) F9 (cons_news it9 hJL hJ₀ (cons_news eC P.CL P.C0 N11)) oJ off2) (fun v s₄ h₄ => ?_) fun _ _ e => e
    clear it9 F9 N11 N10 F7 eC n9 sb9 sb8 it8 n7 oJ off2 hI2
    obtain ⟨h10, tk10, nw10, rfl, F10, N12, oJ2, _, nw11, rfl, off3, hI3⟩ := h₄
    refine append_at (hsz := size_len hyl (hmax j hjt)) (N12 _ (.tail _ (.tail _ (.head _)))).1 fun h11 sb11 eD => ?_
    have N13 := news_at (a := D) (l := (J, itO ((j : Int) + 1) ((sz : Int) - j - 1)) :: (C, oC) :: (I, oI) :: nw11) (List.forall_mem_cons.mpr ⟨N12 _ (.head _), List.forall_mem_cons.mpr ⟨N12 _ (.tail _ (.head _)), List.forall_mem_cons.mpr ⟨N12 _ (.tail _ (.tail _ (.tail _ (.head _)))), fun p hp => N12 p (.tail _ (.tail _ (.tail _ (.tail _ hp))))⟩⟩⟩) sb11.extBut
      (List.forall_mem_cons.mpr ⟨Nat.ne_of_gt lDJ, List.forall_mem_cons.mpr ⟨Nat.ne_of_gt P.DC, fun p hp => (oJ2.mem p hp).2.2⟩⟩)
    have hit := (N13 _ (.head _)).1
    rw [itO_succ] at hit
    exact ⟨sz + 1 - (j + 1), turn_lt hjt, .mk h11 tk10 (j + 1) (ys ++ [v]) _ nw11 t7 hjt (len_snoc hyl) (fr_at F10 sb11.extBut P.DL P.D0) (hoC.ns (N13 _ (.tail _ (.head _))).1)
      (here_of hxz hm7) (cons_news hit hJL hJ₀ (cons_news (eD.trans (congrArg some (lst_snoc ys v))) P.DL P.D0 (news_tail (news_tail N13)))) oJ2 off3 hI3⟩
  · obtain rfl : j = sz := Nat.le_antisymm hj (Nat.not_lt.mp hjt)
    refine wpAny_pyNext_range_end hh (N10 _ (.head _)).1 no_left fun h8 e8 => ?_
    have N11 := news_at (news_tail N10) e8 (List.forall_mem_cons.mpr ⟨Nat.ne_of_lt lDJ, fun p hp => (oJ.mem p hp).1⟩)
    exact next h8 tk7 ys _ nw hyl (fr_at F7 e8 hJL hJ₀) (n7.at' fun o e => e8 _ o (Nat.ne_of_lt lC) e) (cons_news (N11 _ (.tail _ (.head _))).1 P.IL P.I0 (cons_news (N11 _ (.head _)).1 P.DL P.D0 (news_tail (news_tail N11)))) off2 hI2
/-- the inner range's step -/
abbrev Step1 (prog : Program) (w : World) (A : Around) (h₀ : Heap) (L : Addr) (m : Str → Option Value) (s : Shared) (Inv : Nat → List Value → List (Addr × Obj) → Prop) (i2 : Expr) (env : Env) (x : Str) (I C D : Addr) (c sz i : Nat) : Prop :=
  ∀ ys news oI oC m₂ h tk t (E' : Value → Shared → Prop), Inv c ys news → NsObj oC m₂ → m₂ x = some (.int (i : Int) t) → Fr h₀ L h m → News h₀ L h ((I, oI) :: (C, oC) :: (D, lst ys) :: news) → Off3 I C D news →
      wpAny (model prog w) A (eval i2 env) (RSrc h₀ L m { s with heap := h, toks := tk } sz (fun nw => ∀ p ∈ (I, oI) :: (C, oC) :: (D, lst ys) :: news, p ∈ nw)) E' { s with heap := h, toks := tk }
theorem outer_loop {k : Nat} (hh : A.handled = none) (hx : scope.names.lookup x = some .local) (hz : scope.names.lookup z = some .local) (hkind : scope.kind = .function) (hxz : x ≠ z) (hs2 : ∀ (e : Env) v, foldedSetIterable i2 e v = pure v)
    (hoff : ∀ i, i < n → off (i + 1) = off i + sz i) (hmax : ∀ i j, i < n → j < sz i → off i + j ≤ sizeLine) (P : Apart h₀ L I C D)
    (step1 : ∀ i, i < n → Step1 prog w A h₀ L m s Inv i2 (compEnvC scope cl C env) x I C D (off i) (sz i) i) (step2 : ∀ i j, i < n → j < sz i → Step2 prog w A h₀ L m s Inv elt (compEnvC scope cl C env) x z I C D (off i) i j)
    (next : ∀ h tk ys m' nw, Fr h₀ L h m → h.Ns C m' → News h₀ L h ((D, lst ys) :: nw) → Off3 I C D nw → Inv (off n) ys nw → R (.ok .next) { s with heap := h, toks := tk })
    {s' : Shared} (hI : OutI h₀ L m s Inv off I C D n k s') : codeAny (model prog w) A (.compLoop (twoFor elt i1 i2 x z px pz scope pos) 0 (.ref I) (.ref D) (compEnvC scope cl C env)) R s' := by
  refine two_out (fun v => hs2 _ v) (OutI h₀ L m s Inv off I C D n) ?_ k hI
  clear hI s' k
  rintro k s' E' ⟨h2, tk2, i, ys, m', nw, hi, hyl, F2, n2, N2, off2, hI2⟩
  have lIC := Nat.lt_trans P.ID P.DC
  by_cases hlt : i < n
  · refine wpAny_pyNext_range_item (N2 _ (.head _)).1 (pos_left hlt) fun h3 it3 sb3 => ?_
    refine wpAny_assign_Name (wpAny_storeName_local (lookup_relabel_local hx) (n2.at' fun o e => sb3.extBut _ _ (Nat.ne_of_gt lIC) e) (fun h4 n4 sb4 => ?_) (by simp [compEnvC, relabel, hkind]))
    have it4 : IsRangeIter h4 I ((i : Int) + 1) ((n : Int) - i - 1) 1 := sb4.extBut _ _ (Nat.ne_of_lt lIC) it3
    have F4 := fr_at (fr_at F2 sb3.extBut P.IL P.I0) sb4.extBut P.CL P.C0
    have N4 := news_at (news_at (news_tail N2) sb3.extBut (List.forall_mem_cons.mpr ⟨Nat.ne_of_gt P.ID, fun p hp => (off2.mem p hp).1⟩)) sb4.extBut (List.forall_mem_cons.mpr ⟨Nat.ne_of_lt P.DC, fun p hp => (off2.mem p hp).2.1⟩)
    obtain ⟨oC, eC, hoC⟩ := ns_obj n4
    refine wpAny_mono (step1 i hlt ys nw (itO ((i : Int) + 1) ((n : Int) - i - 1)) oC _ h4 _ _ _ hI2 hoC (if_pos rfl) F4 (cons_news it4 P.IL P.I0 (cons_news eC P.CL P.C0 N4)) off2) (fun xv s₄ h₄ => ?_) fun _ _ e => e
    clear it4 F4 N4 N2 F2 eC n4 n2 sb4 sb3 it3
    obtain ⟨r2, t2, u2, v2, h5, tk5, nw5, rfl, rfl, hr2, hsm2, F5, N6, hsub⟩ := h₄
    have N7 : News h₀ L h5 ((I, itO ((i : Int) + 1) ((n : Int) - i - 1)) :: (C, oC) :: (D, lst ys) :: nw) := fun p hp => N6 p (hsub p hp)
    clear N6 hsub
    refine wpAny_pyIter_range hr2 hsm2 ?_
    rw [rangeSize_nat, nat_left]
    have lJ : ∀ p ∈ (I, itO ((i : Int) + 1) ((n : Int) - i - 1)) :: (C, oC) :: (D, lst ys) :: nw, @LT.lt Nat _ p.1 h5.objs.size := fun p hp => Heap.lt_size (N7 p hp).1
    have up : ∀ b o, h5.get? b = some o → (h5.push (itO 0 (sz i))).get? b = some o := fun b o e => Heap.get?_push_of_some _ e
    have N8 := N7.grown up
    have hJ := get_push (h := h5) (o := itO 0 (sz i)) rfl rfl
    have hJ' := hJ
    rw [itO_zero] at hJ
    have hJL : @Ne Nat h5.objs.size L := Nat.ne_of_gt F5.ns.lt
    have hJ₀ := next_is_new F5
    intro R' hR'
    refine two_range hh hJ' ?_
    refine inner_loop (c := off i) (i := i) (oI := itO ((i : Int) + 1) ((n : Int) - i - 1)) (k := sz i + 1) hh hz hkind hxz (fun j hj => hmax i j hlt hj) P (lJ _ (.tail _ (.head _))) hJL hJ₀ (fun j hj => step2 i j hlt hj) (fun h tk ys m' nw hyl F n N off hI => ?_)
      (.mk _ _ 0 ys _ nw _ (Nat.zero_le _) hyl (F5.keeps up) (hoC.ns (N8 _ (.tail _ (.head _))).1) (if_pos rfl) (cons_news hJ hJL hJ₀ (cons_news (N8 _ (.tail _ (.tail _ (.head _)))).1 P.DL P.D0 (cons_news (N8 _ (.head _)).1 P.IL P.I0 (news_tail (news_tail (news_tail N8))))))
        ⟨⟨Nat.ne_of_lt (lJ _ (.head _)), Nat.ne_of_lt lIC, Nat.ne_of_lt P.ID⟩, Off3.of fun p hp => ⟨Nat.ne_of_lt (lJ _ (.tail _ (.tail _ (.tail _ hp)))), (off2.mem p hp).2⟩⟩ off2 hI2)
    have hit := (N _ (.head _)).1
    rw [itO_succ] at hit
    rw [← hoff i hlt] at hyl hI
    exact hR' _ ⟨_, turn_lt hlt, .mk h tk (i + 1) ys m' nw hlt hyl F n (cons_news hit P.IL P.I0 (news_tail N)) off hI⟩
  · obtain rfl : i = n := Nat.le_antisymm hi (Nat.not_lt.mp hlt)
    refine wpAny_pyNext_range_end hh (N2 _ (.head _)).1 no_left fun h3 e3 => ?_
    exact next h3 tk2 ys _ nw (fr_at F2 e3 P.IL P.I0) (n2.at' fun o e => e3 _ o (Nat.ne_of_gt lIC) e) (news_at (news_tail N2) e3 (List.forall_mem_cons.mpr ⟨Nat.ne_of_gt P.ID, fun p hp => (off2.mem p hp).1⟩)) off2 hI2
theorem Assign_two (_ : Fr h₀ L s.heap m) (n : Nat) (sz off : Nat → Nat) (Inv : Nat → List Value → List (Addr × Obj) → Prop) (hLe : env.locals = L) (hsw : swapsWith (twoFor elt i1 i2 x z px pz scope pos) (some (.Name y py)) spos.line env = pure true)
    (hclos : closureFor scope env = pure cl) (hcell : ∀ q ∈ scope.names, q.2 ≠ .cell) (hkind : scope.kind = .function)
    (hnames : ∀ q ∈ scope.names, q.2 = .local → scope.names.lookup q.1 = some .local) (hx : scope.names.lookup x = some .local) (hz : scope.names.lookup z = some .local) (hxz : x ≠ z)
    (hy : env.kindOf y = some .local) (hp : (env.scope.kind == .class || (env.scope.kind == .module && env.locals != env.globals)) = false) (hh : A.handled = none)
    (hs1 : ∀ v, foldedSetIterable i1 env v = pure v) (hs2 : ∀ (e : Env) v, foldedSetIterable i2 e v = pure v)
    (h0 : off 0 = 0) (hoff : ∀ i, i < n → off (i + 1) = off i + sz i) (hmax : ∀ i j, i < n → j < sz i → off i + j ≤ sizeLine)
    (h : wpAny (model prog w) A (eval i1 env) (RSrc h₀ L m s n (Inv 0 [])) E s)
    (step1 : ∀ I C D i, i < n → Step1 prog w A h₀ L m s Inv i2 (compEnvC scope cl C env) x I C D (off i) (sz i) i) (step2 : ∀ I C D i j, i < n → j < sz i → Step2 prog w A h₀ L m s Inv elt (compEnvC scope cl C env) x z I C D (off i) i j)
    (fin : ∀ D h tk ys news, Inv (off n) ys news → Fr h₀ L h (fun q => if q = y then some (.ref D) else m q) → News h₀ L h ((D, lst ys) :: news) → Off1 D news → Q .next { s with heap := h, toks := tk }) :
    wpAny (model prog w) A (exec (.Assign [.Name y py] (twoFor elt i1 i2 x z px pz scope pos) spos) env) Q E s := by
  subst hLe
  rw [exec_Assign_Name_used _ _ _ _ hsw]
  refine wpAny_bind (wpAny_standAt (wpAny_bind ?_))
  show wpAny _ A (do let _ ← comprehension (twoFor elt i1 i2 x z px pz scope pos) scope env _ (newList []) false (eval i1 env) (some (assign (.Name y py) env))) _ _ s
  refine wpAny_bind (wpAny_mono (wpAny_comprehension_free (use := some (assign (.Name y py) env)) (Q := fun _ s' => Q .next s') rfl hs1 hclos hkind hnames
    (wpAny_mono h (fun xv s₁ h₁ => ?_) fun _ _ e => e)) (fun _ s' hq => wpAny_pure (wpAny_pure hq)) fun _ _ e => e)
  obtain ⟨r, t, u, v, H, tk, news, rfl, rfl, hr, hsm, F, N, hI⟩ := h₁
  refine wpAny_pyIter_range hr hsm ?_
  refine wpAny_newObj_type (wpAny_newFunctionEnv hcell (by intro y hy; simp at hy) (fun h₁ hns₁ hsb₁ => ?_) hkind)
  rw [rangeSize_nat, nat_left] at hsb₁ hns₁ ⊢
  dsimp only at hns₁ hsb₁ ⊢
  simp only [Heap.size_push] at hns₁ hsb₁ ⊢
  have a1 : (H.push (itO 0 n)).objs.size = H.objs.size + 1 := Heap.size_push ..
  have fresh : ∀ a : Nat, H.objs.size ≤ a → h₀.get? a = none ∧ a ≠ env.locals := fun a ha => ⟨by
    cases e : h₀.get? a with
    | none => rfl
    | some o' => exact absurd (Heap.lt_size (F.keep a o' e)) (Nat.not_lt.mpr ha), Nat.ne_of_gt (Nat.lt_of_lt_of_le F.ns.lt ha)⟩
  have lt1 : H.objs.size < H.objs.size + 1 := Nat.lt_succ_self _
  have lt2 : H.objs.size + 1 < H.objs.size + 1 + 1 := Nat.lt_succ_self _
  have P : Apart h₀ env.locals H.objs.size (H.objs.size + 1 + 1) (H.objs.size + 1) := ⟨lt1, lt2, (fresh _ (Nat.le_refl _)).1, (fresh _ (Nat.le_add_right _ 2)).1, (fresh _ (Nat.le_add_right _ 1)).1, (fresh _ (Nat.le_refl _)).2, (fresh _ (Nat.le_add_right _ 2)).2, (fresh _ (Nat.le_add_right _ 1)).2⟩
  have old : ∀ b o, H.get? b = some o → h₁.get? b = some o := fun b o e => hsb₁.extBut b o (Nat.ne_of_lt (Nat.lt_succ_of_lt (Nat.lt_succ_of_lt (Heap.lt_size e)))) (Heap.get?_push_of_some _ (Heap.get?_push_of_some _ (Heap.get?_push_of_some _ e)))
  have eI : h₁.get? H.objs.size = some (itO 0 n) := hsb₁.extBut _ _ (Nat.ne_of_lt (Nat.lt_succ_of_lt lt1)) (Heap.get?_push_of_some _ (Heap.get?_push_of_some _ (get_push (o := itO 0 n) rfl rfl)))
  have eD : h₁.get? (H.objs.size + 1) = some (lst []) := hsb₁.extBut _ _ (Nat.ne_of_lt lt2) (Heap.get?_push_of_some _ (get_push a1.symm rfl))
  have N₁ := cons_news (eI.trans (congrArg some itO_zero)) P.IL P.I0 (cons_news eD P.DL P.D0 (N.grown old))
  have off₁ : Off3 H.objs.size (H.objs.size + 1 + 1) (H.objs.size + 1) news := Off3.of fun p hp => by
    have hb : p.1 < H.objs.size := Heap.lt_size (N p hp).1
    exact ⟨Nat.ne_of_lt hb, Nat.ne_of_lt (Nat.lt_succ_of_lt (Nat.lt_succ_of_lt hb)), Nat.ne_of_lt (Nat.lt_succ_of_lt hb)⟩
  have loop : codeAny (model prog w) A (.compLoop (twoFor elt i1 i2 x z px pz scope pos) 0 (.ref H.objs.size) (.ref (H.objs.size + 1)) (compEnvC scope cl (H.objs.size + 1 + 1) env))
      (compPost (model prog w) A E (some (assign (.Name y py) env)) (fun _ s' => Q .next s') (.ref (H.objs.size + 1)) (H.objs.size + 1 + 1)) { s with heap := h₁, toks := tk + ([] : List (Str × Value)).length } := by
    refine outer_loop (n := n) (sz := sz) (off := off) (Inv := Inv) (k := n + 1) hh hx hz hkind hxz hs2 hoff hmax P (fun i => step1 _ _ _ i) (fun i j => step2 _ _ _ i j) ?_ (.mk h₁ _ 0 [] _ news (Nat.zero_le _) h0.symm (F.keeps old) hns₁ N₁ off₁ (h0.symm ▸ hI))
    intro h3 tk3 ys m' nw F3 n3 N3 off3 hI3
    show wpAny _ A (assign (.Name y py) env (.ref _)) _ _ _
    refine wpAny_assign_Name (wpAny_storeName_local hy F3.ns (fun h4 n4 sb4 => ?_) hp)
    have hL₀ : h₀.get? env.locals = none := Heap.get?_none_of_le F3.above
    have F4 : Fr h₀ env.locals h4 (fun q => if q = y then some (.ref (H.objs.size + 1)) else m q) := ⟨n4, fun b o e => sb4.extBut b o (fun q => by rw [q, hL₀] at e; cases e) (F3.keep b o e), F3.above⟩
    refine ⟨_, n3.at' fun o e => sb4.extBut _ o P.CL e, fun h5 sb5 => fin _ h5 _ ys nw hI3 (fr_at F4 sb5.extBut P.CL P.C0) (fun p hp => ?_) off3.one⟩
    have q : @Ne Nat p.1 (H.objs.size + 1 + 1) := by
      rcases List.mem_cons.mp hp with rfl | hp
      · exact Nat.ne_of_lt lt2
      · exact (off3.mem p hp).2.1
    exact ⟨sb5.extBut _ _ q (sb4.extBut _ _ (N3 p hp).2.1 (N3 p hp).1), (N3 p hp).2⟩
  exact codeAny_compStart_list loop (iter_self hh (a := 0) (k := n) eI loop)
end
theorem news_swap {h₀ h : Heap} {L : Addr} {a p : Addr × Obj} {l : List (Addr × Obj)} (N : News h₀ L h (a :: p :: l)) : News h₀ L h (p :: a :: l) :=
  List.forall_mem_cons.mpr ⟨N _ (.tail _ (.head _)), List.forall_mem_cons.mpr ⟨N _ (.head _), fun q hq => N q (.tail _ (.tail _ hq))⟩⟩
theorem rep_in {c : Int} {n : Nat} (h0 : 0 ≤ c) (h1 : c < 256) : ∀ k ∈ (List.replicate n [c]).flatten, 0 ≤ k ∧ k < 256 := fun k hk => by
  obtain ⟨l, hl, hkl⟩ := List.mem_flatten.mp hk
  rw [(List.mem_replicate.mp hl).2] at hkl
  rw [List.mem_singleton.mp hkl]
  exact ⟨h0, h1⟩
theorem rep_size {c v : Int} (h : v ≤ 5) : (byteArr (List.replicate v.toNat [c]).flatten).size ≤ 5 := by
  rw [byteArr_size]
  simp
  omega
theorem own_new {own : List (Addr × Obj)} {a b c d e f c' : Addr} (h : OwnOff own [a, b, c, d, e, f]) (hc : ∀ p ∈ own, @Ne Nat p.1 c') : OwnOff own [a, b, c', d, e, f] := fun p hp => by
  have h' := h p hp
  simp only [List.forall_mem_cons, List.not_mem_nil, false_implies, implies_true, and_true] at h' ⊢
  exact ⟨h'.1, h'.2.1, hc p hp, h'.2.2.2⟩
theorem own_off {own : List (Addr × Obj)} {a b c d e f : Addr} (h : OwnOff own [a, b, c, d, e, f]) : OwnOff own [a] ∧ (∀ p ∈ own, @Ne Nat p.1 b) ∧ ∀ p ∈ own, @Ne Nat p.1 f :=
  ⟨fun p hp q hq => h p hp q (by rw [List.mem_singleton.mp hq]; exact .head _), fun p hp => h p hp _ (.tail _ (.head _)), fun p hp => h p hp _ (.tail _ (.tail _ (.tail _ (.tail _ (.tail _ (.head _))))))⟩
theorem filt_front (b : Array UInt8) (qs : List (Array UInt8)) : (b :: qs).filter (fun p => decide (0 < p.size)) = if 0 < b.size then b :: qs.filter (fun p => decide (0 < p.size)) else qs.filter (fun p => decide (0 < p.size)) := by
  simp only [List.filter_cons, decide_eq_true_eq]
theorem filt_back (b : Array UInt8) (qs : List (Array UInt8)) : (qs ++ [b]).filter (fun p => decide (0 < p.size)) = if 0 < b.size then qs.filter (fun p => decide (0 < p.size)) ++ [b] else qs.filter (fun p => decide (0 < p.size)) := by
  rw [List.filter_append, filt_front]
  by_cases h : 0 < b.size <;> simp [h]
theorem all_front {n : Nat} {qs : List (Array UInt8)} {b : Array UInt8} (h : ∀ q ∈ qs, q.size ≤ n) (hb : b.size ≤ n) : ∀ q ∈ b :: qs, q.size ≤ n := List.forall_mem_cons.mpr ⟨hb, h⟩
theorem all_back {n : Nat} {qs : List (Array UInt8)} {b : Array UInt8} (h : ∀ q ∈ qs, q.size ≤ n) (hb : b.size ≤ n) : ∀ q ∈ qs ++ [b], q.size ≤ n := List.forall_mem_append.mpr ⟨h, List.forall_mem_singleton.mpr hb⟩
theorem absE {α : Type} {M : Model} {A : Around} {t : Sem α} {Q : α → Shared → Prop} {E : Value → Shared → Prop} {s : Shared} (h : ∀ E', wpAny M A t Q E' s) : wpAny M A t Q E s := h E
theorem pos_of_ne {b : Array UInt8} (h : (b.toList != (List.toArray []).toList) = true) : 0 < b.size := by
  rcases Nat.eq_zero_or_pos b.size with h0 | h0
  · have e : b.toList = [] := List.eq_nil_of_length_eq_zero (by rw [Array.length_toList]; exact h0)
    rw [e] at h
    exact absurd h (by decide)
  · exact h0
theorem nil_of_eq {b : Array UInt8} (h : (b.toList != (List.toArray []).toList) = false) : ¬ 0 < b.size := by
  have e : b.toList = [] := by simpa only [bne_eq_false_iff_eq] using h
  have e2 := congrArg List.length e
  rw [Array.length_toList, List.length_nil] at e2
  omega
noncomputable abbrev full (qs : List (Array UInt8)) : List (Array UInt8) := qs.filter fun p => decide (0 < p.size)
theorem take_in {vs : List Value} {qs : List (Array UInt8)} {i : Nat} {b : Array UInt8} {t : Tok} (h : BytesAre vs (full (qs.take i))) (hb : qs[i]? = some b) (h0 : 0 < b.size) : BytesAre (vs ++ [.bytes b t]) (full (qs.take (i + 1))) := by
  rw [List.take_add_one, hb, Option.toList_some, full, filt_back, if_pos h0]
  exact h.append (.cons _ _ .nil)
theorem take_out {vs : List Value} {qs : List (Array UInt8)} {i : Nat} {b : Array UInt8} (h : BytesAre vs (full (qs.take i))) (hb : qs[i]? = some b) (h0 : ¬ 0 < b.size) : BytesAre vs (full (qs.take (i + 1))) := by
  rw [List.take_add_one, hb, Option.toList_some, full, filt_back, if_neg h0]
  exact h
/-- the tuples made so far: the places 0, 1, .. of the octets -/
def SpotsAt (fs : List (Array UInt8)) (base : List (Addr × Obj)) (c : Nat) (ys : List Value) (nw : List (Addr × Obj)) : Prop :=
  ∃ tups, nw = tups ++ base ∧ ys.length = c ∧ ∀ k, k < c → ∃ tp ti tj, ys[k]? = some (.ref tp) ∧ (tp, tupObj [.int ((place fs k).1 : Int) ti, .int ((place fs k).2 : Int) tj]) ∈ tups
theorem SpotsAt.snoc {fs : List (Array UInt8)} {base tups : List (Addr × Obj)} {c i j : Nat} {ys : List Value} {tp : Addr} {ti tj : Tok} (hl : ys.length = c) (h : ∀ k, k < c → ∃ tp ti tj, ys[k]? = some (.ref tp) ∧ (tp, tupObj [.int ((place fs k).1 : Int) ti, .int ((place fs k).2 : Int) tj]) ∈ tups)
    (hp : place fs c = (i, j)) : SpotsAt fs base (c + 1) (ys ++ [.ref tp]) ((tp, tupObj [.int (i : Int) ti, .int (j : Int) tj]) :: (tups ++ base)) := by
  refine ⟨(tp, _) :: tups, rfl, by rw [List.length_append, hl]; rfl, fun k hk => ?_⟩
  rcases Nat.lt_or_ge k c with h1 | h1
  · obtain ⟨a, b, d, e1, e2⟩ := h k h1
    exact ⟨a, b, d, by rw [List.getElem?_append_left (by omega)]; exact e1, .tail _ e2⟩
  · have e : k = c := by omega
    subst e
    refine ⟨tp, ti, tj, by rw [← hl, List.getElem?_concat_length], ?_⟩
    rw [hp]
    exact .head _
theorem place_off : ∀ (fs : List (Array UInt8)) (i j : Nat), j < (fs.getD i #[]).size → place fs ((cat (fs.take i)).length + j) = (i, j)
  | [], i, j, h => by simp at h
  | p :: r, 0, j, h => by
    simp only [List.getD_cons_zero] at h
    simp only [List.take_zero, cat_nil, List.length_nil, Nat.zero_add, place]
    rw [if_pos h]
  | p :: r, i + 1, j, h => by
    have ih := place_off r i j (by simpa using h)
    have e : (cat ((p :: r).take (i + 1))).length + j = p.size + ((cat (r.take i)).length + j) := by
      simp only [List.take_succ_cons, cat_cons, List.length_append, Array.length_toList]
      omega
    rw [e, place, if_neg (by omega), Nat.add_sub_cancel_left, ih]
theorem off_step {fs : List (Array UInt8)} {i : Nat} (h : i < fs.length) : (cat (fs.take (i + 1))).length = (cat (fs.take i)).length + (fs.getD i #[]).size := by
  rw [cat_take_succ (List.getElem?_eq_getElem h)]
  simp [List.getD, h]
theorem off_max {fs : List (Array UInt8)} (hz : (cat fs).length ≤ 30) (i j : Nat) (hi : i < fs.length) (hj : j < (fs.getD i #[]).size) : (cat (fs.take i)).length + j ≤ sizeLine := by
  have h1 := cat_take_le fs (i + 1)
  rw [off_step hi] at h1
  rw [sizeLine_eq]
  omega
theorem SpotsAt.zero {fs : List (Array UInt8)} {base : List (Addr × Obj)} : SpotsAt fs base (cat (fs.take 0)).length [] base := ⟨[], rfl, rfl, fun k hk => absurd hk (Nat.not_lt_zero k)⟩
theorem getD_at {fs : List (Array UInt8)} {i : Nat} (h : i < fs.length) : fs.getD i #[] = fs[i] := by simp [List.getD, h]
theorem size_at {fs : List (Array UInt8)} {i : Nat} (h : i < fs.length) {k : Nat} (hz : (cat fs).length ≤ k) : fs[i].size ≤ k := Nat.le_trans (part_le (List.getElem?_eq_getElem h)) hz
theorem place_end : ∀ (fs : List (Array UInt8)) (k : Nat), (cat fs).length ≤ k → place fs k = (fs.length, 0)
  | [], _, _ => rfl
  | p :: r, k, h => by
    rw [cat_cons, List.length_append, Array.length_toList] at h
    rw [place, if_neg (by omega), place_end r (k - p.size) (by omega)]
    rfl
theorem mem_in {h₀ hh : Heap} {L : Addr} {p q : Addr × Obj} {l own : List (Addr × Obj)} (h : p ∈ l) (_ : News h₀ L hh ((q :: l) ++ own)) : p ∈ (q :: l) ++ own := List.mem_append_left _ (.tail _ h)
theorem chain_in {h₀ hh : Heap} {L x : Addr} {q : Addr × Obj} {l own own' : List (Addr × Obj)} {fs : List (Array UInt8)} (h : ChainAt l x fs) (_ : News h₀ L hh ((q :: (l ++ own')) ++ own)) : ChainAt ((q :: (l ++ own')) ++ own) x fs := h.mono fun p hp => List.mem_append_left _ (.tail _ (List.mem_append_left _ hp))
theorem head_in {h₀ hh : Heap} {L : Addr} {p : Addr × Obj} {l : List (Addr × Obj)} (_ : News h₀ L hh (p :: l)) : p ∈ p :: l := .head _
theorem pick_len {α : Type} {a z : Int} {n N : Nat} {ps : List α} (h : ps.length = min (a + z).toNat N - min a.toNat N) (hN : N = n) (h0 : 0 ≤ a) (h1 : a ≤ n) (h2 : 0 ≤ z) (h3 : n ≤ 30) :
    ∃ k : Nat, ps.length = k ∧ k ≤ 30 ∧ ((k : Int) = z ↔ (0 ≤ a ∧ 0 ≤ z ∧ a + z ≤ (n : Int))) := by
  subst hN
  obtain ⟨i, rfl⟩ := Int.eq_ofNat_of_zero_le h0
  obtain ⟨j, rfl⟩ := Int.eq_ofNat_of_zero_le h2
  replace h1 : i ≤ N := Int.ofNat_le.mp h1
  replace h : ps.length = min (i + j) N - min i N := h
  rw [Nat.min_eq_left h1] at h
  refine ⟨_, h, Nat.le_trans (Nat.sub_le _ _) (Nat.le_trans (Nat.min_le_right _ _) h3), ?_⟩
  rcases Nat.lt_or_ge N (i + j) with h4 | h4
  · rw [Nat.min_eq_right (Nat.le_of_lt h4)]
    exact iff_of_false (fun e => Nat.ne_of_lt h4 (by rw [← Int.ofNat.inj e, Nat.add_sub_cancel' h1])) fun q => Nat.not_le_of_lt h4 (Int.ofNat_le.mp q.2.2)
  · rw [Nat.min_eq_left h4, Nat.add_sub_cancel_left]
    exact iff_of_true rfl ⟨h0, h2, Int.ofNat_le.mpr h4⟩
theorem over_no {a z : Int} {n : Nat} (h : ¬ a ≤ (n : Int)) : decide (a ≤ (n : Int)) = decide (0 ≤ a ∧ 0 ≤ z ∧ a + z ≤ (n : Int)) :=
  decide_eq_decide.mpr (iff_of_false h fun q => h (Int.le_trans (Int.le_add_of_nonneg_right q.2.1) q.2.2))

set_option maxHeartbeats 4000000 in
theorem octets_spec {w : World} {mean : ExcName → Option Value} {mg mb : Str → Option Value} {cs : Scope} {outer : List Env} {A₀ : Around} {base h₀ : Heap} (C : Cx w mean mg mb cs outer A₀ base h₀)
    {dp un : Nat} {gd : Option (List Code)} {cn : Str} {a : Addr} {ccd : Value} {cl : List (Str × Addr)} {L : Addr} {m : Str → Option Value} {s : Shared} {Q E : Value → Shared → Prop}
    (hd : dp + 5 < recursionLimit) (F : Fr h₀ L s.heap m)
    {x : Addr} {ps : List (Array UInt8)} {news : List (Addr × Obj)}
    (N : News h₀ L s.heap news) (hc : ChainAt news x ps) (hz : (cat ps).length ≤ 100000)
    (ret : ∀ h' t tk', Fr h₀ L h' m → News h₀ L h' news → Q (.bytes (cat ps).toArray t) { s with heap := h', toks := tk' }) :
    wpAny (model PySem.Challenge.rw_xw0333_02.row.prog w) (ktrTop dp un gd cn cs L a ccd cl outer) (call (.ref 100) [.ref x]) Q E s := by
  obtain ⟨B, X, T, hk⟩ := C
  refine hc.elim ?_
  intro dx hsh tk0 pl vs nn hx hdx hpl hb
  refine wpAny_call ?_
  k_dflt cell_enter
  rename Fr _ _ _ _ => F9
  revert F9
  show let m9 : Str → Option Value := _; Fr _ _ _ m9 → _
  intro m9 F9
  k_steps
  refine ⟨?_⟩
  rename News _ _ _ _ => N1
  refine join_bytes (vs := vs) (ps := ps) ⟨_, (N1 _ hpl).1, rfl, nn, rfl⟩ hb (Nat.le_trans hz (by decide)) ?_
  intro t k
  k_steps
  exact ret _ _ _ (by assumption) (by assumption)
structure RowSt where
  oc : Obj
  lr : Addr
  ws : List Value
  nr : Nat
  vs : List Value
  nn : Nat
  qs : List (Array UInt8)
  x : Int
  y : Int
  tx : Tok
  ty : Tok
noncomputable def RowSt.led (c : RowSt) (cell x dx D src : Addr) (hsh : Int) (tk : Tok) : List (Addr × Obj) :=
  [(src, listOf #[.int c.x c.tx, .int c.y c.ty] 0), (cell, c.oc), (c.lr, listOf c.ws.toArray c.nr), (x, instObj 244 dx), (dx, chainDict hsh tk D), (D, listOf c.vs.toArray c.nn)]
structure RowSt.Ok (src D : Addr) (c : RowSt) (i : Nat) : Prop where
  ho : c.oc.data = .cell (some (.ref c.lr))
  hw : BytesAre c.ws c.qs
  hv : BytesAre c.vs (c.qs.filter fun p => decide (0 < p.size))
  hn : c.qs.length = i
  h5 : ∀ q ∈ c.qs, q.size ≤ 5
  hx : 0 ≤ c.x
  hy : 0 ≤ c.y
  hy' : c.y < 2147483647
  l1 : @Ne Nat c.lr src
  l2 : @Ne Nat c.lr D
theorem five_mem {P : Prop} (a b c d e : Addr × Obj) (k : ∀ r : List (Addr × Obj), a ∈ r → b ∈ r → c ∈ r → d ∈ r → e ∈ r → [a, b, c, d, e] = r → P) : P :=
  k _ (.head _) (.tail _ (.head _)) (.tail _ (.tail _ (.head _))) (.tail _ (.tail _ (.tail _ (.head _)))) (.tail _ (.tail _ (.tail _ (.tail _ (.head _))))) rfl
theorem name_led {P : Prop} (a : Addr × Obj) (l : List (Addr × Obj)) (k : ∀ r : List (Addr × Obj), a ∈ r → (∀ p ∈ l, p ∈ r) → a :: l = r → P) : P := k _ (.head _) (fun _ hp => .tail _ hp) rfl

set_option maxHeartbeats 8000000 in
theorem law2 : PySem.Challenge.rw_xw0333_02.Holds := by
  refine hd2 ?_
  w_strict (k_go0; (all_goals try k_fold); skip)
  rename IntsAre _ _ => hI
  rename Heap.IsList _ _ _ => hL
  rename ¬ ((63 : Nat) : Int) < _ => hlen
  rename Obj => oc
  rename oc.data = _ => hocd
  rename Shared => s₁
  rename World => w
  replace hocd : oc.data = .cell none := hocd
  rename Fr _ _ _ _ => F0
  revert F0
  show let m0 : Str → Option Value := _; Fr _ _ _ m0 → _
  intro m0 F0
  k_steps
  refine ⟨?_⟩
  k_dflt (refine' chain_spec (ps := [#[97, 98], #[99]]) ⟨?c1, ?c2, ?c3, ?c4⟩ ?hd ?F ?N ?m (.cons _ _ (.cons _ _ .nil)) (by decide) (by decide) ?_; (case c1 => k_asm); (case c2 => k_asm); (case c3 => k_asm); (case c4 => exact rfl); (case F => k_asm); (case N => k_asm); (case m => exact List.mem_cons_self); (case hd => ktr_room))
  intro x dx D hsh tk ys h' tk' hys F1 N1 ne1 ne2 ne3 ne4
  k_steps
  refine ⟨?_⟩
  have hc1 := chainAt_here N1 hys
  k_dflt (refine' place_spec (k := 2) (ps := [#[97, 98], #[99]]) ⟨?c1, ?c2, ?c3, ?c4⟩ ?hd ?F N1 hc1 (by decide) (by decide) (by decide) ?_; (case c1 => k_asm); (case c2 => k_asm); (case c3 => k_asm); (case c4 => exact rfl); (case F => k_asm); (case hd => ktr_room))
  intro h2 tp t1 t2 tk2 F2 N2 ne5
  k_steps
  refine ⟨?_⟩
  rename News _ _ _ _ => N2
  refine ne_pair (N2 (tp, _) (.tail _ (.head _))).1 (N2 _ (.head _)).1 (by ktr_units) (by rfl) (by rfl) ?_
  k_steps
  have N3 : News _ _ _ [(s₁.heap.objs.size + 1, oc)] := News.sub N2 (by kcf_all)
  clear hc1 N2 hys ne1 ne2 ne3 ne4 ne5
  refine ⟨?_⟩
  k_dflt (refine' pool_spec ⟨?c1, ?c2, ?c3, ?c4⟩ ?hd ?F N3 hL hI ?hf ?_; (case c1 => k_asm); (case c2 => k_asm); (case c3 => k_asm); (case c4 => exact rfl); (case F => k_asm); (case hd => ktr_room); (case hf => omega))
  intro src x0 y0 tx0 ty0 h3 tk3 hx0 hy0 hy0' F3 N4 hne4
  have hne5 : @Ne Nat (s₁.heap.objs.size + 1) src := hne4 _ (.head _)
  clear N3
  k_steps
  refine ⟨?_⟩
  k_dflt (refine' chain_spec (ps := []) ⟨?c1, ?c2, ?c3, ?c4⟩ ?hd ?F ?N ?m .nil (by decide) (by decide) ?_; (case c1 => k_asm); (case c2 => k_asm); (case c3 => k_asm); (case c4 => exact rfl); (case F => k_asm); (case N => k_asm); (case m => exact List.mem_cons_self); (case hd => ktr_room))
  intro x dx D hsh tkc ys h' tk' hys F1 N1 ne1 ne2 ne3 ne4
  k_steps
  rename News _ _ _ _ => N5
  rename_i lr _ _ _ _ _ _ _ _
  rename x < lr ∧ _ => l8
  have qlc : @Ne Nat lr (s₁.heap.objs.size + 1) := Nat.ne_of_gt l8.2.2.2.2.2
  have qc := ne1 (s₁.heap.objs.size + 1, oc) (by kcf_m)
  k_dflt (refine' store_cell (c := s₁.heap.objs.size + 1) (o := oc) (v₀ := none) (rest := [(lr, listOf #[] 0), (x, instObj 244 dx), (dx, chainDict hsh tkc D), (D, LCg.lst ys), (src, listOf #[.int x0 tx0, .int y0 ty0] 0)]) ?F N5 ?c ?m ?d ?hr ?hn ?_ ?hk ?hx; (case F => k_asm); (case c => rfl); (case m => simp); (case d => exact hocd); (case hr => kcf_all); (case hn => exact List.forall_mem_cons.mpr ⟨qlc, List.forall_mem_cons.mpr ⟨Ne.symm qc.1, List.forall_mem_cons.mpr ⟨Ne.symm qc.2.1, List.forall_mem_cons.mpr ⟨Ne.symm qc.2.2, List.forall_mem_cons.mpr ⟨Ne.symm hne5, List.forall_mem_nil _⟩⟩⟩⟩⟩); (case hk => rfl); (case hx => rfl))
  intro h5 oc2 hoc2 F5 N6
  obtain ⟨q1, q2, q3⟩ := ne1 (src, _) (.tail _ (.head _))
  have q4 : @Ne Nat lr src := Nat.ne_of_gt l8.2.2.2.2.1
  have hoff6 : OwnOff [(s₁.heap.objs.size + 1, oc2), (lr, listOf #[] 0), (x, instObj 244 dx), (dx, chainDict hsh tkc D), (D, LCg.lst ys)] [src] :=
    off_cons hne5 (off_cons q4 (off_cons (Ne.symm q1) (off_cons (Ne.symm q2) (off_cons (Ne.symm q3) off_nil))))
  have N7 : News _ _ _ [(src, listOf #[.int x0 tx0, .int y0 ty0] 0), (s₁.heap.objs.size + 1, oc2), (lr, listOf #[] 0), (x, instObj 244 dx), (dx, chainDict hsh tkc D), (D, LCg.lst ys)] := News.sub N6 (by kcf_all)
  have q5 : @Ne Nat lr D := Nat.ne_of_gt l8.2.2.1
  clear N5 N6 ne1 ne2 ne3 ne4 hne4 qlc l8
  k_steps
  refine ⟨?_⟩
  refine join_int (fun n => 5 ≤ n ∧ n ≤ 7) ?_ ?_
  · have hM : PastIt := ⟨trivial⟩
    k_steps
    all_goals exact ⟨_, _, _, rfl, by decide, rfl⟩
  rintro most tm tkm ⟨hm1, hm2⟩
  k_steps
  refine ⟨?_⟩
  rename News _ _ _ _ => N8
  k_dflt (refine' take_spec ⟨?c1, ?c2, ?c3, ?c4⟩ ?hd ?F N8 hoff6 hx0 hy0 hy0' ?m1 ?m2 ?_; (case F => k_asm); (case c1 => k_asm); (case c2 => k_asm); (case c3 => k_asm); (case c4 => exact rfl); (case hd => ktr_room); (case m1 => omega); (case m2 => omega))
  intro v1 x1 y1 tv1 tx1 ty1 h9 tk9 hv0 hv1 hx1 hx1' hy1 hy1' F9 N9
  obtain ⟨n1, rfl⟩ : ∃ n : Nat, v1 = (n : Int) := ⟨v1.toNat, (Int.toNat_of_nonneg hv0).symm⟩
  k_steps
  refine ⟨?_⟩
  rename Fr _ _ _ _ => F10
  rename News _ _ _ _ => N10
  rename IsRange _ _ _ _ _ _ _ _ => R10
  with_unfolding_all refine my_range (σ := RowSt) (n := n1) (fun c => c.led (s₁.heap.objs.size + 1) x dx D src hsh tkc) (fun _ => []) [Str.ofString "part"] (fun i c => c.Ok src D i) ⟨oc2, lr, [], 0, ys, ys.length, [], x1, y1, tx1, ty1⟩ (by rfl) R10 (small_one (by decide) (by decide) (by omega) (by omega)) (rangeSize_nat _ _) F10 N10 (by kst_all) ?_ ?_ ?_
  · exact ⟨hoc2, .nil, hys, rfl, fun _ h => (nomatch h), hx1, hy1, hy1', q4, q5⟩
  · rintro i t ⟨oc3, lr3, ws, nr, vs, nn, qs, x2, y2, tx2, ty2⟩ u h tk own hi hoff ⟨ho3, hws, hvs, hqn, hq5, hx2, hy2, hy2', hl1, hl2⟩ F11 N11
    clear F10 N10 R10
    try dsimp only at ho3 hws hvs hqn hq5 hx2 hy2 hy2' hl1 hl2
    dsimp only [RowSt.led, List.map_cons, List.map_nil, List.cons_append, List.nil_append] at hoff N11
    dsimp only [kstB] at F11
    revert F11
    show let m1 : Str → Option Value := _; Fr _ _ _ m1 → _
    intro m1 F11
    k_steps
    refine ⟨?_⟩
    refine join_int (fun n => 4 ≤ n ∧ n ≤ 6) ?_ ?_
    · have hM : PastIt := ⟨trivial⟩
      k_steps
      all_goals exact ⟨_, _, _, rfl, by decide, rfl⟩
    rintro sz tsz tkz ⟨hz1, hz2⟩
    k_steps
    refine ⟨?_⟩
    rename News _ _ _ _ => N12
    rename _ ∧ _ ∧ _ => l1
    obtain ⟨hown, hofC, hofO⟩ := own_off hoff
    have hofD : ∀ p ∈ (src, listOf #[.int x2 tx2, .int y2 ty2] 0) :: (s₁.heap.objs.size + 1, oc3) :: (lr3, listOf ws.toArray nr) :: own, @Ne Nat p.1 D := List.forall_mem_cons.mpr ⟨q3, List.forall_mem_cons.mpr ⟨qc.2.2, List.forall_mem_cons.mpr ⟨hl2, hofO⟩⟩⟩
    have hoff13 := off_cons (p := (s₁.heap.objs.size + 1, oc3)) hne5 (off_cons (p := (lr3, listOf ws.toArray nr)) hl1 (off_cons (p := (x, instObj 244 dx)) (Ne.symm q1) (off_cons (p := (dx, chainDict hsh tkc D)) (Ne.symm q2) (off_cons (p := (D, listOf vs.toArray nn)) (Ne.symm q3) hown))))
    k_dflt (refine' take_spec ⟨?c1, ?c2, ?c3, ?c4⟩ ?hd ?F (news_swap N12) (off_cons (Nat.ne_of_gt l1.1) hoff13) hx2 hy2 hy2' ?m1 ?m2 ?_; (case F => k_asm); (case c1 => k_asm); (case c2 => k_asm); (case c3 => k_asm); (case c4 => exact rfl); (case hd => ktr_room); (case m1 => omega); (case m2 => omega))
    intro v3 x3 y3 tv3 tx3 ty3 h13 tk13 hv3 hv3' hx3 hx3' hy3 hy3' F13 N13
    clear N12 hx2 hy2 hy2' hx3'
    k_steps
    rename News _ _ _ _ => N14
    rename IntsAre _ (List.replicate _ _).flatten => hI14
    k_dflt (refine' KBa.make_K ?F N14 ?h ?l hI14 ?r ?n ?_; (case F => k_asm); (case h => rfl); (case l => exact ⟨_, (N14 _ (.head _)).1, rfl, _, rfl⟩); (case r => exact rep_in (by omega) (by omega)); (case n => simp; omega))
    intro h15 tk15 k15 F15 N15 _
    have hp5 := rep_size (c := 65 + (0 + (i : Int))) (v := v3) (by omega)
    generalize byteArr (List.replicate v3.toNat [65 + (0 + (i : Int))]).flatten = part at *
    clear hI14 N14 hv3 hv3'
    k_steps
    refine ⟨?_⟩
    rename News _ _ _ _ => N16
    have N17 : News _ _ _ ((src, listOf #[.int x3 tx3, .int y3 ty3] 0) :: (s₁.heap.objs.size + 1, oc3) :: (lr3, listOf ws.toArray nr) :: (x, instObj 244 dx) :: (dx, chainDict hsh tkc D) :: (D, listOf vs.toArray nn) :: own) := News.sub N16 (by kcf_all)
    clear N16
    k_dflt (refine' take_spec ⟨?c1, ?c2, ?c3, ?c4⟩ ?hd ?F N17 hoff13 hx3 hy3 hy3' (by decide) (by decide) ?_; (case F => k_asm); (case c1 => k_asm); (case c2 => k_asm); (case c3 => k_asm); (case c4 => exact rfl); (case hd => ktr_room))
    intro v4 x4 y4 tv4 tx4 ty4 h18 tk18 hv4 hv4' hx4 hx4' hy4 hy4' F18 N18
    clear N17 hx3 hy3 hy3' hx4'
    k_steps
    · refine ⟨?_⟩
      rename News _ _ _ _ => N19
      have N20 : News _ _ _ ((x, instObj 244 dx) :: (dx, chainDict hsh tkc D) :: (D, listOf vs.toArray nn) :: (src, listOf #[.int x4 tx4, .int y4 ty4] 0) :: (s₁.heap.objs.size + 1, oc3) :: (lr3, listOf ws.toArray nr) :: own) := News.sub N19 (by kcf_all)
      clear N19
      k_dflt (refine' front_spec ⟨?c1, ?c2, ?c3, ?c4⟩ ?hd ?F N20 hvs ?hl ?hz (List.forall_mem_cons.mpr (List.forall_mem_cons.mp hofD)) ?_; (case F => k_asm); (case c1 => k_asm); (case c2 => k_asm); (case c3 => k_asm); (case c4 => exact rfl); (case hd => ktr_room); (case hl => exact Nat.le_trans (List.length_filter_le _ _) (by omega)); (case hz => omega))
      intro vs' nn' h21 tk21 hvs' F21 N21
      clear N20
      k_steps
      rename News _ _ _ _ => N22
      rename x < _ ∧ _ => l22
      k_dflt (refine' cat_lists (xs := [.bytes part tk15]) (ys := ws) ?F N22 (.head _) (by kcf_m) ?kz ?_; (case F => k_asm); (case kz => rw [hws.length]; simp only [List.length_cons, List.length_nil]; omega))
      intro lr4 h23 F23 N23 l23
      k_steps
      k_dflt (refine' store_cell (c := s₁.heap.objs.size + 1) (o := oc3) (v₀ := some (.ref lr3)) (rest := (lr4, listOf (Value.bytes part tk15 :: ws).toArray 0) :: (src, listOf #[.int x4 tx4, .int y4 ty4] 0) :: (x, instObj 244 dx) :: (dx, chainDict hsh tkc D) :: (D, listOf vs'.toArray nn') :: own) ?F N23 ?kc ?km ?kd ?hr ?hn ?_ ?hk ?hx; (case F => k_asm); (case kc => rfl); (case km => kcf_m); (case kd => exact ho3); (case hr => kcf_all); (case hn => exact List.forall_mem_cons.mpr ⟨Nat.ne_of_gt (l23 (s₁.heap.objs.size + 1, oc3) (by kcf_m)), List.forall_mem_cons.mpr ⟨Ne.symm hne5, List.forall_mem_cons.mpr ⟨Ne.symm qc.1, List.forall_mem_cons.mpr ⟨Ne.symm qc.2.1, List.forall_mem_cons.mpr ⟨Ne.symm qc.2.2, hofC⟩⟩⟩⟩⟩); (case hk => rfl); (case hx => rfl))
      intro h24 oc4 hoc4 F24 N24
      k_steps
      rw [← filt_front] at hvs'
      refine ⟨my_end ⟨oc4, lr4, (Value.bytes part tk15 :: ws), 0, vs', nn', (part :: qs), x4, y4, tx4, ty4⟩ F24 N24 (by dsimp only [RowSt.led]; kcf_all) (by kcf_all) (own_new hoff fun p hp => Nat.ne_of_lt (l23 p (by kcf_m))) (by kst_all) (by simp only [m1]; kst_same) ⟨hoc4, .cons _ _ hws, hvs', by rw [List.length_cons, hqn], all_front hq5 hp5, hx4, hy4, hy4', Nat.ne_of_gt (l23 (src, _) (by kcf_m)), Nat.ne_of_gt (l23 (D, _) (by kcf_m))⟩⟩
    · refine ⟨?_⟩
      rename News _ _ _ _ => N19
      have N20 : News _ _ _ ((x, instObj 244 dx) :: (dx, chainDict hsh tkc D) :: (D, listOf vs.toArray nn) :: (src, listOf #[.int x4 tx4, .int y4 ty4] 0) :: (s₁.heap.objs.size + 1, oc3) :: (lr3, listOf ws.toArray nr) :: own) := News.sub N19 (by kcf_all)
      clear N19
      k_dflt (refine' back_spec ⟨?c1, ?c2, ?c3, ?c4⟩ ?hd ?F N20 hvs ?hl ?hz (List.forall_mem_cons.mpr (List.forall_mem_cons.mp hofD)) ?_; (case F => k_asm); (case c1 => k_asm); (case c2 => k_asm); (case c3 => k_asm); (case c4 => exact rfl); (case hd => ktr_room); (case hl => exact Nat.le_trans (List.length_filter_le _ _) (by omega)); (case hz => omega))
      intro vs' nn' h21 tk21 hvs' F21 N21
      clear N20
      k_steps
      rename News _ _ _ _ => N22
      rename x < _ ∧ _ => l22
      k_dflt (refine' cat_lists (xs := ws) (ys := [.bytes part tk15]) ?F N22 (by kcf_m) (.head _) ?kz ?_; (case F => k_asm); (case kz => rw [hws.length]; simp only [List.length_cons, List.length_nil]; omega))
      intro lr4 h23 F23 N23 l23
      k_steps
      k_dflt (refine' store_cell (c := s₁.heap.objs.size + 1) (o := oc3) (v₀ := some (.ref lr3)) (rest := (lr4, listOf (ws ++ [Value.bytes part tk15]).toArray 0) :: (src, listOf #[.int x4 tx4, .int y4 ty4] 0) :: (x, instObj 244 dx) :: (dx, chainDict hsh tkc D) :: (D, listOf vs'.toArray nn') :: own) ?F N23 ?kc ?km ?kd ?hr ?hn ?_ ?hk ?hx; (case F => k_asm); (case kc => rfl); (case km => kcf_m); (case kd => exact ho3); (case hr => kcf_all); (case hn => exact List.forall_mem_cons.mpr ⟨Nat.ne_of_gt (l23 (s₁.heap.objs.size + 1, oc3) (by kcf_m)), List.forall_mem_cons.mpr ⟨Ne.symm hne5, List.forall_mem_cons.mpr ⟨Ne.symm qc.1, List.forall_mem_cons.mpr ⟨Ne.symm qc.2.1, List.forall_mem_cons.mpr ⟨Ne.symm qc.2.2, hofC⟩⟩⟩⟩⟩); (case hk => rfl); (case hx => rfl))
      intro h24 oc4 hoc4 F24 N24
      k_steps
      rw [← filt_back] at hvs'
      refine ⟨my_end ⟨oc4, lr4, (ws ++ [Value.bytes part tk15]), 0, vs', nn', (qs ++ [part]), x4, y4, tx4, ty4⟩ F24 N24 (by dsimp only [RowSt.led]; kcf_all) (by kcf_all) (own_new hoff fun p hp => Nat.ne_of_lt (l23 p (by kcf_m))) (by kst_all) (by simp only [m1]; kst_same) ⟨hoc4, hws.append (.cons _ _ .nil), hvs', by rw [List.length_append, hqn]; rfl, all_back hq5 hp5, hx4, hy4, hy4', Nat.ne_of_gt (l23 (src, _) (by kcf_m)), Nat.ne_of_gt (l23 (D, _) (by kcf_m))⟩⟩
  · rintro ⟨oc3, lr3, ws, nr, vs, nn, qs, x2, y2, tx2, ty2⟩ u h tk ⟨ho3, hws, hvs, hqn, hq5, _, _, _, _, _⟩ F11 N11
    clear F10 N10 R10
    try dsimp only at ho3 hws hvs hqn hq5
    dsimp only [kstB] at F11
    revert F11
    show let m2 : Str → Option Value := _; Fr _ _ _ m2 → _
    intro m2 F11
    replace N11 : News _ _ _ [(s₁.heap.objs.size + 1, oc3), (lr3, listOf ws.toArray nr), (x, instObj 244 dx), (dx, chainDict hsh tkc D), (D, listOf vs.toArray nn)] := fun p hp => N11 p (.tail _ hp)
    k_steps
    refine ⟨?_⟩
    refine wpAny_Assign_Name ?_
    k_dflt (refine LCt.ListComp_T (F₀ := by k_asm) (by with_unfolding_all rfl) (by decide) (by rfl) (by decide) (by rfl) ?_)
    k_steps
    refine ⟨?_⟩
    rename Fr _ _ _ _ => F12
    rename News _ _ _ _ => N12
    have hql : qs.length ≤ 6 := by clear hv0 hx1' hx0; omega
    refine LCt.CompSrcT.ledger (by rfl) F12 N12 (.tail _ (.head _)) (by rw [sizeLine_eq, List.size_toArray, hws.length]; exact Nat.le_trans hql (by decide)) ?_
    intro gH
    refine comp_invT (fun i zs nw => nw = _ ∧ BytesAre zs (full (qs.take i))) ?_ ?_ _ 0 [] _ (Nat.zero_add _) ⟨rfl, .nil⟩
    · rintro i zs nw hi ⟨rfl, hzs⟩ v I oI Cc oC D2 m₂ h2 tk2 E2 hv hC hm2 F17 N17 off2 ne
      obtain ⟨b, t, hpb, rfl⟩ := hws.at (by simpa using hv)
      clear F12 N12 hv hi
      k_steps
      · rename (_ != _) = true => hne
        exact ⟨LCg.CompEnd.intro F17 N17 _ (by kcf_all) off2 (.inr ⟨_, .tail _ (.head _), rfl, _, rfl⟩) ⟨rfl, take_in hzs hpb (pos_of_ne hne)⟩⟩
      · rename (_ != _) = false => hne
        exact ⟨LCg.CompEnd.intro F17 N17 _ (by kcf_all) off2 (.inr ⟨_, .tail _ (.head _), rfl, _, rfl⟩) ⟨rfl, take_out hzs hpb (nil_of_eq hne)⟩⟩
    rintro zs nw ⟨rfl, hzs⟩
    intro Dz hz tkz F17 N17 offz
    rw [List.take_of_length_le (by rw [List.size_toArray, hws.length]; exact Nat.le_refl _)] at hzs
    clear F12 N12
    k_steps
    rename News _ _ _ _ => N18
    simp only [LCg.Off1] at offz
    k_dflt (refine' store_cell (c := s₁.heap.objs.size + 1) (o := oc3) (v₀ := some (.ref lr3)) (rest := [(Dz, listOf zs.toArray zs.length), (x, instObj 244 dx), (dx, chainDict hsh tkc D), (D, listOf vs.toArray nn)]) ?F N18 ?kc ?km ?kd ?hr ?hn ?_ ?hk ?hx; (case F => k_asm); (case kc => rfl); (case km => kcf_m); (case kd => exact ho3); (case hr => exact List.forall_mem_cons.mpr ⟨.head _, by kcf_all⟩); (case hn => exact List.forall_mem_cons.mpr ⟨Ne.symm offz.1, List.forall_mem_cons.mpr ⟨Ne.symm qc.1, List.forall_mem_cons.mpr ⟨Ne.symm qc.2.1, List.forall_mem_cons.mpr ⟨Ne.symm qc.2.2, List.forall_mem_nil _⟩⟩⟩⟩); (case hk => rfl); (case hx => rfl))
    intro h24 oc4 hoc4 F24 N24
    have hfl : (full qs).length ≤ 6 := Nat.le_trans (List.length_filter_le _ _) hql
    have hfz : (cat (full qs)).length ≤ 30 := by rw [full, cat_filter]; exact Nat.le_trans (cat_le hq5) (by omega)
    change BytesAre vs (full qs) at hvs
    generalize full qs = fs at *
    clear N18 offz ho3 hws hqn hq5 hql
    k_steps
    refine ⟨?_⟩
    rename Fr _ _ _ _ => F25
    rename News _ _ _ _ => N25
    refine five_mem (s₁.heap.objs.size + 1, oc4) (Dz, listOf zs.toArray zs.length) (x, instObj 244 dx) (dx, chainDict hsh tkc D) (D, listOf vs.toArray nn) ?_
    intro base hb1 hb2 hb3 hb4 hb5 hbe
    rw [hbe] at N25
    clear hbe
    have hcA : ChainAt base x fs := ⟨dx, _, _, D, vs, nn, hb3, hb4, hb5, hvs⟩
    clear hb5 hvs
    k_dflt (refine Assign_two F25 fs.length (fun i => (fs.getD i #[]).size) (fun i => (cat (fs.take i)).length) (SpotsAt fs base) (by rfl) (by with_unfolding_all rfl) (by with_unfolding_all rfl) (by decide) (by rfl) (by decide) (by rfl) (by rfl) (by decide) (by rfl) (by rfl) (by rfl) (fun _ => rfl) (fun _ _ => rfl) rfl (fun i hi => off_step hi) (off_max hfz) ?_ ?_ ?_ ?_)
    · k_steps
      refine ⟨?_⟩
      rename IsRange _ _ _ _ _ _ _ _ => R26
      exact ⟨_, _, _, _, _, _, _, rfl, rfl, R26, small_one (by decide) (by decide) (by omega) (by omega), by assumption, by assumption, SpotsAt.zero⟩
    · intro I Cc Ds i hi ys' nw oI oC m₂ h3 tk3 t3 E3 hInv hC hm2 F26 N26 off26
      obtain ⟨tups, rfl, _, _⟩ := hInv
      obtain ⟨tb, hv⟩ := hzs.get (List.getElem?_eq_getElem hi)
      have hv' : zs[((i : Int)).toNat]? = some (.bytes fs[i] tb) := hv
      have hmz' : (Dz, listOf zs.toArray zs.length) ∈ (I, oI) :: (Cc, oC) :: (Ds, LCg.lst ys') :: (tups ++ base) := .tail _ (.tail _ (.tail _ (List.mem_append_right _ hb2)))
      have hmc : (s₁.heap.objs.size + 1, oc4) ∈ (I, oI) :: (Cc, oC) :: (Ds, LCg.lst ys') :: (tups ++ base) := .tail _ (.tail _ (.tail _ (List.mem_append_right _ hb1)))
      have hbs := size_at hi hfz
      rw [getD_at hi]
      generalize fs[i] = b at *
      clear F25 N25 hv hfz
      k_steps
      refine ⟨?_⟩
      rename IsRange _ _ _ _ _ _ _ _ => R26
      exact ⟨_, _, _, _, _, _, _, rfl, rfl, R26, small_one (by decide) (by decide) (by omega) (by omega), by assumption, by assumption, fun p hp => hp⟩
    · intro I Cc Ds i j hi hj ys' nw J oJ oI oC m₂ h3 tk3 t3 u3 E3 hInv hC hm2 hm3 F26 N26 off26 off27
      obtain ⟨tups, rfl, hyl, hsp⟩ := hInv
      have hpl := place_off fs i j hj
      clear F25 N25
      k_steps
      refine ⟨?_⟩
      rename News _ _ _ _ => N30
      rename J < _ ∧ _ => l30
      exact LCg.CompEnd.intro (by assumption) N30 ((I, oI) :: (_, _) :: (tups ++ base)) (by kcf_all) ⟨off26.1, ⟨Nat.ne_of_gt l30.1, Nat.ne_of_gt l30.2.1, Nat.ne_of_gt l30.2.2.1⟩, off26.2⟩ trivial ⟨_, rfl, ⟨⟨Nat.ne_of_gt l30.2.2.2.1, Nat.ne_of_gt l30.2.1, Nat.ne_of_gt l30.2.2.1⟩, off27⟩, SpotsAt.snoc hyl hsp hpl⟩
    · intro Ds h30 tk30 ys' nw hInv F30 N30 off30
      obtain ⟨tups, rfl, hyl, hsp⟩ := hInv
      rw [List.take_length] at hyl hsp
      refine name_led (Ds, listOf ys'.toArray ys'.length) (tups ++ base) ?_
      intro led hs0 hsub hle
      have N30' : News _ _ _ ((Ds, listOf ys'.toArray ys'.length) :: (tups ++ base)) := N30
      rw [hle] at N30'
      clear N30
      replace hsp : ∀ k, k < (cat fs).length → ∃ tp ti tj, ys'[k]? = some (.ref tp) ∧ (tp, tupObj [.int ((place fs k).1 : Int) ti, .int ((place fs k).2 : Int) tj]) ∈ led := fun k hk => by
        obtain ⟨a, b, c, e1, e2⟩ := hsp k hk
        exact ⟨a, b, c, e1, hsub _ (List.mem_append_left _ e2)⟩
      replace hb1 := hsub _ (List.mem_append_right _ hb1)
      replace hb2 := hsub _ (List.mem_append_right _ hb2)
      replace hb3 := hsub _ (List.mem_append_right _ hb3)
      replace hb4 := hsub _ (List.mem_append_right _ hb4)
      replace hcA := hcA.mono fun p hp => hsub p (List.mem_append_right _ hp)
      clear F25 N25 off30 hle hsub
      show wpAny _ _ _ _ _ _
      k_steps
      refine ⟨?_⟩
      rename Fr _ _ _ _ => F31
      rename News _ _ _ _ => N31
      rename IsRange _ _ _ _ _ _ _ _ => R31
      with_unfolding_all refine my_range (σ := Unit) (n := (cat fs).length + 3) (fun _ => led) (fun _ => []) [] (fun _ _ => True) () (by rfl) R31 (small_one (by decide) (by decide) (by omega) (by omega)) (by rw [rangeSize_nat]; congr 1) F31 N31 (by kst_all) trivial ?_ ?_
      · intro i t _ u h tk own hi hoff _ F32 N32
        clear F31 N31 R31
        replace hs0 : _ ∈ led ++ own := List.mem_append_left _ hs0
        replace hb1 : _ ∈ led ++ own := List.mem_append_left _ hb1
        replace hb2 : _ ∈ led ++ own := List.mem_append_left _ hb2
        replace hb3 : _ ∈ led ++ own := List.mem_append_left _ hb3
        replace hb4 : _ ∈ led ++ own := List.mem_append_left _ hb4
        have e0 : (0 : Int) + (i : Int) = (i : Int) := Int.zero_add _
        rw [e0] at F32
        dsimp only [kstB] at F32
        revert F32
        show let m3 : Str → Option Value := _; Fr _ _ _ m3 → _
        intro m3 F32
        k_steps
        refine ⟨?_⟩
        k_dflt (refine' place_spec (k := i) (ps := fs) ⟨?c1, ?c2, ?c3, ?c4⟩ ?hd F32 N32 (hcA.mono fun p hp => List.mem_append_left _ hp) (Nat.le_trans hfz (by decide)) (Nat.le_trans hfl (by decide)) (Nat.lt_trans hi (by omega)) ?_; (case c1 => k_asm); (case c2 => k_asm); (case c3 => k_asm); (case c4 => exact rfl); (case hd => ktr_room))
        intro h33 tp ti tj tk33 F33 N33 _
        clear F32 N32 hb3 hb4
        replace hs0 : _ ∈ (tp, tupObj [.int ((place fs i).1 : Int) ti, .int ((place fs i).2 : Int) tj]) :: (led ++ own) := .tail _ hs0
        replace hb1 : _ ∈ (tp, tupObj [.int ((place fs i).1 : Int) ti, .int ((place fs i).2 : Int) tj]) :: (led ++ own) := .tail _ hb1
        replace hb2 : _ ∈ (tp, tupObj [.int ((place fs i).1 : Int) ti, .int ((place fs i).2 : Int) tj]) :: (led ++ own) := .tail _ hb2
        k_steps
        refine ⟨?_⟩
        have hM : PastIt := ⟨trivial⟩
        rcases Nat.lt_or_ge i (cat fs).length with hlt | hge
        · obtain ⟨ts, t1, t2, hs1, hs2⟩ := hsp i hlt
          have hs3 : ys'[((i : Int)).toNat]? = some (.ref ts) := hs1
          k_steps
          refine ⟨?_⟩
          rename News _ _ _ _ => N34
          refine ne_pair (N34 (tp, _) (.head _)).1 (N34 (ts, _) (.tail _ (List.mem_append_left _ hs2))).1 (by ktr_units) rfl rfl ?_
          k_steps
          refine ⟨?_⟩
          rename News _ _ _ _ => N35
          exact my_end () (by assumption) N35 (fun p hp => .tail _ (List.mem_append_left _ hp)) (fun p hp => .tail _ (List.mem_append_right _ hp)) hoff (by kst_all) (by simp only [m3]; kst_same) trivial
        · have hpe := place_end fs i hge
          k_steps
          refine ⟨?_⟩
          rename News _ _ _ _ => N34
          refine ne_pair (N34 (tp, _) (.tail _ (.head _))).1 (N34 _ (.head _)).1 (by ktr_units) (by rw [hpe]) (by rw [hpe]; rfl) ?_
          k_steps
          refine ⟨?_⟩
          rename News _ _ _ _ => N35
          exact my_end () (by assumption) N35 (fun p hp => .tail _ (.tail _ (List.mem_append_left _ hp))) (fun p hp => .tail _ (.tail _ (List.mem_append_right _ hp))) hoff (by kst_all) (by simp only [m3]; kst_same) trivial
      intro _ u h tk _ F32 N32
      clear F31 N31 R31 hsp
      dsimp only [kstB] at F32
      revert F32
      show let m4 : Str → Option Value := _; Fr _ _ _ m4 → _
      intro m4 F32
      k_steps
      refine ⟨?_⟩
      rename Fr _ _ _ _ => F31
      rename News _ _ _ _ => N31
      rename IsRange _ _ _ _ _ _ _ _ => R31
      with_unfolding_all refine my_range (σ := Unit) (a₀ := -1) (n := (cat fs).length + 3) (fun _ => led) (fun _ => []) [Str.ofString "size", Str.ofString "is_due"] (fun _ _ => True) () (by rfl) R31 (small_one (by decide) (by decide) (by omega) (by omega)) (by rw [rangeSize_nat]; congr 1) F31 N31 (by kst_all) trivial ?_ ?_
      · intro i t _ u h tk own hi hoff _ F33 N33
        clear F31 N31 R31
        replace hs0 : _ ∈ led ++ own := List.mem_append_left _ hs0
        generalize hat : (-1 : Int) + (i : Int) = at9 at F33
        have hat0 : -1 ≤ at9 := by omega
        have hat1 : at9 ≤ 40 := by clear hb1 hb2; omega
        dsimp only [kstB] at F33
        revert F33
        show let m5 : Str → Option Value := _; Fr _ _ _ m5 → _
        intro m5 F33
        k_steps
        refine ⟨?_⟩
        rename Fr _ _ _ _ => F34
        rename News _ _ _ _ => N34
        rename Addr => l40
        with_unfolding_all refine my_list (σ := Unit) (l := l40) (vs := [_, _, _, _, _]) (nn := 0) (fun _ => (l40, _) :: (led ++ own)) (fun _ => []) [Str.ofString "is_due"] (fun _ _ => True) () (by rfl) (fun _ => List.mem_cons_self) F34 N34 (by kst_all) trivial ?_ ?_
        · intro j v _ u2 h40 tk40 own2 hv hoff2 _ F35 N35
          obtain ⟨z, tz, rfl, hz0, hz1⟩ := five (lo := -50) (hi := 50) hv ⟨by decide, by decide⟩ ⟨by decide, by decide⟩ ⟨by decide, by decide⟩ ⟨by omega, by omega⟩ ⟨by omega, by omega⟩
          replace hs0 := mem_in hs0 N35
          replace hcA := chain_in hcA N35
          clear hv N34 F34 hi hat
          dsimp only [kstB] at F35
          revert F35
          show let m6 : Str → Option Value := _; Fr _ _ _ m6 → _
          intro m6 F35
          k_steps
          refine ⟨?_⟩
          refine join_bool F35 N35 (decide (0 ≤ at9 ∧ 0 ≤ z ∧ at9 + z ≤ ((cat fs).length : Int))) ?_ ?_
          · have hM : PastIt := ⟨trivial⟩
            k_steps
            · refine ⟨?_⟩
              rename Fr _ _ _ _ => F37
              rename News _ _ _ _ => N37
              refine slice_spots (s := ⟨_, _, _, _, _⟩) F37 N37 hs0 (by omega) (by omega) (by omega) ?_
              intro D5 h5 ps hps F38 N38
              obtain ⟨kp, hps, hp30, hiff⟩ := pick_len hps hyl (by assumption) (by assumption) (by assumption) hfz
              have hmD := head_in N38
              k_steps
              exact ⟨_, _, congrArg Value.bool (decide_eq_decide.mpr hiff), rfl, by assumption, News.tail (by assumption)⟩
            all_goals refine ⟨_, _, congrArg Value.bool (by first | exact over_no (by assumption) | exact decide_eq_decide.mpr (by omega) | exact (decide_eq_false (by omega)).symm), rfl, by assumption, by assumption⟩
          · intro h41 k41 F41 N41
            k_steps
            refine ⟨?_⟩
            k_dflt (refine' islet_spec (ps := fs) ⟨?c1, ?c2, ?c3, ?c4⟩ ?hd ?F ?N hcA (Nat.le_trans hfz (by decide)) hat0 (by omega) (by omega) (by omega) ?_; (case F => k_asm); (case N => k_asm); (case c1 => k_asm); (case c2 => k_asm); (case c3 => k_asm); (case c4 => exact rfl); (case hd => ktr_room))
            intro h42 tk42 F42 N42
            k_steps
            refine ⟨?_⟩
            rename News _ _ _ _ => N43
            exact my_end () (by assumption) N43 (fun p hp => List.mem_append_left _ hp) (fun p hp => List.mem_append_right _ hp) hoff2 (by kst_all) (by simp only [m6]; kst_same) trivial
        · intro _ u3 h43 tk43 _ F43 N43
          clear F34 N34
          dsimp only [kstB] at F43
          revert F43
          show let m7 : Str → Option Value := _; Fr _ _ _ m7 → _
          intro m7 F43
          show wpAny _ _ _ _ _ _
          k_steps
          refine ⟨?_⟩
          rename News _ _ _ _ => N44
          exact my_end () (by assumption) N44 (fun p hp => .tail _ (List.mem_append_left _ hp)) (fun p hp => .tail _ (List.mem_append_right _ hp)) hoff (by kst_all) (by simp only [m7, m5]; kst_same) trivial
      intro _ u h tk _ F33 N33
      clear F31 N31 R31
      dsimp only [kstB] at F33
      revert F33
      show let m8 : Str → Option Value := _; Fr _ _ _ m8 → _
      intro m8 F33
      show wpAny _ _ _ _ _ _
      k_steps
      refine ⟨?_⟩
      k_dflt (refine' octets_spec (ps := fs) ⟨?c1, ?c2, ?c3, ?c4⟩ ?hd ?F ?N hcA (Nat.le_trans hfz (by decide)) ?_; (case F => k_asm); (case N => k_asm); (case c1 => k_asm); (case c2 => k_asm); (case c3 => k_asm); (case c4 => exact rfl); (case hd => ktr_room))
      intro h44 t44 tk44 F44 N44
      k_steps
      refine ⟨?_⟩
      rename News _ _ _ _ => N45
      refine join_bytes (vs := zs) (ps := fs) ⟨_, (N45 _ hb2).1, rfl, zs.length, rfl⟩ hzs (Nat.le_trans hfz (by decide)) ?_
      intro t45 k45
      k_steps
end Mine
theorem PySem.Challenge.cw_xw0333_02_holds : PySem.Challenge.rw_xw0333_02.Holds := by
  exact Mine.law2
