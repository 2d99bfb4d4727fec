import PyProof.Rows.All
import Wide.All
import OpenK.AllK
import Wide.FinOn
import PySem.Challenge.RW_nu0135_01
open PySem PySem.W PySem.Spec PySem.Calls PyProof.Rows
set_option Elab.async false
set_option maxRecDepth 100000
set_option maxHeartbeats 1500000
set_option linter.unusedSimpArgs false
set_option linter.unusedVariables false
namespace Mine
section
local macro_rules | `(tactic| o_head $H:term) => `(tactic| exact False.elim ‹False›)
theorem hd : True := by
  have f : False → PySem.Challenge.rw_nu0135_01.row.Holds := by
    intro no
    k_head
  trivial
end
local macro_rules | `(tactic| walk_at $s:str) => do let n := Lean.Syntax.mkStrLit ("my " ++ s.getString); `(tactic| k_extra $n)
theorem layNF : True := by
  k_with_none
  exact True.intro

-- P00: bytes kept as byteArr of a list of ints; the rules for them
section
theorem in_nil : KBa.In [] := fun _ h => nomatch h
theorem in_cons {n : Int} {l : List Int} (h0 : 0 ≤ n) (h1 : n < 256) (h : KBa.In l) : KBa.In (n :: l) := fun k hk => by
  rcases List.mem_cons.mp hk with rfl | hk
  · exact ⟨h0, h1⟩
  · exact h k hk
theorem in_app {a b : List Int} (ha : KBa.In a) (hb : KBa.In b) : KBa.In (a ++ b) := fun k hk => (List.mem_append.mp hk).elim (ha k) (hb k)
theorem in_take {a : List Int} {n : Nat} (ha : KBa.In a) : KBa.In (a.take n) := fun k hk => ha k (List.mem_of_mem_take hk)
theorem in_drop {a : List Int} {n : Nat} (ha : KBa.In a) : KBa.In (a.drop n) := fun k hk => ha k (List.mem_of_mem_drop hk)
theorem in_rep {n : Nat} : KBa.In (List.replicate n 0) := fun k hk => by
  rw [List.eq_of_mem_replicate hk]; exact ⟨by decide, by decide⟩
theorem in_getD {a : List Int} (ha : KBa.In a) (i : Nat) : 0 ≤ a.getD i 0 ∧ a.getD i 0 < 256 := KBw.getD_in ha

theorem bInts_arr {ns : List Int} (h : KBa.In ns) : KBw.bInts (byteArr ns) = ns := KBa.ints_make h
theorem arr_app (a b : List Int) : byteArr a ++ byteArr b = byteArr (a ++ b) := by
  unfold byteArr
  rw [List.append_toArray, List.map_append]
theorem arr_inj {a b : List Int} (ha : KBa.In a) (hb : KBa.In b) (e : byteArr a = byteArr b) : a = b := by
  have := congrArg KBw.bInts e
  rwa [bInts_arr ha, bInts_arr hb] at this
theorem arr_bInts (b : Array UInt8) : byteArr (KBw.bInts b) = b := by
  unfold byteArr KBw.bInts
  rw [List.map_map]
  have e : (fun n : Int => n.toNat.toUInt8) ∘ (fun c : UInt8 => (c.toNat : Int)) = id := by
    funext c
    show ((c.toNat : Int).toNat).toUInt8 = c
    rw [Int.toNat_natCast]
    exact UInt8.ofNat_toNat
  rw [e, List.map_id]
theorem arr_picked {ns : List Int} (h : KBa.In ns) (lo hi : Option Int) :
    KBy.picked (byteArr ns) lo hi = byteArr ((ns.drop (lo.elim 0 (clipAt ns.length))).take (hi.elim ns.length (clipAt ns.length) - lo.elim 0 (clipAt ns.length))) := by
  have := KBc.ints_picked (bInts_arr h) lo hi
  rw [← this, arr_bInts]
theorem toNat_s1 {q : Int} (h : 0 ≤ q) : (q + 1).toNat = q.toNat + 1 := Int.toNat_add h (by decide)
theorem toNat_s2 {q : Int} (h : 0 ≤ q) : (q + 2).toNat = q.toNat + 2 := Int.toNat_add h (by decide)
theorem clip_pos (n : Nat) {k : Int} (h : 0 ≤ k) : clipAt n k = min k.toNat n := by
  obtain ⟨j, rfl⟩ := Int.eq_ofNat_of_zero_le h
  unfold clipAt
  have e : (min (j : Int) (n : Int)) = ((min j n : Nat) : Int) := by
    rcases Nat.le_total j n with h | h
    · rw [Int.min_eq_left (Int.ofNat_le.mpr h), Nat.min_eq_left h]
    · rw [Int.min_eq_right (Int.ofNat_le.mpr h), Nat.min_eq_right h]
  rw [if_neg (Int.not_lt.mpr h), e, Int.max_eq_right (Int.natCast_nonneg _), Int.toNat_natCast, Int.toNat_natCast]
theorem beq_arr {a b : List Int} (ha : KBa.In a) (hb : KBa.In b) : ((byteArr a).toList == (byteArr b).toList) = decide (a = b) := by
  by_cases e : a = b
  · subst e; simp
  · rw [decide_eq_false e]
    rw [beq_eq_false_iff_ne]
    intro q
    exact e (arr_inj ha hb (by rw [← Array.toArray_toList (xs := byteArr a), q, Array.toArray_toList]))
end

section
variable {prog : Program} {w : World} {A : Around} {E : Value → Shared → Prop} {s : Shared} {value slice : PySem.Expr} {h₀ : Heap} {L : Addr} {m : Str → Option Value} {news : List (Addr × Obj)} {a b ns : List Int} {t u : Tok} {i j : Int}
theorem add_B {Q : Value → Shared → Prop} (hsz : a.length + b.length ≤ 16777216) (h : ∀ t' k, Q (.bytes (byteArr (a ++ b)) t') { s with toks := k }) :
    wpAny (model prog w) A (binaryOp .Add (.bytes (byteArr a) t) (.bytes (byteArr b) u)) Q E s :=
  KBy.add_bytes (by rw [byteArr_size, byteArr_size]; exact hsz) fun t' k => by rw [arr_app]; exact h t' k
theorem len_B {Q : Value → Shared → Prop} (hfit : a.length ≤ 1099511627776) (h : ∀ t' k, Q (.int (a.length : Nat) t') { s with toks := k }) :
    wpAny (model prog w) A (call (.builtin "len") [.bytes (byteArr a) t]) Q E s :=
  len_bytes (by rw [byteArr_size]; exact hfit) (by rw [byteArr_size]; exact h _ _)
theorem item_B {Q : Value → Shared → Prop} {ui : Tok} (hin : KBa.In ns) (hfit : ns.length ≤ 1099511627776) (h0 : 0 ≤ i) (h1 : i < (ns.length : Int))
    (h : ∀ t' k, 0 ≤ ns.getD i.toNat 0 → ns.getD i.toNat 0 < 256 → Q (.int (ns.getD i.toNat 0) t') { s with toks := k })
    (hs : subscripted slice false (.bytes (byteArr ns) t) (.int i ui) = operate [.bytes (byteArr ns) t, .int i ui] (getItem (.bytes (byteArr ns) t) (.int i ui)) := by with_unfolding_all rfl)
    (ht : ∀ r, letTemporaryGo value (.bytes (byteArr ns) t) r = pure () := by intro _; with_unfolding_all rfl) :
    wpAny (model prog w) A (subscriptTail value slice (.bytes (byteArr ns) t) (.int i ui)) Q E s :=
  KBw.item_K (bInts_arr hin) hfit h0 h1 h hs ht
theorem sliceTo_B {Q : Value → Shared → Prop} {tj : Tok} (hF : Fr h₀ L s.heap m) (hN : News h₀ L s.heap news) (hin : KBa.In ns) (hz : ns.length ≤ 16777216) (hj : 0 ≤ j)
    (h : ∀ h' t' k, Fr h₀ L h' m → News h₀ L h' news → Q (.bytes (byteArr (ns.take j.toNat)) t') { s with heap := h', toks := k })
    (hs : subscripted slice false (.bytes (byteArr ns) t) (.ref s.heap.objs.size) = operate [.ref s.heap.objs.size, .bytes (byteArr ns) t] (getItem (.bytes (byteArr ns) t) (.ref s.heap.objs.size)) := by with_unfolding_all rfl)
    (ht : ∀ r, letTemporaryGo value (.bytes (byteArr ns) t) r = pure () := by intro _; with_unfolding_all rfl) :
    wpAny (model prog w) A (subscriptTail value slice (.bytes (byteArr ns) t) (.ref s.heap.objs.size)) Q E { s with heap := s.heap.push { cls := .type "slice", data := .fields #[.none, .int j tj, .none] } } :=
  KBc.slice_K hF hN (bInts_arr hin) .none (.int j tj) hz (fun h' t' k F' N' _ => by
    have e : KBy.picked (byteArr ns) none (some j) = byteArr (ns.take j.toNat) := by
      rw [arr_picked hin]
      simp only [Option.elim, List.drop_zero, Nat.sub_zero]
      rw [clip_pos _ hj]
      congr 1
      by_cases hh : j.toNat ≤ ns.length
      · rw [Nat.min_eq_left hh]
      · rw [Nat.min_eq_right (by omega), List.take_of_length_le (Nat.le_refl _), List.take_of_length_le (by omega)]
    rw [e]; exact h h' t' k F' N') hs ht
theorem sliceFrom_B {Q : Value → Shared → Prop} {ti : Tok} (hF : Fr h₀ L s.heap m) (hN : News h₀ L s.heap news) (hin : KBa.In ns) (hz : ns.length ≤ 16777216) (hi : 0 ≤ i)
    (h : ∀ h' t' k, Fr h₀ L h' m → News h₀ L h' news → Q (.bytes (byteArr (ns.drop i.toNat)) t') { s with heap := h', toks := k })
    (hs : subscripted slice false (.bytes (byteArr ns) t) (.ref s.heap.objs.size) = operate [.ref s.heap.objs.size, .bytes (byteArr ns) t] (getItem (.bytes (byteArr ns) t) (.ref s.heap.objs.size)) := by with_unfolding_all rfl)
    (ht : ∀ r, letTemporaryGo value (.bytes (byteArr ns) t) r = pure () := by intro _; with_unfolding_all rfl) :
    wpAny (model prog w) A (subscriptTail value slice (.bytes (byteArr ns) t) (.ref s.heap.objs.size)) Q E { s with heap := s.heap.push { cls := .type "slice", data := .fields #[.int i ti, .none, .none] } } :=
  KBc.slice_K hF hN (bInts_arr hin) (.int i ti) .none hz (fun h' t' k F' N' _ => by
    have e : KBy.picked (byteArr ns) (some i) none = byteArr (ns.drop i.toNat) := by
      rw [arr_picked hin]
      simp only [Option.elim]
      rw [clip_pos _ hi]
      congr 1
      by_cases hh : i.toNat ≤ ns.length
      · rw [Nat.min_eq_left hh, List.take_of_length_le (by rw [List.length_drop]; omega)]
      · rw [Nat.min_eq_right (by omega), Nat.sub_self, List.take_zero, List.drop_eq_nil_of_le (by omega)]
    rw [e]; exact h h' t' k F' N') hs ht
theorem sliceMid_B {Q : Value → Shared → Prop} {ti tj : Tok} (hF : Fr h₀ L s.heap m) (hN : News h₀ L s.heap news) (hin : KBa.In ns) (hz : ns.length ≤ 16777216) (hi : 0 ≤ i) (hj : 0 ≤ j)
    (h : ∀ h' t' k, Fr h₀ L h' m → News h₀ L h' news → Q (.bytes (byteArr ((ns.take j.toNat).drop i.toNat)) t') { s with heap := h', toks := k })
    (hs : subscripted slice false (.bytes (byteArr ns) t) (.ref s.heap.objs.size) = operate [.ref s.heap.objs.size, .bytes (byteArr ns) t] (getItem (.bytes (byteArr ns) t) (.ref s.heap.objs.size)) := by with_unfolding_all rfl)
    (ht : ∀ r, letTemporaryGo value (.bytes (byteArr ns) t) r = pure () := by intro _; with_unfolding_all rfl) :
    wpAny (model prog w) A (subscriptTail value slice (.bytes (byteArr ns) t) (.ref s.heap.objs.size)) Q E { s with heap := s.heap.push { cls := .type "slice", data := .fields #[.int i ti, .int j tj, .none] } } :=
  KBc.slice_K hF hN (bInts_arr hin) (.int i ti) (.int j tj) hz (fun h' t' k F' N' _ => by
    have e : KBy.picked (byteArr ns) (some i) (some j) = byteArr ((ns.take j.toNat).drop i.toNat) := by
      rw [arr_picked hin]
      simp only [Option.elim]
      rw [clip_pos _ hi, clip_pos _ hj]
      congr 1
      rw [List.drop_take]
      by_cases hh : i.toNat ≤ ns.length
      · rw [Nat.min_eq_left hh]
        by_cases h2 : j.toNat ≤ ns.length
        · rw [Nat.min_eq_left h2]
        · rw [Nat.min_eq_right (by omega), List.take_of_length_le (by rw [List.length_drop]; omega), List.take_of_length_le (by rw [List.length_drop]; omega)]
      · rw [List.drop_eq_nil_of_le (by omega), List.drop_eq_nil_of_le (by omega), List.take_nil, List.take_nil]
    rw [e]; exact h h' t' k F' N') hs ht
theorem eq_B {Q : Value → Shared → Prop} (ha : KBa.In a) (hb : KBa.In b) (h : Q (.bool (decide (a = b))) s) : wpAny (model prog w) A (compareOp .Eq (.bytes (byteArr a) t) (.bytes (byteArr b) u)) Q E s :=
  eq_bytes (by rw [beq_arr ha hb]; exact h)
theorem ne_B {Q : Value → Shared → Prop} (ha : KBa.In a) (hb : KBa.In b) (h : Q (.bool (!decide (a = b))) s) : wpAny (model prog w) A (compareOp .NotEq (.bytes (byteArr a) t) (.bytes (byteArr b) u)) Q E s :=
  ne_bytes (by
    have e : ((byteArr a).toList != (byteArr b).toList) = !decide (a = b) := by
      show (!((byteArr a).toList == (byteArr b).toList)) = _
      rw [beq_arr ha hb]
    rw [e]; exact h)
theorem make_B {l : Addr} {vs : List Value} {Q : Value → Shared → Prop} (F : Fr h₀ L s.heap m) (N : News h₀ L s.heap news) (hh : A.handled = none) (hl : (l, listOf vs.toArray 0) ∈ news) (hi : IntsAre vs ns) (hr : KBa.In ns) (hn : ns.length ≤ 16777216)
    (h : ∀ h' t' k, Fr h₀ L h' m → News h₀ L h' news → Q (.bytes (byteArr ns) t') { s with heap := h', toks := k }) : wpAny (model prog w) A (call (.type "bytes") [.ref l]) Q E s :=
  KBa.make_K F N hh (News.isList N hl) hi hr hn fun h' t' k F' N' _ => h h' t' k F' N'
end

theorem bm_no_bytes_int : typeLookup (.type "int") "__bytes__" = pure none := by rw [typeLookup_type, builtinLookup_eq_fast]; kernel_rfl
theorem bm_yes_bytes : typeLookup (.type "bytes") "__bytes__" = pure (some (.builtin "bytes.__bytes__")) := by rw [typeLookup_type, builtinLookup_eq_fast]; kernel_rfl
section
variable {prog : Program} {w : World} {A : Around} {E : Value → Shared → Prop} {s : Shared}
theorem bm_new_int {n : Int} {t : Tok} {Q : Value → Shared → Prop} (h0 : 0 ≤ n) (h1 : n ≤ 16777216)
    (hQ : ∀ t' k, Q (.bytes (Array.replicate n.toNat 0) t') { s with toks := k }) :
    codeAny (model prog w) A (.call (.builtin "bytes.__new__") ⟨[.type "bytes", .int n t], []⟩) (wants Q E) s := by
  refine codeAny_of_tree ?_
  show wpAny _ A.in1 (do checkBuiltinCall "bytes.__new__" ⟨[.type "bytes", .int n t], []⟩; again (.builtin "bytes.__new__" ⟨[.type "bytes", .int n t], []⟩)) _ _ s
  refine wpAny_bind (wpAny_of_eq (F.bm_newCall _) (wpAny_pure ⟨plainId_quiet F.bm_plain _, codeAny_builtin F.bm_entry ?_⟩))
  rw [Around.under_plainId F.bm_plain _]
  have hT : s.TypeIs (.int n t) "int" := typeIs_int s n t
  unfold Builtin.«bytes.__new__»
  refine wpAny_bind (wpAny_of_eq (a := true) rfl ?_)
  refine bm_if_false rfl ?_
  refine wpAny_bind (wpAny_of_eq F.bm_sub ?_)
  refine bm_if_false rfl ?_
  refine wpAny_bind (wpAny_of_eq (F.bm_bind _) ?_)
  refine wpAny_bind (wpAny_of_eq (a := ()) rfl ?_)
  refine wpAny_bind (wpAny_of_eq (a := ()) rfl ?_)
  refine bm_if_false rfl ?_
  refine wpAny_bind (wpAny_specialOf hT bm_no_bytes_int ?_)
  refine wpAny_bind (wpAny_bind (wpAny_of_eq (a := none) rfl (wpAny_pure ?_)))
  refine bm_if_false rfl ?_
  refine wpAny_bind (wpAny_specialOf hT F.slot_int_index.lookup ?_)
  refine bm_if_false rfl ?_
  refine wpAny_bind (wpAny_of_eq (a := .ok n) rfl ?_)
  have hf : (!Builtin.Bytes.fitsIndex n) = false := by
    simp only [Builtin.Bytes.fitsIndex, Bool.not_eq_false', Bool.and_eq_true, decide_eq_true_eq]
    omega
  dsimp only
  refine bm_if_false hf ?_
  refine wpAny_ite (ite_neg (by omega) ?_)
  refine wpAny_ite (ite_neg (by omega) ?_)
  refine bm_if_false (KBy.tooLong_not (by omega)) ?_
  refine wpAny_bind (wpAny_rule ?_)
  refine wpAny_bind (wpAny_mkBytes ?_ (by rw [Array.size_replicate, sizeLine_eq]; omega))
  show wpAny _ _ (if (Value.type "bytes" == Value.type "bytes") = true then _ else _) _ _ _
  refine bm_if_true (by decide) ?_
  first
    | exact wpAny_pure (hQ _ _)
    | exact wpAny_bind (wpAny_pure (wpAny_pure (hQ _ _)))
theorem bm_new_bytes {b : Array UInt8} {t : Tok} {Q : Value → Shared → Prop} 
    (hQ : Q (.bytes b t) s) :
    codeAny (model prog w) A (.call (.builtin "bytes.__new__") ⟨[.type "bytes", .bytes b t], []⟩) (wants Q E) s := by
  refine codeAny_of_tree ?_
  show wpAny _ A.in1 (do checkBuiltinCall "bytes.__new__" ⟨[.type "bytes", .bytes b t], []⟩; again (.builtin "bytes.__new__" ⟨[.type "bytes", .bytes b t], []⟩)) _ _ s
  refine wpAny_bind (wpAny_of_eq (F.bm_newCall _) (wpAny_pure ⟨plainId_quiet F.bm_plain _, codeAny_builtin F.bm_entry ?_⟩))
  rw [Around.under_plainId F.bm_plain _]
  have hT : s.TypeIs (.bytes b t) "bytes" := PySem.W.typeIs_bytes s b t
  unfold Builtin.«bytes.__new__»
  refine wpAny_bind (wpAny_of_eq (a := true) rfl ?_)
  refine bm_if_false rfl ?_
  refine wpAny_bind (wpAny_of_eq F.bm_sub ?_)
  refine bm_if_false rfl ?_
  refine wpAny_bind (wpAny_of_eq (F.bm_bind _) ?_)
  refine wpAny_bind (wpAny_of_eq (a := ()) rfl ?_)
  refine wpAny_bind (wpAny_of_eq (a := ()) rfl ?_)
  refine bm_if_false rfl ?_
  refine wpAny_bind (wpAny_specialOf hT bm_yes_bytes ?_)
  dsimp only
  refine wpAny_bind (wpAny_rule ?_)
  refine wpAny_bind (wpAny_typeOf hT ?_)
  refine bm_if_true (by decide) ?_
  show wpAny _ _ (if (Value.type "bytes" == Value.type "bytes") = true then _ else _) _ _ _
  refine bm_if_true (by decide) ?_
  first
    | exact wpAny_pure hQ
    | exact wpAny_bind (wpAny_pure (wpAny_pure hQ))
theorem call_bytes_int {n : Int} {t : Tok} {Q : Value → Shared → Prop} (h0 : 0 ≤ n) (h1 : n ≤ 16777216)
    (hQ : ∀ t' k, Q (.bytes (Array.replicate n.toNat 0) t') { s with toks := k }) : wpAny (model prog w) A (call (.type "bytes") [.int n t]) Q E s := by
  refine callType_codes (Q₁ := fun obj s₁ => s₁.TypeIs obj "bytes" ∧ Q obj s₁) F.bm_called (F.bm_typeCall _) F.entry_object_init
    (bm_new_int h0 h1 fun t k => ⟨PySem.W.typeIs_bytes _ _ _, hQ t k⟩) fun obj s₁ h₁ => ?_
  exact ⟨h₁.1, F.args_object_init_2 obj _, object_init_meets F.bm_called.init.lookup F.bm_called.made (by decide) prog w A.in1 _ s₁ ⟨h₁.1, rfl, h₁.2⟩⟩
theorem call_bytes_bytes {b : Array UInt8} {t : Tok} {Q : Value → Shared → Prop} 
    (hQ : Q (.bytes b t) s) : wpAny (model prog w) A (call (.type "bytes") [.bytes b t]) Q E s := by
  refine callType_codes (Q₁ := fun obj s₁ => s₁.TypeIs obj "bytes" ∧ Q obj s₁) F.bm_called (F.bm_typeCall _) F.entry_object_init
    (bm_new_bytes ⟨PySem.W.typeIs_bytes _ _ _, hQ⟩) fun obj s₁ h₁ => ?_
  exact ⟨h₁.1, F.args_object_init_2 obj _, object_init_meets F.bm_called.init.lookup F.bm_called.made (by decide) prog w A.in1 _ s₁ ⟨h₁.1, rfl, h₁.2⟩⟩
end

section
variable {prog : Program} {w : World} {A : Around} {E : Value → Shared → Prop} {s : Shared} {a : List Int} {t : Tok} {n : Int}
theorem arr_rep (k : Nat) : byteArr (List.replicate k 0) = Array.replicate k 0 := by
  unfold byteArr
  rw [List.map_replicate]
  show (List.replicate k (0 : UInt8)).toArray = _
  simp
theorem zeros_B {Q : Value → Shared → Prop} (h0 : 0 ≤ n) (h1 : n ≤ 16777216) (h : ∀ t' k, Q (.bytes (byteArr (List.replicate n.toNat 0)) t') { s with toks := k }) :
    wpAny (model prog w) A (call (.type "bytes") [.int n t]) Q E s :=
  call_bytes_int h0 h1 fun t' k => by rw [← arr_rep]; exact h t' k
end
section
variable {prog : Program} {w : World} {A : Around} {E : Value → Shared → Prop} {s : Shared} {a b n : Int} {t u : Tok} {Q : Value → Shared → Prop}
theorem fdiv_pow (a : Int) (k : Nat) : a.fdiv (2 ^ k) = a / 2 ^ k := Int.fdiv_eq_ediv_of_nonneg _ (Int.le_of_lt (kbt_pos k))
theorem shr8 (h : Q (.int (a / 256) s.toks) { s with toks := s.toks + 1 }) : wpAny (model prog w) A (binaryOp .RShift (.int a t) (.int 8 u)) Q E s :=
  rshift_int (by decide) (by rw [show (8 : Int).toNat = 8 from rfl, fdiv_pow]; exact h)
theorem shr16 (h : Q (.int (a / 65536) s.toks) { s with toks := s.toks + 1 }) : wpAny (model prog w) A (binaryOp .RShift (.int a t) (.int 16 u)) Q E s :=
  rshift_int (by decide) (by rw [show (16 : Int).toNat = 16 from rfl, fdiv_pow]; exact h)
theorem mask8 (h : Q (.int (a % 256) s.toks) { s with toks := s.toks + 1 }) : wpAny (model prog w) A (binaryOp .BitAnd (.int a t) (.int 255 u)) Q E s :=
  and_int (by rw [show (255 : Int) = 2 ^ 8 - 1 from by decide, kbt_mask]; exact h)
theorem mask13 (h : Q (.int (a % 8192) s.toks) { s with toks := s.toks + 1 }) : wpAny (model prog w) A (binaryOp .BitAnd (.int a t) (.int 8191 u)) Q E s :=
  and_int (by rw [show (8191 : Int) = 2 ^ 13 - 1 from by decide, kbt_mask]; exact h)
theorem mask16 (h : Q (.int (a % 65536) s.toks) { s with toks := s.toks + 1 }) : wpAny (model prog w) A (binaryOp .BitAnd (.int a t) (.int 65535 u)) Q E s :=
  and_int (by rw [show (65535 : Int) = 2 ^ 16 - 1 from by decide, kbt_mask]; exact h)
theorem bit13 (h : Q (.int (a / 8192 % 2 * 8192) s.toks) { s with toks := s.toks + 1 }) : wpAny (model prog w) A (binaryOp .BitAnd (.int a t) (.int 8192 u)) Q E s :=
  and_int (by rw [show (8192 : Int) = 2 ^ 13 from by decide, kbt_bit]; exact h)
theorem bit14 (h : Q (.int (a / 16384 % 2 * 16384) s.toks) { s with toks := s.toks + 1 }) : wpAny (model prog w) A (binaryOp .BitAnd (.int a t) (.int 16384 u)) Q E s :=
  and_int (by rw [show (16384 : Int) = 2 ^ 14 from by decide, kbt_bit]; exact h)
end

-- P01: bits; the contract form; the words of the walk
section
theorem and_shifted (x : Nat) {k b : Nat} (hb : b < 2 ^ k) : (x * 2 ^ k) &&& b = 0 := by
  apply Nat.eq_of_testBit_eq
  intro i
  rw [Nat.testBit_and, Nat.zero_testBit, Nat.testBit_mul_two_pow]
  by_cases h : i < k
  · simp [Nat.not_le.mpr h]
  · rw [Nat.testBit_lt_two_pow (Nat.lt_of_lt_of_le hb (Nat.pow_le_pow_right (by decide) (Nat.le_of_not_lt h))), Bool.and_false]
theorem or_shifted {a b : Int} (k : Nat) (ha : 0 ≤ a) (hb : 0 ≤ b) (hb' : b < 2 ^ k) : Builtin.bitOr (a * 2 ^ k) b = a * 2 ^ k + b := by
  have hp := kbt_pos k
  have e : Builtin.bitAnd (a * 2 ^ k) b = 0 := by
    rw [bitAnd_pp (Int.mul_nonneg ha (Int.le_of_lt hp)) hb]
    have e1 : (a * 2 ^ k).toNat = a.toNat * 2 ^ k := by
      obtain ⟨n, rfl⟩ := Int.eq_ofNat_of_zero_le ha
      rw [← kbt_cast, ← Int.natCast_mul, Int.toNat_natCast, Int.toNat_natCast]
    rw [e1, and_shifted _ (by have := kbt_cast k; omega)]
    rfl
  rw [bitOr_and, e]
  omega
def flipBit (v : Int) (k : Nat) : Int := Builtin.bitXor v (2 ^ k)
theorem flip_tab : ∀ v : Fin 256, ∀ k : Fin 8, 0 ≤ Builtin.bitXor (v.val : Int) (2 ^ k.val) ∧ Builtin.bitXor (v.val : Int) (2 ^ k.val) < 256 ∧ (Builtin.bitXor (v.val : Int) (2 ^ k.val) = v.val + 2 ^ k.val ∨ Builtin.bitXor (v.val : Int) (2 ^ k.val) = v.val - 2 ^ k.val) := by decide +kernel
theorem flip_is {v : Int} {k : Nat} (h0 : 0 ≤ v) (h1 : v < 256) (hk : k < 8) : 0 ≤ flipBit v k ∧ flipBit v k < 256 ∧ (flipBit v k = v + 2 ^ k ∨ flipBit v k = v - 2 ^ k) := by
  obtain ⟨n, rfl⟩ := Int.eq_ofNat_of_zero_le h0
  exact flip_tab ⟨n, Int.ofNat_lt.mp h1⟩ ⟨k, hk⟩
variable {prog : Program} {w : World} {A : Around} {E : Value → Shared → Prop} {s : Shared} {a b n : Int} {t u : Tok} {Q : Value → Shared → Prop}
theorem shl8 (h0 : 0 ≤ a) (h1 : a < 2 ^ 63) (h : Q (.int (a * 256) s.toks) { s with toks := s.toks + 1 }) : wpAny (model prog w) A (binaryOp .LShift (.int a t) (.int 8 u)) Q E s :=
  lshift_int_small (by decide) (by decide) (by omega) h
theorem shl16 (h0 : 0 ≤ a) (h1 : a < 2 ^ 63) (h : Q (.int (a * 65536) s.toks) { s with toks := s.toks + 1 }) : wpAny (model prog w) A (binaryOp .LShift (.int a t) (.int 16 u)) Q E s :=
  lshift_int_small (by decide) (by decide) (by omega) h
theorem or8 (ha : 0 ≤ a) (hb : 0 ≤ b) (hb' : b < 256) (h : Q (.int (a * 256 + b) s.toks) { s with toks := s.toks + 1 }) : wpAny (model prog w) A (binaryOp .BitOr (.int (a * 256) t) (.int b u)) Q E s :=
  or_int (by rw [show (256 : Int) = 2 ^ 8 from by decide, or_shifted 8 ha hb hb']; exact h)
theorem or16 (ha : 0 ≤ a) (hb : 0 ≤ b) (hb' : b < 65536) (h : Q (.int (a * 65536 + b) s.toks) { s with toks := s.toks + 1 }) : wpAny (model prog w) A (binaryOp .BitOr (.int (a * 65536) t) (.int b u)) Q E s :=
  or_int (by rw [show (65536 : Int) = 2 ^ 16 from by decide, or_shifted 16 ha hb hb']; exact h)
theorem fdivL {k : Int} (hk : 0 < k) (hk' : k < 1073741824) (h : Q (.int (a / k) s.toks) { s with toks := s.toks + 1 }) : wpAny (model prog w) A (binaryOp .FloorDiv (.int a t) (.int k u)) Q E s :=
  floordiv_int (by omega) (by rw [Int.fdiv_eq_ediv_of_nonneg _ (Int.le_of_lt hk)]; exact h) (Or.inl (PyProof.noPylong_small (by omega)))
theorem fmodL {k : Int} (hk : 0 < k) (h : Q (.int (a % k) s.toks) { s with toks := s.toks + 1 }) : wpAny (model prog w) A (binaryOp .Mod (.int a t) (.int k u)) Q E s :=
  mod_int' (by omega) (by rw [Int.fmod_eq_emod_of_nonneg _ (Int.le_of_lt hk)]; exact h)
end

def Spec (w : World) (D : Nat) (f : Addr) (vs : List Value) (news : List (Addr × Obj)) (Ret : Value → List (Addr × Obj) → Prop) : Prop :=
  ∀ (loose : List Str) (mean : ExcName → Option Value) (mg mb : Str → Option Value)
    (dp un : Nat) (gd : Option (List Code)) (cn : Str) (cs : Scope) (a : Addr) (ccd : Value) (cl : List (Str × Addr)) (outer : List Env) (A₀ : Around) (base h₀ : Heap) (L : Addr) (m : Str → Option Value) (s : Shared) (Q E : Value → Shared → Prop),
    Below A₀ base outer h₀ → Fr h₀ L s.heap m → (hd.heap_1 w.params).In h₀ → News h₀ L s.heap news → Top topProg loose mean mg mb h₀ → cs.kind = .function → dp + D < recursionLimit → un + 8 * D < cLine →
    (∀ r news' h' tk', Ret r news' → Fr h₀ L h' m → News h₀ L h' news' → Q r { s with heap := h', toks := tk' }) →
    wpAny (model Challenge.rw_nu0135_01.row.prog w) (ktrTop dp un gd cn cs L a ccd cl outer) (call (.ref f) vs) Q E s
section
variable {w : World} {D : Nat} {f : Addr} {vs : List Value} {news : List (Addr × Obj)} {Ret : Value → List (Addr × Obj) → Prop}
  {loose : List Str} {mean : ExcName → Option Value} {mg mb : Str → Option Value}
  {dp un : Nat} {gd : Option (List Code)} {cn : Str} {cs : Scope} {a : Addr} {ccd : Value} {cl : List (Str × Addr)} {outer : List Env} {A₀ : Around} {base h₀ : Heap} {L : Addr} {m : Str → Option Value} {s : Shared} {Q E : Value → Shared → Prop}
theorem spec_use (B : Below A₀ base outer h₀) (F : Fr h₀ L s.heap m) (X : (hd.heap_1 w.params).In h₀) (N : News h₀ L s.heap news) (T : Top topProg loose mean mg mb h₀) (hk : cs.kind = .function) (hd : dp + D < recursionLimit) (hu : un + 8 * D < cLine)
    (C : Spec w D f vs news Ret) (ret : ∀ r news' h' tk', Ret r news' → Fr h₀ L h' m → News h₀ L h' news' → Q r { s with heap := h', toks := tk' }) :
    wpAny (model Challenge.rw_nu0135_01.row.prog w) (ktrTop dp un gd cn cs L a ccd cl outer) (call (.ref f) vs) Q E s := C _ _ _ _ _ _ _ _ _ _ _ _ _ _ _ _ _ _ _ _ _ B F X N T hk hd hu ret
end
theorem callWith_0 {M : Model} {A : Around} {E : Value → Shared → Prop} {s : Shared} {K : Frag} {env : Env} {pos : Pos} {f : Value} {first : List Value} {Q : Value → Shared → Prop} (hk : keepIn K f = true) (X : K.In s.heap) (h : wpAny M A (call f (first ++ [])) Q E s) :
    wpAny M A (callWith pos f first (backTo pos (starEach [] env)) []) Q E s := callWith_K0 X hk h
/-- a value alone comes back: the ledger stays -/
abbrev Pure (news : List (Addr × Obj)) (R : Tok → Value) : Value → List (Addr × Obj) → Prop := fun r n => news = n ∧ ∃ t, r = R t
section
variable {w : World} {D : Nat} {f : Addr} {vs : List Value} {news : List (Addr × Obj)} {R : Tok → Value}
  {loose : List Str} {mean : ExcName → Option Value} {mg mb : Str → Option Value}
  {dp un : Nat} {gd : Option (List Code)} {cn : Str} {cs : Scope} {a : Addr} {ccd : Value} {cl : List (Str × Addr)} {outer : List Env} {A₀ : Around} {base h₀ : Heap} {L : Addr} {m : Str → Option Value} {s : Shared} {Q E : Value → Shared → Prop}
theorem pure_use (B : Below A₀ base outer h₀) (F : Fr h₀ L s.heap m) (X : (hd.heap_1 w.params).In h₀) (N : News h₀ L s.heap news) (T : Top topProg loose mean mg mb h₀) (hk : cs.kind = .function) (hd : dp + D < recursionLimit) (hu : un + 8 * D < cLine)
    (C : Spec w D f vs news (Pure news R)) (ret : ∀ t' h' tk', Fr h₀ L h' m → News h₀ L h' news → Q (R t') { s with heap := h', toks := tk' }) :
    wpAny (model Challenge.rw_nu0135_01.row.prog w) (ktrTop dp un gd cn cs L a ccd cl outer) (call (.ref f) vs) Q E s :=
  spec_use B F X N T hk hd hu C fun r n' h' tk' R' F' N' => by
    obtain ⟨rfl, t', rfl⟩ := R'
    exact ret t' h' tk' F' N'
end
/-- what a class's own attribute needs of the class -/
structure AttrOk (K : Frag) (C : Addr) (x : Str) : Prop where
  p : plainGet K C x = true
  d : hasDictIn K C = true
  f : ∃ at', findIn K (.ref C) x = some at' ∧ noGet K at' = true
/-- plain expressions: names of the frame, cells, globals, written ints, their sums, attributes of known objects -/
inductive EvV (K : Frag) (env : Env) (cl : List (Str × Addr)) (m : Str → Option Value) (news : List (Addr × Obj)) : Expr → Tok → Value → Tok → Prop
  | loc {x pos t v} (hk : env.kindOf x = some .local) (hd : (x == ("__debug__" : Str)) = false) (hm : m x = some v) : EvV K env cl m news (.Name x pos) t v t
  | cell {x pos t v c o} (hk : env.kindOf x = some .cell) (hd : (x == ("__debug__" : Str)) = false) (hc : cl.lookup x = some c) (hm : (c, o) ∈ news) (ho : o.data = .cell (some v)) : EvV K env cl m news (.Name x pos) t v t
  | glob {x pos t v} (hk : env.kindOf x = some .globalImplicit) (hd : (x == ("__debug__" : Str)) = false) (hn : nsIn K mainGlobals x = some (some v)) : EvV K env cl m news (.Name x pos) t v t
  | int {n k pos t} : EvV K env cl m news (.Constant (.int n) k pos) t (.int n t) (t + 1)
  | add {l r pos t a ta t1 b tb t2} (h1 : EvV K env cl m news l t (.int a ta) t1) (h2 : EvV K env cl m news r t1 (.int b tb) t2) : EvV K env cl m news (.BinOp l .Add r pos) t (.int (a + b) t2) (t2 + 1)
  | sub {l r pos t a ta t1 b tb t2} (h1 : EvV K env cl m news l t (.int a ta) t1) (h2 : EvV K env cl m news r t1 (.int b tb) t2) : EvV K env cl m news (.BinOp l .Sub r pos) t (.int (a - b) t2) (t2 + 1)
  | mul {l r pos t a ta t1 b tb t2} (h1 : EvV K env cl m news l t (.int a ta) t1) (h2 : EvV K env cl m news r t1 (.int b tb) t2) (ok : IntMulOk a b) : EvV K env cl m news (.BinOp l .Mult r pos) t (.int (a * b) t2) (t2 + 1)
  | pow {l r pos t a ta t1 b tb t2} (h1 : EvV K env cl m news l t (.int a ta) t1) (h2 : EvV K env cl m news r t1 (.int b tb) t2) (h0 : 0 ≤ b) (hb : b ≤ 1000000) (ha : a.natAbs < 2 ^ 64) {z : Int} (hz : a ^ b.toNat = z) : EvV K env cl m news (.BinOp l .Pow r pos) t (.int z t2) (t2 + 1)
  | attr {x xp y pos t o C d es n v} (hk : env.kindOf x = some .local) (hd : (x == ("__debug__" : Str)) = false) (hm : m x = some (.ref o)) (h1 : (o, instObj C d) ∈ news) (h2 : (d, dictOf es n) ∈ news) (ok : AttrOk K C y) (hg : getL y es = some (some v)) (hh : handedIn v = true) : EvV K env cl m news (.Attribute (.Name x xp) y pos) t v (t + 1)
theorem ev_any {prog : Program} {w : World} {A : Around} {E : Value → Shared → Prop} {s : Shared} {K : Frag} {h₀ : Heap} {L a : Addr} {m mg mb : Str → Option Value} {p : Program} {loose : List Str} {cn : Str} {cs : Scope} {ccd : Value} {cl : List (Str × Addr)} {news : List (Addr × Obj)} {e : Expr} {v : Value} {tk' : Tok} {Q : Value → Shared → Prop}
    {env : Env} (henv : env = envX cn cs L a ccd cl) (F : Fr h₀ L s.heap m) (N : News h₀ L s.heap news) (X : K.In h₀) (T : TopRead p loose mg mb h₀) (hkind : cs.kind = .function) (ha : EvV K env cl m news e s.toks v tk') (h : Q v { s with toks := tk' }) :
    wpAny (model prog w) A (eval e env) Q E s := by
  subst henv
  obtain ⟨hp, g, d, tk, os⟩ := s
  dsimp only at F N ha
  induction ha generalizing Q with
  | loc hk hd hm => exact nameX_L F hm h hkind hk hd
  | cell hk hd hc hmm ho => exact nameX_C N hc hmm ho h hkind hk hd
  | glob hk hd hn => exact nameX_K F X T hn h hkind hk hd
  | int => exact wpAny_Constant_int h
  | add _ _ ih1 ih2 => exact wpAny_BinOp (ih1 (ih2 (add_int h)))
  | sub _ _ ih1 ih2 => exact wpAny_BinOp (ih1 (ih2 (sub_int h)))
  | mul _ _ ok ih1 ih2 => exact wpAny_BinOp (ih1 (ih2 (mul_int h ok)))
  | pow _ _ h0 hb ha hz ih1 ih2 => exact wpAny_BinOp (ih1 (ih2 (pow_int_small h0 hb ha (by rw [hz]; exact h))))
  | attr hk hd hm h1 h2 ok hg hh =>
    obtain ⟨at', hf, hn⟩ := ok.f
    exact Attribute_Name_ (nameX_L F hm (get_own F X (InstAt.of_news N h1 h2) ok.p ok.d hf hn hg hh h) hkind hk hd)
/-- plain arguments -/
inductive ArgV (K : Frag) (env : Env) (cl : List (Str × Addr)) (m : Str → Option Value) (news : List (Addr × Obj)) : List Expr → Tok → List Value → Tok → Prop
  | nil {t} : ArgV K env cl m news [] t [] t
  | cons {e r t v t' vs t''} (h1 : EvV K env cl m news e t v t') (h : ArgV K env cl m news r t' vs t'') : ArgV K env cl m news (e :: r) t (v :: vs) t''
theorem star_ev {K : Frag} {env env' : Env} {cl : List (Str × Addr)} {m : Str → Option Value} {news : List (Addr × Obj)} {e : Expr} {r : List Expr} {t t' : Tok} {v : Value} (h : EvV K env cl m news e t v t') : starEach (e :: r) env' = (false, eval e env') :: starEach r env' := by
  cases h <;> rfl
theorem any_argv {K : Frag} {env env' : Env} {cl : List (Str × Addr)} {m : Str → Option Value} {news : List (Addr × Obj)} {es : List Expr} {t t' : Tok} {vs : List Value} {pos : Pos} (h : ArgV K env cl m news es t vs t') : (backTo pos (starEach es env')).any (·.1) = false := by
  induction h with
  | nil => rfl
  | cons h1 _ ih => rw [star_ev h1]; exact ih
section
variable {prog : Program} {w : World} {A : Around} {E : Value → Shared → Prop} {s : Shared} {K : Frag} {h₀ : Heap} {L a : Addr} {m mg mb : Str → Option Value} {p : Program} {loose : List Str} {cn : Str} {cs : Scope} {ccd : Value} {cl : List (Str × Addr)} {news : List (Addr × Obj)} {e : Expr} {es : List Expr} {pos pos1 : Pos} {vs : List Value} {tk' : Tok} {env : Env}
theorem args_simple {Q : List Value → Shared → Prop} (henv : env = envX cn cs L a ccd cl) (F : Fr h₀ L s.heap m) (N : News h₀ L s.heap news) (X : K.In h₀) (T : TopRead p loose mg mb h₀) (hkind : cs.kind = .function) (ha : ArgV K env cl m news es s.toks vs tk') (h : Q vs { s with toks := tk' }) :
    wpAny (model prog w) A (spliced (backTo pos (starEach es env))) Q E s := by
  obtain ⟨hp, g, d, tk, os⟩ := s
  dsimp only at F N ha
  induction ha generalizing Q with
  | nil => exact args_nil h
  | cons h1 _ ih => exact args_cons (ev_any (s := ⟨hp, g, d, _, os⟩) henv F N X T hkind h1 (ih h)) (star_ev h1)
theorem call_K {f : Str} {fa : Addr} {Q : Value → Shared → Prop} (henv : env = envX cn cs L a ccd cl) (F : Fr h₀ L s.heap m) (N : News h₀ L s.heap news) (X : K.In h₀) (T : TopRead p loose mg mb h₀) (hkind : cs.kind = .function)
    (hf : nsIn K mainGlobals f = some (some (.ref fa))) (hkeep : keepIn K (.ref fa) = true) (hk : env.kindOf f = some .globalImplicit) (hd : (f == ("__debug__" : Str)) = false) (ha : ArgV K env cl m news (e :: es) s.toks vs tk') (h : wpAny (model prog w) A (call (.ref fa) vs) Q E { s with toks := tk' }) :
    wpAny (model prog w) A (eval (.Call (.Name f pos1) (e :: es) [] pos) env) Q E s := by
  refine Call_ ?_
  have X' : K.In s.heap := Frag.In.keeps X (Fr.keep F)
  cases ha with
  | cons h1 h2 =>
    have C := callWith_K (M := model prog w) (A := A) (E := E) (s := s) (env := env) (pos := pos) (f := .ref fa) (first := []) (Q := Q) X hkeep (args_simple henv F N X T hkind (.cons h1 h2) ⟨X', h⟩) (star_ev h1) (any_argv h2)
    subst henv
    exact nameX_K F X T hf C hkind hk hd
theorem call_Kg {f : Str} {fa : Addr} {Q : Value → Shared → Prop} (henv : env = envX cn cs L a ccd cl) (F : Fr h₀ L s.heap m) (X : K.In h₀) (T : TopRead p loose mg mb h₀) (hkind : cs.kind = .function)
    (hf : nsIn K mainGlobals f = some (some (.ref fa))) (hkeep : keepIn K (.ref fa) = true) (hk : env.kindOf f = some .globalImplicit) (hd : (f == ("__debug__" : Str)) = false) (he : starEach (e :: es) env = (false, eval e env) :: starEach es env) (hp : (backTo pos (starEach es env)).any (·.1) = false)
    (h : wpAny (model prog w) A (spliced (backTo pos (starEach (e :: es) env))) (fun vs s₁ => K.In s₁.heap ∧ wpAny (model prog w) A (call (.ref fa) vs) Q E s₁) E s) : wpAny (model prog w) A (eval (.Call (.Name f pos1) (e :: es) [] pos) env) Q E s := by
  refine Call_ ?_
  have C := callWith_K (M := model prog w) (A := A) (E := E) (s := s) (env := env) (pos := pos) (f := .ref fa) (first := []) (Q := Q) X hkeep h he hp
  subst henv
  exact nameX_K F X T hf C hkind hk hd
theorem call_K0 {f : Str} {fa : Addr} {Q : Value → Shared → Prop} (henv : env = envX cn cs L a ccd cl) (F : Fr h₀ L s.heap m) (X : K.In h₀) (T : TopRead p loose mg mb h₀) (hkind : cs.kind = .function)
    (hf : nsIn K mainGlobals f = some (some (.ref fa))) (hkeep : keepIn K (.ref fa) = true) (hk : env.kindOf f = some .globalImplicit) (hd : (f == ("__debug__" : Str)) = false) (h : wpAny (model prog w) A (call (.ref fa) []) Q E s) :
    wpAny (model prog w) A (eval (.Call (.Name f pos1) [] [] pos) env) Q E s := by
  refine Call_ ?_
  have X' : K.In s.heap := Frag.In.keeps X (Fr.keep F)
  subst henv
  exact nameX_K F X T hf (callWith_K0 X' hkeep h) hkind hk hd
end

/-- a theorem of a section says so: the section's own lines of the walk serve it alone -/
def Sec (_ : Nat) : Prop := True
theorem sec (n : Nat) : Sec n := True.intro
theorem len_mid {X : List Int} {a b N : Nat} (h : X.length ≤ N) : ((X.take a).drop b).length ≤ N := by
  rw [List.length_drop, List.length_take]
  exact Nat.le_trans (Nat.sub_le _ _) (Nat.le_trans (Nat.min_le_right _ _) h)
theorem len_take {X : List Int} {a N : Nat} (h : X.length ≤ N) : (X.take a).length ≤ N := by
  rw [List.length_take]
  exact Nat.le_trans (Nat.min_le_right _ _) h
theorem len_drop {X : List Int} {a N : Nat} (h : X.length ≤ N) : (X.drop a).length ≤ N := by
  rw [List.length_drop]
  exact Nat.le_trans (Nat.sub_le _ _) h
theorem take_lt {X : List Int} {a N : Nat} (h : a < N) : (X.take a).length < N := Nat.lt_of_le_of_lt (by rw [List.length_take]; exact Nat.min_le_left _ _) h
theorem le_lit {a K N : Nat} (h : a ≤ K) (e : Nat.ble K N = true) : a ≤ N := Nat.le_trans h (Nat.le_of_ble_eq_true e)
theorem le_lit' {a K N : Nat} (h : a < K) (e : Nat.ble K N = true) : a ≤ N := Nat.le_trans (Nat.le_of_lt h) (Nat.le_of_ble_eq_true e)
theorem lt_lit {a K N : Nat} (h : a ≤ K) (e : Nat.ble (K + 1) N = true) : a < N := Nat.lt_of_le_of_lt h (Nat.le_of_ble_eq_true e)
theorem lt_lit' {a K N : Nat} (h : a < K) (e : Nat.ble K N = true) : a < N := Nat.lt_of_lt_of_le h (Nat.le_of_ble_eq_true e)
theorem units0 {un D lim : Nat} (h : un + 8 * D < lim) (e : Nat.ble 3 (8 * D) = true) : un + 3 < lim := Nat.lt_of_le_of_lt (Nat.add_le_add_left (Nat.le_of_ble_eq_true e) un) h
theorem room0 {dp D lim : Nat} (h : dp + D < lim) : dp < lim := Nat.lt_of_le_of_lt (Nat.le_add_right ..) h
theorem room1 {dp D D' lim : Nat} (h : dp + D < lim) (e : Nat.ble (1 + D') D = true) : dp + 1 + D' < lim := by
  have := Nat.le_of_ble_eq_true e
  omega
theorem units1 {un D D' lim : Nat} (h : un + 8 * D < lim) (e : Nat.ble (3 + 8 * D') (8 * D) = true) : un + 3 + 8 * D' < lim := by
  have := Nat.le_of_ble_eq_true e
  omega
theorem neLt {a b : Nat} (h : a < b) : a ≠ b := Nat.ne_of_lt h
theorem neGt {a b : Nat} (h : b < a) : a ≠ b := Nat.ne_of_gt h
theorem lt_all {news : List (Addr × Obj)} {d x : Addr} (h : ∀ p ∈ news, @LT.lt Nat _ p.1 d) (hd : @LT.lt Nat _ d x) : ∀ p ∈ news, @LT.lt Nat _ p.1 x := fun p hp => Nat.lt_trans (h p hp) hd
theorem allLt_hd {d : Nat} {p : Addr × Obj} {news : List (Addr × Obj)} (h : AllLt d (p :: news)) : @LT.lt Nat _ p.1 d := h.1
theorem allLt_tl {d : Nat} {p : Addr × Obj} {news : List (Addr × Obj)} (h : AllLt d (p :: news)) : AllLt d news := h.2
theorem lay1 : True := by
  k_with "my room" => (first | exact room1 hd rfl | exact room0 hd)
  k_with "my units" => (first | exact units1 hu rfl | exact units0 hu rfl)
  exact True.intro
local macro_rules | `(tactic| ktr_room) => `(tactic| k_extra "my room")
local macro_rules | `(tactic| ktr_units) => `(tactic| k_extra "my units")
local macro_rules | `(tactic| k_ne) => `(tactic| k_extra "my ne")
theorem lay3 : True := by
  k_with "my ne" => (first | exact neLt (by with_reducible assumption) | exact neGt (by with_reducible assumption) | fail "k_ne")
  exact True.intro
local macro_rules | `(tactic| k_lt $h:ident) => `(tactic| (replace $h := allLt_of $h; k_extra "my unroll"))
theorem lay4 : True := by
  k_with "my unroll" => (((with_reducible rename AllLt _ (_ :: _) => lq'); have l9' := allLt_hd lq'; dsimp only at l9'; replace lq' := allLt_tl lq'; (repeat (have l9' := allLt_hd lq'; dsimp only at l9'; replace lq' := allLt_tl lq'))))
  k_with "my mem" => (first | exact List.mem_cons_self .. | ktr_member | (refine List.mem_cons_of_mem _ ?_; k_extra "my mem"))
  exact True.intro
local macro_rules | `(tactic| k_mem) => `(tactic| k_extra "my mem")
theorem lay6 : True := by
  k_with "my callWith ref" => ((k_here; k_dflt (first
  | refine callWith_K (by k_asm) (by k_is) ?_; k_whole
  | refine callWith_0 (K := _root_.Mine.hd.heap_1 w.params) (by k_is) (by k_in) ?_
  | (refine callWith_M0 (by k_meth) (by k_is) ?_; k_whole; try dsimp only [List.nil_append, List.cons_append])
  | refine callWith_M (by k_asm) (by k_asm) (by k_extra "my mem") (by k_is) ?_; k_whole)))
  k_with "my attrok" => (exact ⟨by k_is, by k_is, ⟨_, by k_is, by k_is⟩⟩)
  k_with "my evv" => (first
  | ((with_reducible show EvV _ _ _ _ _ (Expr.Constant (Const.int _) _ _) _ _ _); exact EvV.int)
  | ((with_reducible show EvV _ _ _ _ _ (Expr.Name _ _) _ _ _); first | exact EvV.loc (by exact rfl) (by decide) (by exact rfl) | exact EvV.cell (by exact rfl) (by decide) (by exact rfl) (by k_mem) (by k_asm) | exact EvV.glob (by exact rfl) (by decide) (by k_is))
  | ((with_reducible show EvV _ _ _ _ _ (Expr.BinOp _ Operator.Add _ _) _ _ _); apply EvV.add (by k_extra "my evv") (by k_extra "my evv"))
  | ((with_reducible show EvV _ _ _ _ _ (Expr.BinOp _ Operator.Sub _ _) _ _ _); apply EvV.sub (by k_extra "my evv") (by k_extra "my evv"))
  | ((with_reducible show EvV _ _ _ _ _ (Expr.BinOp _ Operator.Mult _ _) _ _ _); apply EvV.mul (by k_extra "my evv") (by k_extra "my evv") (by unfold IntMulOk; decide +kernel))
  | ((with_reducible show EvV _ _ _ _ _ (Expr.BinOp _ Operator.Pow _ _) _ _ _); apply EvV.pow (by k_extra "my evv") (by k_extra "my evv") (by decide) (by decide) (by decide) (by ((simp only [Int.reduceToNat, Int.reducePow]); try rfl)))
  | ((with_reducible show EvV _ _ _ _ _ (Expr.Attribute (Expr.Name _ _) _ _) _ _ _); apply EvV.attr (by exact rfl) (by decide) (by exact rfl) (by k_mem) (by k_mem) (by k_extra "my attrok") (by k_get) (by k_handed))
  | fail "evv")
  k_with "my argv" => (first
  | ((with_reducible show ArgV _ _ _ _ _ [] _ _ _); exact ArgV.nil)
  | ((with_reducible show ArgV _ _ _ _ _ (_ :: _) _ _ _); apply ArgV.cons (by k_extra "my evv") (by k_extra "my argv"))
  | fail "argv")
  k_with "my spliced" => ((k_here; (with_reducible refine args_simple (by k_dflt (exact rfl)) (by k_dflt k_asm) (by k_dflt k_asm) (by k_dflt k_asm) (by k_dflt k_asm) (by k_dflt (first | exact rfl | assumption)) (by k_dflt (k_extra "my argv")) ?_); (try dsimp only)))
  k_with "my spliced" => ((k_here; (with_reducible show wpAny _ _ (spliced (backTo _ (starEach [] _))) _ _ _); (with_reducible refine args_nil ?_); (try dsimp only)))
  k_with "my eval BinOp" => ((k_here; (with_reducible refine ev_any (by k_dflt (exact rfl)) (by k_dflt k_asm) (by k_dflt k_asm) (by k_dflt k_asm) (by k_dflt k_asm) (by k_dflt (first | exact rfl | assumption)) (by k_dflt (k_extra "my evv")) ?_); (try dsimp only)))
  k_with "my eval Attribute Name" => ((k_here; (with_reducible refine ev_any (by k_dflt (exact rfl)) (by k_dflt k_asm) (by k_dflt k_asm) (by k_dflt k_asm) (by k_dflt k_asm) (by k_dflt (first | exact rfl | assumption)) (by k_dflt (k_extra "my evv")) ?_); (try dsimp only)))
  k_with "my eval Call" => ((k_here; (with_reducible show wpAny _ _ (eval (Expr.Call (Expr.Name _ _) _ [] _) _) _ _ _); k_dflt (refine Call_ ?_)))
  k_with "my eval Call" => ((k_here; (with_reducible show wpAny _ _ (eval (Expr.Call (Expr.Name _ _) (_ :: _) [] _) _) _ _ _); (with_reducible refine call_Kg (by k_dflt (exact rfl)) (by k_dflt k_asm) (by k_dflt k_asm) (by k_dflt k_asm) (by k_dflt (first | exact rfl | assumption)) (by k_dflt k_is) (by k_dflt k_is) (by k_dflt (exact rfl)) (by decide) (by k_dflt (exact rfl)) (by k_dflt (exact rfl)) ?_)))
  k_with "my eval Call" => ((k_here; (with_reducible show wpAny _ _ (eval (Expr.Call (Expr.Name _ _) [] [] _) _) _ _ _); (with_reducible refine call_K0 (by k_dflt (exact rfl)) (by k_dflt k_asm) (by k_dflt k_asm) (by k_dflt k_asm) (by k_dflt (first | exact rfl | assumption)) (by k_dflt k_is) (by k_dflt k_is) (by k_dflt (exact rfl)) (by decide) ?_); (try dsimp only)))
  k_with "my eval Call" => ((k_here; (with_reducible show wpAny _ _ (eval (Expr.Call (Expr.Name _ _) (_ :: _) [] _) _) _ _ _); (with_reducible refine call_K (by k_dflt (exact rfl)) (by k_dflt k_asm) (by k_dflt k_asm) (by k_dflt k_asm) (by k_dflt k_asm) (by k_dflt (first | exact rfl | assumption)) (by k_dflt k_is) (by k_dflt k_is) (by k_dflt (exact rfl)) (by decide) (by k_dflt (k_extra "my argv")) ?_); (try dsimp only)))
  k_with "my b_len" => (((try simp only [List.length_append, List.length_cons, List.length_nil, List.length_take, List.length_drop, List.length_replicate, List.length_map]); omega))
  k_with "my b_lit" => (first | with_reducible exact le_lit (by with_reducible assumption) (by exact rfl) | with_reducible exact le_lit' (by with_reducible assumption) (by exact rfl) | with_reducible exact lt_lit (by with_reducible assumption) (by exact rfl) | with_reducible exact lt_lit' (by with_reducible assumption) (by exact rfl) | with_reducible exact take_lt (by decide) | (with_reducible refine len_mid ?_; k_extra "my b_siz") | (with_reducible refine len_take ?_; k_extra "my b_siz") | (with_reducible refine len_drop ?_; k_extra "my b_siz"))
  k_with "my b_siz" => (first | k_extra "my b_lit" | k_extra "my b_len" | fail "b_siz")
  k_with "my b_in" => (first
  | with_reducible assumption
  | with_reducible exact in_nil
  | with_reducible exact in_rep
  | (with_reducible refine in_app ?_ ?_ <;> k_extra "my b_in")
  | (with_reducible refine in_cons ?_ ?_ ?_ <;> first | omega | k_extra "my b_in")
  | (with_reducible refine in_take ?_; k_extra "my b_in")
  | (with_reducible refine in_drop ?_; k_extra "my b_in"))
  k_with "my binaryOp Add bytes bytes" => ((k_here; (with_reducible show wpAny _ _ (binaryOp Operator.Add (Value.bytes (byteArr _) _) (Value.bytes (byteArr _) _)) _ _ _); (refine add_B (by k_extra "my b_siz") ?_); intro _ _))
  k_with "my call builtin:len" => ((k_here; (with_reducible show wpAny _ _ (call (Value.builtin "len") [Value.bytes (byteArr _) _]) _ _ _); (refine len_B (by k_extra "my b_siz") ?_); intro _ _; (try simp only [List.length_append, List.length_cons, List.length_nil, List.length_replicate])))
  k_with "my subscriptTail" => ((k_here; (with_reducible show wpAny _ _ (subscriptTail _ _ (Value.bytes (byteArr _) _) (Value.int _ _)) _ _ _); (refine item_B (by k_extra "my b_in") (by k_extra "my b_siz") (by omega) (by k_extra "my b_siz") ?_); intro _ _ bLo' bHi'))
  k_with "my subscriptTail" => ((k_here; (with_reducible show wpAny _ _ (subscriptTail _ (Expr.Slice _ _ none _) (Value.bytes (byteArr _) _) (Value.ref _)) _ _ _); (with_reducible rename Fr _ _ _ _ => F'); (with_reducible rename News _ _ _ _ => N'); (first
  | (refine sliceTo_B (s := ⟨_, _, _, _, _⟩) F' N' (by k_extra "my b_in") (by k_extra "my b_siz") (by omega) ?_)
  | (refine sliceFrom_B (s := ⟨_, _, _, _, _⟩) F' N' (by k_extra "my b_in") (by k_extra "my b_siz") (by omega) ?_)
  | (refine sliceMid_B (s := ⟨_, _, _, _, _⟩) F' N' (by k_extra "my b_in") (by k_extra "my b_siz") (by omega) (by omega) ?_)); intro h' t' k' F' N'; (try k_sweep)))
  k_with "my compareOp Eq bytes bytes" => ((k_here; (with_reducible show wpAny _ _ (compareOp CmpOp.Eq (Value.bytes (byteArr _) _) (Value.bytes (byteArr _) _)) _ _ _); (refine eq_B (by k_extra "my b_in") (by k_extra "my b_in") ?_)))
  k_with "my compareOp NotEq bytes bytes" => ((k_here; (with_reducible show wpAny _ _ (compareOp CmpOp.NotEq (Value.bytes (byteArr _) _) (Value.bytes (byteArr _) _)) _ _ _); (refine ne_B (by k_extra "my b_in") (by k_extra "my b_in") ?_)))
  k_with "my call type:bytes" => ((k_here; (with_reducible show wpAny _ _ (call (Value.type "bytes") [Value.ref _]) _ _ _); k_dflt (refine make_B (by k_asm) (by k_asm) (by rfl) (by k_mem) (by first | l_intsW | l_ints) (by k_extra "my b_in") (by k_extra "my b_siz") ?_); intro h' t' k' F' N'; (try k_sweep)))
  k_with "my call type:bytes" => ((k_here; (with_reducible show wpAny _ _ (call (Value.type "bytes") [Value.int _ _]) _ _ _); (refine zeros_B (by omega) (by omega) ?_); intro _ _))
  k_with "my call type:bytes" => ((k_here; (with_reducible show wpAny _ _ (call (Value.type "bytes") [Value.bytes _ _]) _ _ _); (refine call_bytes_bytes ?_)))
  k_with "my binaryOp RShift int int" => ((k_here; first | with_reducible refine shr8 ?_ | with_reducible refine shr16 ?_))
  k_with "my binaryOp BitAnd int int" => ((k_here; first | with_reducible refine mask8 ?_ | with_reducible refine mask16 ?_ | with_reducible refine mask13 ?_ | with_reducible refine bit14 ?_ | with_reducible refine bit13 ?_))
  k_with "my binaryOp LShift int int" => ((k_here; first | (with_reducible refine shl8 (by omega) (by omega) ?_) | (with_reducible refine shl16 (by omega) (by omega) ?_)))
  k_with "my binaryOp BitOr int int" => ((k_here; first | (with_reducible refine or8 (by omega) (by omega) (by omega) ?_) | (with_reducible refine or16 (by omega) (by omega) (by omega) ?_)))
  k_with "my binaryOp FloorDiv int int" => ((k_here; (with_reducible refine fdivL (by omega) (by omega) ?_)))
  k_with "my binaryOp Mod int int" => ((k_here; (with_reducible refine fmodL (by omega) ?_)))
  k_with "my enter" => ((refine wpAny_call ?_; k_extra "my enter0"))
  k_with "my enter_cls" => (k_dflt ((refine call_cls (by k_asm) (by k_asm) (by k_asm) (by k_is) (by k_is) (by k_is) ?_; k_whole; intro x' d' h' F' N' l1 l2; (try k_lt l1); (try k_lt2 l2); (try k_sweep)); k_extra "my enter0"))
  k_with "my enter0" => ((k_dflt (refine code_def (by k_asm) (by k_asm) (by k_asm) (by k_asm) (by k_asm) (by exact rfl) (by exact rfl) (by assumption) (by k_is) (by k_is) (by ktr_room) (by first | exact BindsTo.of_eq rfl | exact binds_K (by k_in) rfl (by k_is) rfl rfl rfl) (by exact locs rfl) ?_ (by exact rfl) (by exact rfl) (by exact rfl) (by decide); k_whole; intro g' L' h' FG' F' N' B' X' T'; (try dsimp only); (try k_fold))))
  exact True.intro

-- P02: octets.py: put16, put32, need, get16, get32
theorem ak1 (w : World) : AttrOk (hd.heap_1 w.params) 175 (Str.ofString "kind") := ⟨by k_is, by k_is, ⟨_, by k_is, by k_is⟩⟩
theorem ak2 (w : World) : AttrOk (hd.heap_1 w.params) 175 (Str.ofString "code") := ⟨by k_is, by k_is, ⟨_, by k_is, by k_is⟩⟩
theorem ak3 (w : World) : AttrOk (hd.heap_1 w.params) 175 (Str.ofString "rest") := ⟨by k_is, by k_is, ⟨_, by k_is, by k_is⟩⟩
theorem ak4 (w : World) : AttrOk (hd.heap_1 w.params) 175 (Str.ofString "payload") := ⟨by k_is, by k_is, ⟨_, by k_is, by k_is⟩⟩
theorem ak5 (w : World) : AttrOk (hd.heap_1 w.params) 274 (Str.ofString "source") := ⟨by k_is, by k_is, ⟨_, by k_is, by k_is⟩⟩
theorem ak6 (w : World) : AttrOk (hd.heap_1 w.params) 274 (Str.ofString "target") := ⟨by k_is, by k_is, ⟨_, by k_is, by k_is⟩⟩
theorem ak7 (w : World) : AttrOk (hd.heap_1 w.params) 274 (Str.ofString "protocol") := ⟨by k_is, by k_is, ⟨_, by k_is, by k_is⟩⟩
theorem ak8 (w : World) : AttrOk (hd.heap_1 w.params) 274 (Str.ofString "ident") := ⟨by k_is, by k_is, ⟨_, by k_is, by k_is⟩⟩
theorem ak9 (w : World) : AttrOk (hd.heap_1 w.params) 274 (Str.ofString "ttl") := ⟨by k_is, by k_is, ⟨_, by k_is, by k_is⟩⟩
theorem ak10 (w : World) : AttrOk (hd.heap_1 w.params) 274 (Str.ofString "tos") := ⟨by k_is, by k_is, ⟨_, by k_is, by k_is⟩⟩
theorem ak11 (w : World) : AttrOk (hd.heap_1 w.params) 274 (Str.ofString "dont") := ⟨by k_is, by k_is, ⟨_, by k_is, by k_is⟩⟩
theorem ak12 (w : World) : AttrOk (hd.heap_1 w.params) 274 (Str.ofString "more") := ⟨by k_is, by k_is, ⟨_, by k_is, by k_is⟩⟩
theorem ak13 (w : World) : AttrOk (hd.heap_1 w.params) 274 (Str.ofString "offset") := ⟨by k_is, by k_is, ⟨_, by k_is, by k_is⟩⟩
theorem ak14 (w : World) : AttrOk (hd.heap_1 w.params) 274 (Str.ofString "options") := ⟨by k_is, by k_is, ⟨_, by k_is, by k_is⟩⟩
theorem ak15 (w : World) : AttrOk (hd.heap_1 w.params) 415 (Str.ofString "most") := ⟨by k_is, by k_is, ⟨_, by k_is, by k_is⟩⟩
theorem ak16 (w : World) : AttrOk (hd.heap_1 w.params) 415 (Str.ofString "refill_after") := ⟨by k_is, by k_is, ⟨_, by k_is, by k_is⟩⟩
theorem ak17 (w : World) : AttrOk (hd.heap_1 w.params) 415 (Str.ofString "left") := ⟨by k_is, by k_is, ⟨_, by k_is, by k_is⟩⟩
theorem ak18 (w : World) : AttrOk (hd.heap_1 w.params) 415 (Str.ofString "since") := ⟨by k_is, by k_is, ⟨_, by k_is, by k_is⟩⟩
theorem lay40 : True := by
  k_with "my attrok" => (first | with_reducible exact ak1 _ | with_reducible exact ak2 _ | with_reducible exact ak3 _ | with_reducible exact ak4 _ | with_reducible exact ak5 _ | with_reducible exact ak6 _ | with_reducible exact ak7 _ | with_reducible exact ak8 _ | with_reducible exact ak9 _ | with_reducible exact ak10 _ | with_reducible exact ak11 _ | with_reducible exact ak12 _ | with_reducible exact ak13 _ | with_reducible exact ak14 _ | with_reducible exact ak15 _ | with_reducible exact ak16 _ | with_reducible exact ak17 _ | with_reducible exact ak18 _)
  exact True.intro
def w16 (n : Int) : List Int := [n / 256 % 256, n % 256]
def w32 (n : Int) : List Int := w16 (n / 65536) ++ w16 n
theorem w16_in (n : Int) : KBa.In (w16 n) := in_cons (by omega) (by omega) (in_cons (by omega) (by omega) in_nil)
theorem w32_in (n : Int) : KBa.In (w32 n) := in_app (w16_in _) (w16_in _)
theorem w16_len (n : Int) : (w16 n).length = 2 := rfl
theorem w32_len (n : Int) : (w32 n).length = 4 := rfl
theorem lay41 : True := by
  k_with "my b_in" => (first | with_reducible assumption | ((with_reducible show KBa.In (w16 _)); exact w16_in _) | ((with_reducible show KBa.In (w32 _)); exact w32_in _))
  k_with "my b_len" => (((simp only [w16_len, w32_len, List.length_append, List.length_cons, List.length_nil, List.length_take, List.length_drop, List.length_replicate, List.length_map]); omega))
  k_with "my pure_end" => ((with_reducible refine hret _ _ _ _ ?_ ?_ ?_))
  exact True.intro
theorem put16_spec {w : World} {news : List (Addr × Obj)} (n : Int) (t : Tok) :
    Spec w 10 72 [.int n t] news (Pure news fun t' => .bytes (byteArr (w16 n)) t') := by
  unfold Spec
  intro loose mean mg mb dp un gd cn cs a ccd cl outer A₀ base h₀ L m s Q E B F X N T hk hd hu hret
  k_extra "my enter"
  k_steps
  all_goals (exact hret _ _ _ _ ⟨rfl, _, rfl⟩ (by k_asm) (cb_drop (by k_asm) (by intro p hp; k_ownIn)))
theorem lay44 : True := by
  k_with "my call ref" => (k_here; (with_reducible show wpAny _ _ (call (Value.ref 72) _) _ _ _); k_dflt (refine pure_use (by k_asm) (by k_asm) (by k_asm) (by k_asm) (by k_asm) (by first | exact rfl | assumption) (by ktr_room) (by ktr_units) (put16_spec _ _) ?_); intro t' h' tk' F' N'; (try dsimp only); (try k_sweep); (try k_fold))
  exact True.intro
theorem put32_spec {w : World} {news : List (Addr × Obj)} (n : Int) (t : Tok) :
    Spec w 12 79 [.int n t] news (Pure news fun t' => .bytes (byteArr (w32 n)) t') := by
  unfold Spec
  intro loose mean mg mb dp un gd cn cs a ccd cl outer A₀ base h₀ L m s Q E B F X N T hk hd hu hret
  k_extra "my enter"
  k_steps
  all_goals (exact hret _ _ _ _ ⟨rfl, _, rfl⟩ (by k_asm) (cb_drop (by k_asm) (by intro p hp; k_ownIn)))
theorem lay45 : True := by
  k_with "my call ref" => (k_here; (with_reducible show wpAny _ _ (call (Value.ref 79) _) _ _ _); k_dflt (refine pure_use (by k_asm) (by k_asm) (by k_asm) (by k_asm) (by k_asm) (by first | exact rfl | assumption) (by ktr_room) (by ktr_units) (put32_spec _ _) ?_); intro t' h' tk' F' N'; (try dsimp only); (try k_sweep); (try k_fold))
  exact True.intro
theorem need_spec {w : World} {news : List (Addr × Obj)} (o : List Int) (t ta ts : Tok) (at' size : Int) (h0 : 0 ≤ at') (h1 : at' + size ≤ o.length) (hl : o.length ≤ 100000) (hi : KBa.In o) :
    Spec w 10 86 [.bytes (byteArr o) t, .int at' ta, .int size ts] news (Pure news fun _ => .none) := by
  unfold Spec
  intro loose mean mg mb dp un gd cn cs a ccd cl outer A₀ base h₀ L m s Q E B F X N T hk hd hu hret
  k_extra "my enter"
  k_steps
  all_goals (exact hret _ _ _ _ ⟨rfl, 0, rfl⟩ (by k_asm) (cb_drop (by k_asm) (by intro p hp; k_ownIn)))
theorem lay46 : True := by
  k_with "my call ref" => (k_here; (with_reducible show wpAny _ _ (call (Value.ref 86) _) _ _ _); k_dflt (refine pure_use (by k_asm) (by k_asm) (by k_asm) (by k_asm) (by k_asm) (by first | exact rfl | assumption) (by ktr_room) (by ktr_units) (need_spec _ _ _ _ _ _ (by first | with_reducible assumption | decide | omega) (by first | with_reducible assumption | decide | omega) (by first | with_reducible assumption | decide | omega) (by k_extra "my b_in")) ?_); intro t' h' tk' F' N'; (try dsimp only); (try k_sweep); (try k_fold))
  exact True.intro
def g16 (o : List Int) (i : Nat) : Int := o.getD i 0 * 256 + o.getD (i + 1) 0
def g32 (o : List Int) (i : Nat) : Int := g16 o i * 65536 + g16 o (i + 2)
theorem g16_in {o : List Int} (h : KBa.In o) (i : Nat) : 0 ≤ g16 o i ∧ g16 o i < 65536 := by
  have h1 := in_getD h i
  have h2 := in_getD h (i + 1)
  unfold g16
  omega
theorem get16_spec {w : World} {news : List (Addr × Obj)} (o : List Int) (t ta : Tok) (at' : Int) (h0 : 0 ≤ at') (h1 : at' + 2 ≤ o.length) (hl : o.length ≤ 100000) (hi : KBa.In o) :
    Spec w 12 93 [.bytes (byteArr o) t, .int at' ta] news (Pure news fun t' => .int (g16 o at'.toNat) t') := by
  unfold Spec
  intro loose mean mg mb dp un gd cn cs a ccd cl outer A₀ base h₀ L m s Q E B F X N T hk hd hu hret
  k_extra "my enter"
  k_steps
  all_goals (exact hret _ _ _ _ ⟨rfl, _, by rw [toNat_s1 h0]; rfl⟩ (by k_asm) (cb_drop (by k_asm) (by intro p hp; k_ownIn)))
theorem lay47 : True := by
  k_with "my call ref" => (k_here; (with_reducible show wpAny _ _ (call (Value.ref 93) _) _ _ _); k_dflt (refine pure_use (by k_asm) (by k_asm) (by k_asm) (by k_asm) (by k_asm) (by first | exact rfl | assumption) (by ktr_room) (by ktr_units) (get16_spec _ _ _ _ (by first | with_reducible assumption | decide | omega) (by first | with_reducible assumption | decide | omega) (by first | with_reducible assumption | decide | omega) (by k_extra "my b_in")) ?_); intro t' h' tk' F' N'; (try dsimp only); (try k_sweep); (try k_fold))
  exact True.intro
theorem get32_spec {w : World} {news : List (Addr × Obj)} (o : List Int) (t ta : Tok) (at' : Int) (h0 : 0 ≤ at') (h1 : at' + 4 ≤ o.length) (hl : o.length ≤ 100000) (hi : KBa.In o) :
    Spec w 14 100 [.bytes (byteArr o) t, .int at' ta] news (Pure news fun t' => .int (g32 o at'.toNat) t') := by
  unfold Spec
  intro loose mean mg mb dp un gd cn cs a ccd cl outer A₀ base h₀ L m s Q E B F X N T hk hd hu hret
  have b1 := g16_in hi at'.toNat
  have b2 := g16_in hi (at' + 2).toNat
  k_extra "my enter"
  k_steps
  all_goals (exact hret _ _ _ _ ⟨rfl, _, by rw [toNat_s2 h0]; rfl⟩ (by k_asm) (cb_drop (by k_asm) (by intro p hp; k_ownIn)))
theorem lay48 : True := by
  k_with "my call ref" => (k_here; (with_reducible show wpAny _ _ (call (Value.ref 100) _) _ _ _); k_dflt (refine pure_use (by k_asm) (by k_asm) (by k_asm) (by k_asm) (by k_asm) (by first | exact rfl | assumption) (by ktr_room) (by ktr_units) (get32_spec _ _ _ _ (by first | with_reducible assumption | decide | omega) (by first | with_reducible assumption | decide | omega) (by first | with_reducible assumption | decide | omega) (by k_extra "my b_in")) ?_); intro t' h' tk' F' N'; (try dsimp only); (try k_sweep); (try k_fold))
  exact True.intro

-- P03: a loop over a range by an invariant; sums
section
def LPost (h₀ : Heap) (L I : Addr) (o : Obj) (J : (Str → Option Value) → List (Addr × Obj) → Prop) (s₁ : Shared) (Q : Flow → Shared → Prop) (f : Flow) (s₂ : Shared) : Prop :=
  match f with
  | .ret v => Q (.ret v) s₂
  | .brk => Q .next s₂
  | _ => ∃ h' tk m' nx, s₂ = { s₁ with heap := h', toks := tk } ∧ Fr h₀ L h' m' ∧ News h₀ L h' ((I, o) :: nx) ∧ (∀ p ∈ nx, p.1 ≠ I) ∧ J m' nx
theorem lpost_next {h₀ : Heap} {L I : Addr} {o : Obj} {J : (Str → Option Value) → List (Addr × Obj) → Prop} {s₁ : Shared} {Q : Flow → Shared → Prop} {h' : Heap} {tk : Nat} {m' : Str → Option Value} (nx : List (Addr × Obj)) (F : Fr h₀ L h' m') (N : News h₀ L h' ((I, o) :: nx)) (hI : ∀ p ∈ nx, p.1 ≠ I) (hj : J m' nx) :
    LPost h₀ L I o J s₁ Q .next { s₁ with heap := h', toks := tk } := ⟨h', tk, m', nx, rfl, F, N, hI, hj⟩
variable {prog : Program} {w : World} {A : Around} {E : Value → Shared → Prop} {s : Shared} {env : Env} {h₀ : Heap} {x : Str} {body : List Stmt} {Q : Flow → Shared → Prop}
theorem iter_rangeJ {r : Addr} {a₀ b₀ c : Int} {t₀ u₀ v₀ : Tok} (n : Nat) {m₀ : Str → Option Value} {news : List (Addr × Obj)} (J : Nat → (Str → Option Value) → List (Addr × Obj) → Prop)
    (hh : A.handled = none) (hr : IsRange s.heap r a₀ b₀ c t₀ u₀ v₀) (hsmall : Builtin.Range.small a₀ b₀ c = true) (hn : Builtin.Range.rangeSize a₀ b₀ c = (n : Int)) (F : Fr h₀ env.locals s.heap m₀) (N : News h₀ env.locals s.heap news) (hj : J 0 m₀ news)
    (turn : ∀ I : Addr, (∀ p ∈ news, p.1 < I) → ∀ i t m₁ nx h tk o, i < n → J i m₁ nx → (∀ p ∈ nx, p.1 ≠ I) → Fr h₀ env.locals h (fun y => if y = x then some (.int (a₀ + (i : Int) * c) t) else m₁ y) → News h₀ env.locals h ((I, o) :: nx) →
      wpAny (model prog w) A (execs body env) (LPost h₀ env.locals I o (J (i + 1)) { s with heap := h, toks := tk } Q) E { s with heap := h, toks := tk })
    (done : ∀ m₁ nx h tk, J n m₁ nx → Fr h₀ env.locals h m₁ → News h₀ env.locals h nx → Q .next { s with heap := h, toks := tk }) :
    wpAny (model prog w) A (pyIter (.ref r)) (fun it s₂ => LoopAtV prog w A h₀ env x body Q E it s₂) E s := by
  refine wpAny_pyIter_range hr hsmall ?_
  have turn' := turn s.heap.objs.size fun p hp => Heap.lt_size (N p hp).1
  have W : Walks prog w A s.heap.objs.size [s.heap.objs.size] [s.heap.objs.size] n (fun i v => i < n ∧ ∃ t, v = .int (a₀ + i * c) t)
      (fun i h => IsRangeIter h s.heap.objs.size (a₀ + (i : Nat) * c) ((n : Int) - (i : Nat)) c) := (Walks.range hh _ a₀ c n).bound
  have hnew := next_is_new F
  refine ⟨_, _, _, n, _, _, m₀, news, J, rfl, W, ?_, ?_, ?_, (by show IsRangeIter _ _ _ _ _; rw [hn]; simpa using Heap.get?_push_size _ rfl), F.push _, (fun p hp => ⟨Heap.get?_push_of_some _ (N p hp).1, (N p hp).2⟩), hj, ?_, ?_⟩
  · intro hm
    exact absurd F.ns.lt ((List.mem_singleton.mp hm) ▸ Nat.lt_irrefl _)
  · intro b hb
    rw [List.mem_singleton.mp hb]
    exact hnew
  · intro p hp hI
    exact absurd (Heap.lt_size (N p hp).1) ((List.mem_singleton.mp hI) ▸ Nat.lt_irrefl _)
  · rintro i v m₁ news₁ s₁ own ⟨hh', tk', rfl⟩ hin ⟨_, t, rfl⟩ hJ hoff hown hget hall hst F₁ N₁
    have hst' : hh'.get? s.heap.objs.size = some (krsIt (a₀ + ((i + 1 : Nat) : Int) * c) ((n : Int) - ((i + 1 : Nat) : Int)) c) := hst
    have hmem := hall s.heap.objs.size (List.mem_singleton.mpr rfl) hnew _ hst'
    have N₂ : News h₀ env.locals hh' ((s.heap.objs.size, krsIt (a₀ + ((i + 1 : Nat) : Int) * c) ((n : Int) - ((i + 1 : Nat) : Int)) c) :: news₁) := fun p hp => by
      rcases List.mem_cons.mp hp with rfl | hp
      · exact N₁ _ (List.mem_append_left _ hmem)
      · exact N₁ _ (List.mem_append_right _ hp)
    refine wpAny_mono (turn' i t m₁ news₁ hh' tk' _ hin hJ (fun p hp => fun e => hoff p hp (List.mem_singleton.mpr e)) F₁ N₂) (fun f s₂ p => ?_) fun _ _ e => e
    have fin : (∃ h' tk m' nx, s₂ = { s with heap := h', toks := tk } ∧ Fr h₀ env.locals h' m' ∧ News h₀ env.locals h' ((s.heap.objs.size, krsIt (a₀ + ((i + 1 : Nat) : Int) * c) ((n : Int) - ((i + 1 : Nat) : Int)) c) :: nx) ∧ (∀ p ∈ nx, p.1 ≠ s.heap.objs.size) ∧ J (i + 1) m' nx) →
        LoopStepU h₀ env.locals [s.heap.objs.size] own (J (i + 1)) { s with heap := hh', toks := tk' } .next s₂ := by
      rintro ⟨h', tk, m', nx, e, F', N', ho, r⟩
      refine ⟨rfl, h', tk, m', nx, e, F', fun p hp => ?_, fun p hp hI => ho p hp (List.mem_singleton.mp hI), r⟩
      rcases List.mem_append.mp hp with hp | hp
      · have h1 : p.1 = s.heap.objs.size := List.mem_singleton.mp (hown p hp)
        have h2 : hh'.get? p.1 = some p.2 := hget p hp
        have h3 : p = (s.heap.objs.size, krsIt (a₀ + ((i + 1 : Nat) : Int) * c) ((n : Int) - ((i + 1 : Nat) : Int)) c) := by
          rw [h1, hst'] at h2
          exact Prod.ext h1 (Option.some.inj h2).symm
        rw [h3]; exact N' _ (List.mem_cons_self ..)
      · exact N' _ (List.mem_cons_of_mem _ hp)
    cases f with
    | ret v => exact .ret p
    | brk => exact .brk p
    | next => exact .next (fin p)
    | cont => exact .cont (fin p)
  · rintro h' tk m' news' F' N' _ hJ
    exact done m' news' h' tk hJ F' N'
end
section
variable {prog : Program} {w : World} {A : Around} {E : Value → Shared → Prop} {s : Shared} {env : Env} {h₀ : Heap} {x : Str} {body : List Stmt} {Q : Flow → Shared → Prop}
theorem range_acc1 {r : Addr} {a₀ b₀ c : Int} {t₀ u₀ v₀ tc : Tok} {m₀ : Str → Option Value} {news : List (Addr × Obj)} (y : Str) (n : Nat) (f : Nat → Int)
    (hh : A.handled = none) (hr : IsRange s.heap r a₀ b₀ c t₀ u₀ v₀) (hsmall : Builtin.Range.small a₀ b₀ c = true) (hn : Builtin.Range.rangeSize a₀ b₀ c = (n : Int)) (F : Fr h₀ env.locals s.heap m₀) (N : News h₀ env.locals s.heap news) (hy : m₀ y = some (.int (f 0) tc))
    (turn : ∀ I : Addr, (∀ p ∈ news, p.1 < I) → ∀ i t ta h tk o, i < n → Fr h₀ env.locals h (fun z => if z = x then some (.int (a₀ + (i : Int) * c) t) else if z = y then some (.int (f i) ta) else m₀ z) → News h₀ env.locals h ((I, o) :: news) →
      wpAny (model prog w) A (execs body env) (LPost h₀ env.locals I o (fun m' nx => nx = news ∧ (∃ v t', m' y = some (.int v t') ∧ v = f (i + 1)) ∧ ∀ z, z ≠ x → z ≠ y → m' z = m₀ z) { s with heap := h, toks := tk } Q) E { s with heap := h, toks := tk })
    (done : ∀ (u : Str → Option Value) t h tk, Fr h₀ env.locals h (fun z => if z = x then u z else if z = y then some (.int (f n) t) else m₀ z) → News h₀ env.locals h news → Q .next { s with heap := h, toks := tk }) :
    wpAny (model prog w) A (pyIter (.ref r)) (fun it s₂ => LoopAtV prog w A h₀ env x body Q E it s₂) E s := by
  refine iter_rangeJ n (fun i m nx => nx = news ∧ (∃ v t', m y = some (.int v t') ∧ v = f i) ∧ ∀ z, z ≠ x → z ≠ y → m z = m₀ z) hh hr hsmall hn F N ⟨rfl, ⟨_, _, hy, rfl⟩, fun _ _ _ => rfl⟩ ?_ ?_
  · rintro I hI i t m₁ nx h tk o hin ⟨rfl, ⟨v, ta, hv, rfl⟩, hm⟩ _ F₁ N₁
    rw [map_one hv hm] at F₁
    exact turn I hI i t ta h tk o hin F₁ N₁
  · rintro m₁ nx h tk ⟨rfl, ⟨v, ta, hv, rfl⟩, hm⟩ F₁ N₁
    refine done m₁ ta h tk ?_ N₁
    rw [done_one hv hm]; exact F₁
end
theorem ne_of_lts {I : Addr} {news : List (Addr × Obj)} (h : ∀ p ∈ news, p.1 < I) : ∀ p ∈ news, p.1 ≠ I := fun p hp => Nat.ne_of_lt (h p hp)
theorem fitsL {i : Int} (h0 : 0 ≤ i) (h1 : i < 2 ^ 62) : Builtin.Range.rangeFitsLong i = true := by
  unfold Builtin.Range.rangeFitsLong
  rw [Bool.and_eq_true, decide_eq_true_eq, decide_eq_true_eq]
  exact ⟨Int.le_trans (by decide) h0, Int.lt_trans h1 (by decide)⟩
theorem size_le {a b c : Int} (ha : 0 ≤ a) (hb : 0 ≤ b) (hc : 0 < c) : 0 ≤ Builtin.Range.rangeSize a b c ∧ Builtin.Range.rangeSize a b c ≤ b := by
  unfold Builtin.Range.rangeSize
  rw [if_pos hc]
  split
  · have h1 : 0 ≤ b - a - 1 := by omega
    have h2 := Int.ediv_le_self c h1
    have h3 := Int.ediv_nonneg h1 (Int.le_of_lt hc)
    omega
  · exact ⟨Int.le_refl _, hb⟩
theorem small_up {a b c : Int} (ha : 0 ≤ a) (ha' : a < 2 ^ 60) (hb : 0 ≤ b) (hb' : b < 2 ^ 60) (hc : 0 < c) (hc' : c < 1000) : Builtin.Range.small a b c = true := by
  obtain ⟨r0, r1⟩ := size_le ha hb hc
  have up : (2 : Int) ^ 60 < 2 ^ 62 := by decide
  unfold Builtin.Range.small
  rw [fitsL ha (Int.lt_trans ha' up), fitsL hb (Int.lt_trans hb' up), fitsL (Int.le_of_lt hc) (Int.lt_trans hc' (by decide)), fitsL r0 (Int.lt_trans (Int.lt_of_le_of_lt r1 hb') up), if_pos hc, fitsL (i := b + (c - 1)) (by omega) (by omega), Bool.or_true]
  rfl
theorem size_two {n : Nat} {b : Int} (h : b = 2 * (n : Int)) : Builtin.Range.rangeSize 0 b 2 = (n : Int) := by
  subst h
  unfold Builtin.Range.rangeSize
  simp only [show (2 : Int) > 0 from by decide, if_true]
  split <;> omega
theorem size_one {n : Nat} {b : Int} (h : b = (n : Int)) : Builtin.Range.rangeSize 0 b 1 = (n : Int) := by
  subst h
  rw [rangeSize_one]
  split <;> omega

/-- the sum of the 16-bit words of a list of octets, the last one padded -/
def wsum : List Int → Int
  | [] => 0
  | [a] => a * 256
  | a :: b :: r => a * 256 + b + wsum r
def psum (l : List Int) : Nat → Int
  | 0 => 0
  | i + 1 => psum l i + (l.getD (2 * i) 0 * 256 + l.getD (2 * i + 1) 0)
theorem psum_cons (a b : Int) (r : List Int) : ∀ i, psum (a :: b :: r) (i + 1) = a * 256 + b + psum r i
  | 0 => by simp [psum]
  | i + 1 => by
    rw [psum, psum_cons a b r i, psum]
    have e1 : (a :: b :: r).getD (2 * (i + 1)) 0 = r.getD (2 * i) 0 := by
      rw [show 2 * (i + 1) = 2 * i + 1 + 1 from by omega]; rfl
    have e2 : (a :: b :: r).getD (2 * (i + 1) + 1) 0 = r.getD (2 * i + 1) 0 := by
      rw [show 2 * (i + 1) + 1 = 2 * i + 1 + 1 + 1 from by omega]; rfl
    rw [e1, e2]
    omega
theorem psum_all : ∀ l : List Int, psum l (l.length / 2) + (if l.length % 2 = 1 then l.getD (l.length - 1) 0 * 256 else 0) = wsum l
  | [] => rfl
  | [a] => by simp [psum, wsum]
  | a :: b :: r => by
    have ih := psum_all r
    have e : (a :: b :: r).length / 2 = r.length / 2 + 1 := by simp only [List.length_cons]; omega
    have e2 : (a :: b :: r).length % 2 = r.length % 2 := by simp only [List.length_cons]; omega
    rw [e, e2, psum_cons, wsum, ← ih]
    by_cases h : r.length % 2 = 1
    · rw [if_pos h, if_pos h]
      have e3 : (a :: b :: r).getD ((a :: b :: r).length - 1) 0 = r.getD (r.length - 1) 0 := by
        obtain ⟨k, hk⟩ : ∃ k, r.length = k + 1 := ⟨r.length - 1, by omega⟩
        simp only [List.length_cons, hk]
        rfl
      rw [e3]
      omega
    · rw [if_neg h, if_neg h]
      omega
theorem wsum_pad : ∀ l : List Int, l.length % 2 = 1 → wsum (l ++ [0]) = wsum l
  | [], h => by simp at h
  | [a], _ => by simp [wsum]
  | a :: b :: r, h => by
    show a * 256 + b + wsum (r ++ [0]) = a * 256 + b + wsum r
    rw [wsum_pad r (by simp only [List.length_cons] at h; omega)]
theorem wsum_nonneg : ∀ {l : List Int}, KBa.In l → 0 ≤ wsum l ∧ wsum l ≤ 65535 * l.length
  | [], _ => by simp [wsum]
  | [a], h => by have := h a (.head _); simp only [wsum, List.length_cons, List.length_nil]; omega
  | a :: b :: r, h => by
    have h1 := h a (.head _)
    have h2 := h b (.tail _ (.head _))
    have ih := wsum_nonneg (l := r) fun k hk => h k (.tail _ (.tail _ hk))
    simp only [wsum, List.length_cons]
    omega
theorem psum_nonneg {l : List Int} (h : KBa.In l) : ∀ i, 0 ≤ psum l i ∧ psum l i ≤ 65535 * i
  | 0 => by simp [psum]
  | i + 1 => by
    have ih := psum_nonneg h i
    have h1 := in_getD h (2 * i)
    have h2 := in_getD h (2 * i + 1)
    rw [psum]
    omega
/-- the ones' complement fold -/
def cfold (n : Int) : Int := if n = 0 then 0 else (n - 1) % 65535 + 1
theorem cfold_small {n : Int} (h0 : 0 ≤ n) (h1 : n ≤ 65535) : cfold n = n := by
  unfold cfold
  split <;> omega
theorem cfold_step {n : Int} (h : 65535 < n) : cfold (n % 65536 + n / 65536) = cfold n := by
  unfold cfold
  rw [if_neg (by omega), if_neg (by omega)]
  omega
theorem cfold_in {n : Int} (h : 0 ≤ n) : 0 ≤ cfold n ∧ cfold n ≤ 65535 := by
  unfold cfold
  split <;> omega

theorem lay49 : True := by
  k_with "my pyIter ref" => ((k_here; (with_reducible show wpAny _ _ (pyIter (Value.ref _)) (fun it s₂ => LoopAtV _ _ _ _ _ _ _ _ _ it s₂) _ _); k_extra "my_loop"))
  k_with "my LPost" => ((dsimp only [LPost]; fail_if_success (show ∃ _, _)))
  k_with "my exec While" => ((k_here; k_extra "my_while"))
  exact True.intro
theorem fold_state {n t : Int} (h : 65535 < t) (_h0 : 0 ≤ t) (e : cfold t = cfold n) : 0 ≤ t % 65536 + t / 65536 ∧ cfold (t % 65536 + t / 65536) = cfold n := ⟨by omega, by rw [cfold_step h, e]⟩
theorem fold_less {t : Int} (h : 65535 < t) : (t % 65536 + t / 65536).toNat < t.toNat := by omega
theorem fold_end {n t : Int} (h0 : 0 ≤ t) (h : ¬ 65535 < t) (e : cfold t = cfold n) : t = cfold n := by rw [← e, cfold_small h0 (by omega)]
theorem int_ret {n k : Int} {t : Tok} (h : k = n) : ∃ t', Value.int k t = (fun t' => Value.int n t') t' := ⟨t, by rw [h]⟩
theorem fold_spec {w : World} {news : List (Addr × Obj)} (n : Int) (t : Tok) (h0 : 0 ≤ n) :
    Spec w 10 107 [.int n t] news (Pure news fun t' => .int (cfold n) t') := by
  unfold Spec
  intro loose mean mg mb dp un gd cn cs a ccd cl outer A₀ base h₀ L m s Q E B F X N T hk hd hu hret
  k_with "state" => first | exact fold_state (by assumption) (by assumption) (by assumption) | exact ⟨h0, rfl⟩
  k_with "measure" => exact fold_less (by assumption)
  k_with "exec While Compare cons nil" => k_while (fun (_ : List Int) t => 0 ≤ t ∧ cfold t = cfold n) (fun (_ : List Int) t => t.toNat) "total"
  k_extra "my enter"
  k_steps
  exact hret _ _ _ _ ⟨rfl, int_ret (fold_end (by assumption) (by assumption) (by assumption))⟩ (by k_asm) (cb_drop (by k_asm) (by intro p hp; k_ownIn))
theorem lay52 : True := by
  k_with "my call ref" => (k_here; (with_reducible show wpAny _ _ (call (Value.ref 107) _) _ _ _); k_dflt (refine pure_use (by k_asm) (by k_asm) (by k_asm) (by k_asm) (by k_asm) (by first | exact rfl | assumption) (by ktr_room) (by ktr_units) (fold_spec _ _ (by first | with_reducible assumption | decide | omega)) ?_); intro t' h' tk' F' N'; (try dsimp only); (try k_sweep); (try k_fold))
  exact True.intro
theorem psum_next {o : List Int} {i : Nat} {j k : Int} (hj : j = 0 + (i : Int) * 2) (hk : k = 0 + (i : Int) * 2 + 1) : psum o i + (o.getD j.toNat 0 * 256 + o.getD k.toNat 0) = psum o (i + 1) := by
  subst hj hk
  rw [psum, show (0 + (i : Int) * 2).toNat = 2 * i from by omega, show (0 + (i : Int) * 2 + 1).toNat = 2 * i + 1 from by omega]
theorem psum_end0 {o : List Int} (h : ¬ (o.length : Int) - (o.length : Int) % 2 < o.length) : psum o (o.length / 2) = wsum o := by
  rw [← psum_all o, if_neg (by omega)]; omega
theorem psum_end1 {o : List Int} {j : Int} (hj : j = (o.length : Int) - (o.length : Int) % 2) (h : j < o.length) : psum o (o.length / 2) + o.getD j.toNat 0 * 256 = wsum o := by
  subst hj
  rw [← psum_all o, if_pos (by omega), show ((o.length : Int) - (o.length : Int) % 2).toNat = o.length - 1 from by omega]
theorem ones_sum_spec1 {w : World} {news : List (Addr × Obj)} (o : List Int) (t : Tok) (hl : o.length ≤ 100000) (hi : KBa.In o) :
    Spec w 14 115 [.bytes (byteArr o) t] news (Pure news fun t' => .int (cfold (wsum o)) t') := by
  unfold Spec
  intro loose mean mg mb dp un gd cn cs a ccd cl outer A₀ base h₀ L m s Q E B F X N T hk hd hu hret
  have hp := psum_nonneg hi
  k_with "my_loop" => (
    (rename Fr _ _ _ _ => F'); (rename News _ _ _ _ => N'); (rename IsRange _ _ _ _ _ _ _ _ => R')
    with_unfolding_all refine range_acc1 "total" (o.length / 2) (psum o) (by rfl) R' (small_up (by decide) (by decide) (by omega) (by omega) (by decide) (by decide)) (size_two (by omega)) F' N' (by rfl) (fun I hI i t1 t2 h1 k1 o1 hin F1 N1 => ?_) (fun u1 t1 h1 k1 F1 N1 => ?_)
    all_goals clear F' N' R'
    (focus have hpi := hp i)
    all_goals (try k_fold))
  have hpn := hp (o.length / 2)
  k_extra "my enter"
  k_steps
  · exact lpost_next news (by k_asm) (by k_asm) (ne_of_lts (by assumption)) ⟨rfl, ⟨_, _, by with_unfolding_all rfl, psum_next rfl rfl⟩, by k_same2⟩
  · exact hret _ _ _ _ ⟨rfl, int_ret (congrArg cfold (psum_end1 rfl (by assumption)))⟩ (by k_asm) (cb_drop (by k_asm) (by intro p hp; k_ownIn))
  · exact hret _ _ _ _ ⟨rfl, int_ret (congrArg cfold (psum_end0 (by assumption)))⟩ (by k_asm) (cb_drop (by k_asm) (by intro p hp; k_ownIn))
theorem lay53 : True := by
  k_with "my call ref" => (k_here; (with_reducible show wpAny _ _ (call (Value.ref 115) _) _ _ _); k_dflt (refine pure_use (by k_asm) (by k_asm) (by k_asm) (by k_asm) (by k_asm) (by first | exact rfl | assumption) (by ktr_room) (by ktr_units) (ones_sum_spec1 _ _ (by first | with_reducible assumption | decide | k_extra "my b_siz") (by k_extra "my b_in")) ?_); intro t' h' tk' F' N'; (try dsimp only); (try k_sweep); (try k_fold))
  exact True.intro
theorem ones_sum_spec2 {w : World} {news : List (Addr × Obj)} (o : List Int) (t tb : Tok) (hl : o.length ≤ 100000) (hi : KBa.In o) :
    Spec w 14 115 [.bytes (byteArr o) t, .int 0 tb] news (Pure news fun t' => .int (cfold (wsum o)) t') := by
  unfold Spec
  intro loose mean mg mb dp un gd cn cs a ccd cl outer A₀ base h₀ L m s Q E B F X N T hk hd hu hret
  have hp := psum_nonneg hi
  k_with "my_loop" => (
    (rename Fr _ _ _ _ => F'); (rename News _ _ _ _ => N'); (rename IsRange _ _ _ _ _ _ _ _ => R')
    with_unfolding_all refine range_acc1 "total" (o.length / 2) (psum o) (by rfl) R' (small_up (by decide) (by decide) (by omega) (by omega) (by decide) (by decide)) (size_two (by omega)) F' N' (by rfl) (fun I hI i t1 t2 h1 k1 o1 hin F1 N1 => ?_) (fun u1 t1 h1 k1 F1 N1 => ?_)
    all_goals clear F' N' R'
    (focus have hpi := hp i)
    all_goals (try k_fold))
  have hpn := hp (o.length / 2)
  k_extra "my enter"
  k_steps
  · exact lpost_next news (by k_asm) (by k_asm) (ne_of_lts (by assumption)) ⟨rfl, ⟨_, _, by with_unfolding_all rfl, psum_next rfl rfl⟩, by k_same2⟩
  · exact hret _ _ _ _ ⟨rfl, int_ret (congrArg cfold (psum_end1 rfl (by assumption)))⟩ (by k_asm) (cb_drop (by k_asm) (by intro p hp; k_ownIn))
  · exact hret _ _ _ _ ⟨rfl, int_ret (congrArg cfold (psum_end0 (by assumption)))⟩ (by k_asm) (cb_drop (by k_asm) (by intro p hp; k_ownIn))
theorem lay54 : True := by
  k_with "my call ref" => (k_here; (with_reducible show wpAny _ _ (call (Value.ref 115) _) _ _ _); k_dflt (refine pure_use (by k_asm) (by k_asm) (by k_asm) (by k_asm) (by k_asm) (by first | exact rfl | assumption) (by ktr_room) (by ktr_units) (ones_sum_spec2 _ _ _ (by first | with_reducible assumption | decide | k_extra "my b_siz") (by k_extra "my b_in")) ?_); intro t' h' tk' F' N'; (try dsimp only); (try k_sweep); (try k_fold))
  exact True.intro

-- P04: checksum, _law_sum, _law_word
theorem checksum_spec {w : World} {news : List (Addr × Obj)} (o : List Int) (t : Tok) (hl : o.length ≤ 100000) (hi : KBa.In o) :
    Spec w 16 123 [.bytes (byteArr o) t] news (Pure news fun t' => .int (65535 - cfold (wsum o)) t') := by
  unfold Spec
  intro loose mean mg mb dp un gd cn cs a ccd cl outer A₀ base h₀ L m s Q E B F X N T hk hd hu hret
  k_extra "my enter"
  k_steps
  all_goals exact hret _ _ _ _ ⟨rfl, _, rfl⟩ (by k_asm) (cb_drop (by k_asm) (by intro p hp; k_ownIn))
theorem lay58 : True := by
  k_with "my call ref" => (k_here; (with_reducible show wpAny _ _ (call (Value.ref 123) _) _ _ _); k_dflt (refine pure_use (by k_asm) (by k_asm) (by k_asm) (by k_asm) (by k_asm) (by first | exact rfl | assumption) (by ktr_room) (by ktr_units) (checksum_spec _ _ (by first | with_reducible assumption | decide | k_extra "my b_siz") (by k_extra "my b_in")) ?_); intro t' h' tk' F' N'; (try dsimp only); (try k_sweep); (try k_fold))
  exact True.intro
theorem pow_w {prog : Program} {w : World} {A : Around} {E : Value → Shared → Prop} {s : Shared} {t u : Tok} {sz k : Int} {Q : Value → Shared → Prop} (h0 : 0 ≤ k) (h : k < 0 + ((Int.toNat (sz - 0) : Nat) : Int)) (h2 : sz ≤ 1000) (hQ : Q (.int (256 ^ (sz - 1 - k).toNat) s.toks) { s with toks := s.toks + 1 }) :
    wpAny (model prog w) A (binaryOp .Pow (.int 256 t) (.int (sz - 1 - k) u)) Q E s := pow_int_small (by omega) (by omega) (by decide) hQ
theorem lay55 : True := by
  k_with "my binaryOp Pow int int" => ((k_here; (with_reducible refine pow_w (by with_reducible assumption) (by with_reducible assumption) (by decide) ?_)))
  exact True.intro
theorem pow256_lt {k : Nat} (h : k < 4) : (256 : Int) ^ k < 1073741824 ∧ 0 < (256 : Int) ^ k :=
  (by decide : ∀ k : Fin 4, (256 : Int) ^ k.val < 1073741824 ∧ 0 < (256 : Int) ^ k.val) ⟨k, h⟩
section
variable {prog : Program} {w : World} {A : Around} {E : Value → Shared → Prop} {s : Shared} {a : Int} {t u : Tok} {Q : Value → Shared → Prop}
theorem fdivP {k : Nat} (hk : k < 4) (h : Q (.int (a / 256 ^ k) s.toks) { s with toks := s.toks + 1 }) : wpAny (model prog w) A (binaryOp .FloorDiv (.int a t) (.int (256 ^ k) u)) Q E s :=
  fdivL (pow256_lt hk).2 (pow256_lt hk).1 h
end
theorem lay56 : True := by
  k_with "my binaryOp FloorDiv int int" => ((k_here; (with_reducible refine fdivP (by omega) ?_)))
  k_with "my enterC" => ((refine wpAny_call ?_; k_dflt (refine code_defC (by k_asm) (by k_asm) (by k_asm) (by k_asm) (by k_asm) (by exact rfl) (by exact rfl) (by assumption) (by k_is) (by k_is) (by ktr_room) (by first | exact BindsTo.of_eq rfl | exact binds_K (by k_in) rfl (by k_is) rfl rfl rfl) (by exact rfl) (by decide +kernel) ?_ (by exact rfl) (by exact rfl) (by exact rfl); k_whole; intro g' L' h' tk' cells' FG' F' N' Y' B' X' T' l1; (try k_lt l1); k_cells Y'; (try simp only [List.cons_append, List.nil_append] at N'); (try dsimp only); (try k_fold))))
  exact True.intro
theorem pad_len (o : List Int) : (o ++ List.replicate ((o.length : Int) % 2).toNat 0).length = 2 * ((o.length + 1) / 2) := by
  rw [List.length_append, List.length_replicate]; omega
theorem pad_sum (o : List Int) : psum (o ++ List.replicate ((o.length : Int) % 2).toNat 0) ((o.length + 1) / 2) = wsum o := by
  have e : ((o.length + 1) / 2) = (o ++ List.replicate ((o.length : Int) % 2).toNat 0).length / 2 := by rw [pad_len]; omega
  have h := psum_all (o ++ List.replicate ((o.length : Int) % 2).toNat 0)
  rw [if_neg (by rw [pad_len]; omega), Int.add_zero] at h
  rw [e, h]
  by_cases hh : o.length % 2 = 1
  · rw [show ((o.length : Int) % 2).toNat = 1 from by omega]
    exact wsum_pad o hh
  · rw [show ((o.length : Int) % 2).toNat = 0 from by omega]
    simp
theorem fold_end2 {n t : Int} (h0 : 0 ≤ t) (h : ¬ 65535 < t) (e : cfold t = cfold n) : 65535 - t = 65535 - cfold n := by rw [fold_end h0 h e]
theorem psum_next2 {o : List Int} {i : Nat} {j k : Int} (hj : j = 0 + (i : Int) * 2) (hk : k = 0 + (i : Int) * 2 + 1) : psum o i + o.getD j.toNat 0 * 256 + o.getD k.toNat 0 = psum o (i + 1) := by
  rw [← psum_next hj hk]; omega
theorem law_sum_spec {w : World} {news : List (Addr × Obj)} (o : List Int) (t : Tok) (hl : o.length ≤ 100000) (hi : KBa.In o) :
    Spec w 16 452 [.bytes (byteArr o) t] news (Pure news fun t' => .int (65535 - cfold (wsum o)) t') := by
  unfold Spec
  intro loose mean mg mb dp un gd cn cs a ccd cl outer A₀ base h₀ L m s Q E B F X N T hk hd hu hret
  have hpad := pad_len o
  have hpin : KBa.In (o ++ List.replicate ((o.length : Int) % 2).toNat 0) := in_app hi in_rep
  have hp := psum_nonneg hpin
  have hps := pad_sum o
  have hpn := hp ((o.length + 1) / 2)
  k_with "state" => first | exact fold_state (by assumption) (by assumption) (by assumption) | exact ⟨by omega, by rw [hps]⟩
  k_with "measure" => exact fold_less (by assumption)
  k_with "exec While Compare cons nil" => k_while (fun (_ : List Int) t => 0 ≤ t ∧ cfold t = cfold (wsum o)) (fun (_ : List Int) t => t.toNat) "total"
  k_with "my_loop" => (
    (rename Fr _ _ _ _ => F'); (rename News _ _ _ _ => N'); (rename IsRange _ _ _ _ _ _ _ _ => R')
    with_unfolding_all refine range_acc1 "total" ((o.length + 1) / 2) (psum (o ++ List.replicate ((o.length : Int) % 2).toNat 0)) (by rfl) R' (small_up (by decide) (by decide) (by omega) (by k_extra "my b_siz") (by decide) (by decide)) (size_two (by omega)) F' N' (by rfl) (fun I hI i t1 t2 h1 k1 o1 hin F1 N1 => ?_) (fun u1 t1 h1 k1 F1 N1 => ?_)
    all_goals clear F' N' R'
    (focus have hpi := hp i)
    all_goals (try k_fold))
  k_extra "my enter"
  k_steps
  · exact lpost_next _ (by k_asm) (by k_asm) (ne_of_lts (by assumption)) ⟨rfl, ⟨_, _, by with_unfolding_all rfl, psum_next2 rfl rfl⟩, by k_same2⟩
  · exact hret _ _ _ _ ⟨rfl, int_ret (fold_end2 (by assumption) (by assumption) (by assumption))⟩ (by k_asm) (cb_drop (by k_asm) (by intro p hp; k_ownIn))
theorem lay59 : True := by
  k_with "my call ref" => (k_here; (with_reducible show wpAny _ _ (call (Value.ref 452) _) _ _ _); k_dflt (refine pure_use (by k_asm) (by k_asm) (by k_asm) (by k_asm) (by k_asm) (by first | exact rfl | assumption) (by ktr_room) (by ktr_units) (law_sum_spec _ _ (by first | with_reducible assumption | decide | k_extra "my b_siz") (by k_extra "my b_in")) ?_); intro t' h' tk' F' N'; (try dsimp only); (try k_sweep); (try k_fold))
  exact True.intro
theorem word2_is (n : Int) : List.map (fun k' : Int => n / 256 ^ (2 - 1 - k').toNat % 256) (rangeKs 0 (2 - 0 : Int).toNat) = w16 n := by
  show [n / 256 ^ 1 % 256, n / 256 ^ 0 % 256] = _
  unfold w16
  rw [Int.pow_zero, Int.ediv_one]
  rfl
theorem word4_is (n : Int) : List.map (fun k' : Int => n / 256 ^ (4 - 1 - k').toNat % 256) (rangeKs 0 (4 - 0 : Int).toNat) = w32 n := by
  show [n / 256 ^ 3 % 256, n / 256 ^ 2 % 256, n / 256 ^ 1 % 256, n / 256 ^ 0 % 256] = [n / 65536 / 256 % 256, n / 65536 % 256, n / 256 % 256, n % 256]
  rw [Int.pow_zero, Int.ediv_one, show (256 : Int) ^ 3 = 65536 * 256 from by decide, show (256 : Int) ^ 2 = 65536 from by decide, show (256 : Int) ^ 1 = 256 from by decide, Int.ediv_ediv_of_nonneg (by decide)]
theorem bytes_ret {a b : List Int} {t : Tok} (h : a = b) : ∃ t', Value.bytes (byteArr a) t = (fun t' => Value.bytes (byteArr b) t') t' := ⟨t, by rw [h]⟩
theorem law_word2_spec {w : World} {news : List (Addr × Obj)} (n : Int) (t u : Tok) (h0 : 0 ≤ n) :
    Spec w 16 457 [.int n t, .int 2 u] news (Pure news fun t' => .bytes (byteArr (w16 n)) t') := by
  unfold Spec
  intro loose mean mg mb dp un gd cn cs a ccd cl outer A₀ base h₀ L m s Q E B F X N T hk hd hu hret
  k_extra "my enterC"
  k_steps
  · exact hret _ _ _ _ ⟨rfl, bytes_ret (word2_is n)⟩ (by k_asm) (cb_drop (by k_asm) (by intro p hp; k_ownIn))
theorem law_word4_spec {w : World} {news : List (Addr × Obj)} (n : Int) (t u : Tok) (h0 : 0 ≤ n) :
    Spec w 16 457 [.int n t, .int 4 u] news (Pure news fun t' => .bytes (byteArr (w32 n)) t') := by
  unfold Spec
  intro loose mean mg mb dp un gd cn cs a ccd cl outer A₀ base h₀ L m s Q E B F X N T hk hd hu hret
  k_extra "my enterC"
  k_steps
  · exact hret _ _ _ _ ⟨rfl, bytes_ret (word4_is n)⟩ (by k_asm) (cb_drop (by k_asm) (by intro p hp; k_ownIn))
theorem word_ck {o : List Int} (h : KBa.In o) : 0 ≤ 65535 - cfold (wsum o) := by
  have := (cfold_in (wsum_nonneg h).1).2
  omega
theorem lay60 : True := by
  k_with "my call ref" => (k_here; (with_reducible show wpAny _ _ (call (Value.ref 457) _) _ _ _); k_dflt (refine pure_use (by k_asm) (by k_asm) (by k_asm) (by k_asm) (by k_asm) (by first | exact rfl | assumption) (by ktr_room) (by ktr_units) (law_word2_spec _ _ _ (by first | omega | exact word_ck (by k_extra "my b_in"))) ?_); intro t' h' tk' F' N'; (try dsimp only); (try k_sweep); (try k_fold))
  k_with "my call ref" => (k_here; (with_reducible show wpAny _ _ (call (Value.ref 457) _) _ _ _); k_dflt (refine pure_use (by k_asm) (by k_asm) (by k_asm) (by k_asm) (by k_asm) (by first | exact rfl | assumption) (by ktr_room) (by ktr_units) (law_word4_spec _ _ _ (by first | with_reducible assumption | decide | omega)) ?_); intro t' h' tk' F' N'; (try dsimp only); (try k_sweep); (try k_fold))
  exact True.intro

-- P05: icmp.py: messages
set_option genInjectivity false in
set_option genSizeOf false in
structure MD where
  h1 : Int
  h2 : Int
  h3 : Int
  h4 : Int
  t1 : Tok
  t2 : Tok
  t3 : Tok
  t4 : Tok
abbrev msgDict (q : MD) (kind code rest pl : Value) : List DictEntry :=
  [⟨q.h1, .str (Str.ofString "kind") q.t1, kind⟩, ⟨q.h2, .str (Str.ofString "code") q.t2, code⟩, ⟨q.h3, .str (Str.ofString "rest") q.t3, rest⟩, ⟨q.h4, .str (Str.ofString "payload") q.t4, pl⟩]
/-- a new message comes back -/
abbrev NewMsg (news : List (Addr × Obj)) (a b c d : Value) : Value → List (Addr × Obj) → Prop := fun r n' => ∃ x dx q, r = .ref x ∧ n' = (x, instObj 175 dx) :: (dx, dictOf (msgDict q a b c d) 4) :: news ∧ (∀ p ∈ news, p.1 < dx) ∧ dx < x
theorem newMsg_intro {news n' : List (Addr × Obj)} {a b c d : Value} {x dx : Addr} {h1 h2 h3 h4 : Int} {t1 t2 t3 t4 : Tok} (l1 : ∀ p ∈ news, p.1 < dx) (l2 : dx < x)
    (e : n' = (x, instObj 175 dx) :: (dx, dictOf [⟨h1, .str (Str.ofString "kind") t1, a⟩, ⟨h2, .str (Str.ofString "code") t2, b⟩, ⟨h3, .str (Str.ofString "rest") t3, c⟩, ⟨h4, .str (Str.ofString "payload") t4, d⟩] 4) :: news) :
    NewMsg news a b c d (.ref x) n' := ⟨x, dx, ⟨h1, h2, h3, h4, t1, t2, t3, t4⟩, rfl, e, l1, l2⟩
theorem newMsg_keep {news n' : List (Addr × Obj)} {a b c d : Value} {x dx : Addr} {q : MD} (l1 : ∀ p ∈ news, p.1 < dx) (l2 : dx < x)
    (e : n' = (x, instObj 175 dx) :: (dx, dictOf (msgDict q a b c d) 4) :: news) : NewMsg news a b c d (.ref x) n' := ⟨x, dx, q, rfl, e, l1, l2⟩
/-- a new message comes back, its fields up to tokens -/
abbrev RetMsg (news : List (Addr × Obj)) (a b c d : Tok → Value) : Value → List (Addr × Obj) → Prop := fun r n' => ∃ ta tb tc td, NewMsg news (a ta) (b tb) (c tc) (d td) r n'
section
variable {w : World} {D : Nat} {f : Addr} {vs : List Value} {news : List (Addr × Obj)} {a1 a2 a3 a4 : Tok → Value}
  {loose : List Str} {mean : ExcName → Option Value} {mg mb : Str → Option Value}
  {dp un : Nat} {gd : Option (List Code)} {cn : Str} {cs : Scope} {a : Addr} {ccd : Value} {cl : List (Str × Addr)} {outer : List Env} {A₀ : Around} {base h₀ : Heap} {L : Addr} {m : Str → Option Value} {s : Shared} {Q E : Value → Shared → Prop}
theorem msg_use (B : Below A₀ base outer h₀) (F : Fr h₀ L s.heap m) (X : (hd.heap_1 w.params).In h₀) (N : News h₀ L s.heap news) (T : Top topProg loose mean mg mb h₀) (hk : cs.kind = .function) (hd : dp + D < recursionLimit) (hu : un + 8 * D < cLine)
    (C : Spec w D f vs news (RetMsg news a1 a2 a3 a4)) (ret : ∀ x d q t1 t2 t3 t4 h' tk', Fr h₀ L h' m → News h₀ L h' ((x, instObj 175 d) :: (d, dictOf (msgDict q (a1 t1) (a2 t2) (a3 t3) (a4 t4)) 4) :: news) → (∀ p ∈ news, @LT.lt Nat _ p.1 x) → (∀ p ∈ news, @LT.lt Nat _ p.1 d) → @LT.lt Nat _ d x → Q (.ref x) { s with heap := h', toks := tk' }) :
    wpAny (model Challenge.rw_nu0135_01.row.prog w) (ktrTop dp un gd cn cs L a ccd cl outer) (call (.ref f) vs) Q E s :=
  spec_use B F X N T hk hd hu C fun r n' h' tk' R' F' N' => by
    obtain ⟨t1, t2, t3, t4, x, d, q, rfl, rfl, l1, l2⟩ := R'
    exact ret x d q t1 t2 t3 t4 h' tk' F' N' (lt_all l1 l2) l1 l2
end
theorem new_msg_spec {w : World} {news : List (Addr × Obj)} (a b c d : Value) : Spec w 14 175 [a, b, c, d] news (RetMsg news (fun _ => a) (fun _ => b) (fun _ => c) (fun _ => d)) := by
  unfold Spec
  intro loose mean mg mb dp un gd cn cs a' ccd cl outer A₀ base h₀ L m s Q E B F X N T hk hd hu hret
  k_extra "my enter_cls"
  k_steps
  exact hret _ _ _ _ ⟨0, 0, 0, 0, newMsg_intro (by assumption) (by assumption) rfl⟩ (by k_asm) (by k_asm)
theorem lay64 : True := by
  k_with "my call ref" => (k_here; (with_reducible show wpAny _ _ (call (Value.ref 175) _) _ _ _); k_dflt (refine msg_use (by k_asm) (by k_asm) (by k_asm) (by k_asm) (by k_asm) (by first | exact rfl | assumption) (by ktr_room) (by ktr_units) (new_msg_spec _ _ _ _) ?_); intro x' d' q' ta' tb' tc' td' h' tk' F' N' l4' l1' l2'; (try k_lt l4'); (try k_lt l1'); (try k_lt2 l2'); (try dsimp only); (try k_sweep); (try k_fold))
  exact True.intro
abbrev isErr (k : Int) : Bool := [3, 4, 5, 11, 12].any fun x => x == k
theorem is_error_kind_spec {w : World} {news : List (Addr × Obj)} (k : Int) (t : Tok) :
    Spec w 14 186 [.int k t] news (Pure news fun _ => .bool (isErr k)) := by
  unfold Spec
  intro loose mean mg mb dp un gd cn cs a' ccd cl outer A₀ base h₀ L m s Q E B F X N T hk hd hu hret
  k_extra "my enter"
  k_steps
  all_goals exact hret _ _ _ _ ⟨rfl, 0, rfl⟩ (by k_asm) (cb_drop (by k_asm) (by intro p hp; k_ownIn))
theorem lay65 : True := by
  k_with "my call ref" => (k_here; (with_reducible show wpAny _ _ (call (Value.ref 186) _) _ _ _); k_dflt (refine pure_use (by k_asm) (by k_asm) (by k_asm) (by k_asm) (by k_asm) (by first | exact rfl | assumption) (by ktr_room) (by ktr_units) (is_error_kind_spec _ _) ?_); intro t' h' tk' F' N'; (try dsimp only); (try k_sweep); (try k_fold))
  exact True.intro
theorem check_octet_spec {w : World} {news : List (Addr × Obj)} (k : Int) (t : Tok) (v : Value) (h0 : 0 ≤ k) (h1 : k ≤ 255) :
    Spec w 14 193 [.int k t, v] news (Pure news fun _ => .none) := by
  unfold Spec
  intro loose mean mg mb dp un gd cn cs a' ccd cl outer A₀ base h₀ L m s Q E B F X N T hk hd hu hret
  k_extra "my enter"
  k_steps
  all_goals exact hret _ _ _ _ ⟨rfl, 0, rfl⟩ (by k_asm) (cb_drop (by k_asm) (by intro p hp; k_ownIn))
theorem lay66 : True := by
  k_with "my call ref" => (k_here; (with_reducible show wpAny _ _ (call (Value.ref 193) _) _ _ _); k_dflt (refine pure_use (by k_asm) (by k_asm) (by k_asm) (by k_asm) (by k_asm) (by first | exact rfl | assumption) (by ktr_room) (by ktr_units) (check_octet_spec _ _ _ (by first | with_reducible assumption | decide | omega) (by first | with_reducible assumption | decide | omega)) ?_); intro t' h' tk' F' N'; (try dsimp only); (try k_sweep); (try k_fold))
  exact True.intro
def msgOct (k c r : Int) (p : List Int) : List Int := [k, c] ++ w16 (65535 - cfold (wsum ([k, c] ++ w16 0 ++ (w32 r ++ p)))) ++ (w32 r ++ p)
theorem msgOct_len (k c r : Int) (p : List Int) : (msgOct k c r p).length = 8 + p.length := by
  unfold msgOct
  simp only [List.length_append, List.length_cons, List.length_nil, w16_len, w32_len]
  omega
theorem msgOct_in {k c r : Int} {p : List Int} (h0 : 0 ≤ k) (h1 : k < 256) (h2 : 0 ≤ c) (h3 : c < 256) (hp : KBa.In p) : KBa.In (msgOct k c r p) :=
  in_app (in_app (in_cons h0 h1 (in_cons h2 h3 in_nil)) (w16_in _)) (in_app (w32_in _) hp)
theorem pack_icmp_spec {w : World} {news : List (Addr × Obj)} {x d : Addr} {q : MD} {k c r : Int} {p : List Int} {tk tc tr tp : Tok} (hx : (x, instObj 175 d) ∈ news) (hd' : (d, dictOf (msgDict q (.int k tk) (.int c tc) (.int r tr) (.bytes (byteArr p) tp)) 4) ∈ news)
    (h0 : 0 ≤ k) (h1 : k < 256) (h2 : 0 ≤ c) (h3 : c < 256) (h4 : 0 ≤ r) (h5 : r < 4294967296) (hp : KBa.In p) (hl : p.length ≤ 2000) :
    Spec w 18 200 [.ref x] news (Pure news fun t' => .bytes (byteArr (msgOct k c r p)) t') := by
  unfold Spec
  intro loose mean mg mb dp un gd cn cs a' ccd cl outer A₀ base h₀ L m s Q E B F X N T hk hd hu hret
  k_extra "my enter"
  k_steps
  all_goals exact hret _ _ _ _ ⟨rfl, _, rfl⟩ (by k_asm) (cb_drop (by k_asm) (by intro p hp; k_ownIn))
theorem lay67 : True := by
  k_with "my call ref" => (k_here; (with_reducible show wpAny _ _ (call (Value.ref 200) _) _ _ _); k_dflt (refine pure_use (by k_asm) (by k_asm) (by k_asm) (by k_asm) (by k_asm) (by first | exact rfl | assumption) (by ktr_room) (by ktr_units) (pack_icmp_spec (by k_mem) (by k_mem) (by first | with_reducible assumption | decide | omega) (by first | with_reducible assumption | decide | omega) (by first | with_reducible assumption | decide | omega) (by first | with_reducible assumption | decide | omega) (by first | with_reducible assumption | decide | omega) (by first | with_reducible assumption | decide | omega) (by k_extra "my b_in") (by first | with_reducible assumption | decide | k_extra "my b_siz")) ?_); intro t' h' tk' F' N'; (try dsimp only); (try k_sweep); (try k_fold))
  k_with "my b_in" => (first | with_reducible assumption | ((with_reducible show KBa.In (msgOct _ _ _ _)); (with_reducible refine msgOct_in ?_ ?_ ?_ ?_ ?_ <;> first | omega | k_extra "my b_in")))
  k_with "my b_len" => (((simp only [msgOct_len, w16_len, w32_len, List.length_append, List.length_cons, List.length_nil, List.length_take, List.length_drop, List.length_replicate, List.length_map]); omega))
  exact True.intro
theorem unpack_icmp_spec {w : World} {news : List (Addr × Obj)} (o : List Int) (t : Tok) (h8 : 8 ≤ o.length) (hl : o.length ≤ 2000) (hi : KBa.In o) (hs : cfold (wsum o) = 65535) :
    Spec w 18 207 [.bytes (byteArr o) t] news (RetMsg news (fun t => .int (o.getD 0 0) t) (fun t => .int (o.getD 1 0) t) (fun t => .int (g32 o 4) t) (fun t => .bytes (byteArr (o.drop 8)) t)) := by
  unfold Spec
  intro loose mean mg mb dp un gd cn cs a' ccd cl outer A₀ base h₀ L m s Q E B F X N T hk hd hu hret
  k_extra "my enter"
  k_steps

  · exact absurd hs (by assumption)
  · exact hret _ _ _ _ ⟨_, _, _, _, newMsg_keep (by assumption) (by assumption) rfl⟩ (by k_asm) (cb_drop (by k_asm) (by intro p hp; k_ownIn))
theorem lay68 : True := by
  k_with "my call ref" => (k_here; (with_reducible show wpAny _ _ (call (Value.ref 207) _) _ _ _); k_dflt (refine msg_use (by k_asm) (by k_asm) (by k_asm) (by k_asm) (by k_asm) (by first | exact rfl | assumption) (by ktr_room) (by ktr_units) (unpack_icmp_spec _ _ (by first | with_reducible assumption | decide | k_extra "my b_siz") (by first | with_reducible assumption | decide | k_extra "my b_siz") (by k_extra "my b_in") (by first | with_reducible assumption | assumption)) ?_); intro x' d' q' ta' tb' tc' td' h' tk' F' N' l4' l1' l2'; (try k_lt l4'); (try k_lt l1'); (try k_lt2 l2'); (try dsimp only); (try k_sweep); (try k_fold))
  exact True.intro

-- P06: an exception class with its own __init__ one level up (FormError): made, raised
section
open Builtin Builtin.ObjectAttr
variable {prog : Program} {w : World} {A : Around} {s : Shared} {K : Frag} {R : Result → Shared → Prop}
theorem osa_new {name : Str} {tk : Tok} {v : Value} {vs : Array Value} {C P x : Addr} {cd : ClassData} (X : K.In s.heap)
    (hx : s.heap.get? x = some { cls := .ref C, data := .fields vs }) (hc : clsIn K C = some cd) (hm : cd.mro = [.ref C, .ref P, .type "Exception", .type "BaseException", .type "object"]) (hh : cd.hasDict = true) (ht : takerIn K C name = some none)
    (h : ∀ h' d tk', (∀ b o, b ≠ x → s.heap.get? b = some o → h'.get? b = some o) → h'.get? x = some { cls := .ref C, dict := some d, data := .fields vs } → R (.ok (.ret .none)) { s with heap := h', toks := tk' }) :
    codeAny (model prog w) A (.call (.builtin "object.__setattr__") ⟨[.ref x, .str name tk, v], []⟩) R s := by
  obtain ⟨hp, g, dr, tk₀, os⟩ := s
  have SF := PySem.F.store_object
  have SE := PySem.F.store_Exception
  have I : InstAt hp x { cls := .ref C, data := .fields vs } C none := ⟨hx, rfl, rfl, trivial⟩
  have sub : Looks (model prog w) hp (isInstance (.ref x) (.type "object")) true := I.type.andThen (looks_mroIn X (by unfold mroIn; rw [hc, Option.bind_some, hm]; rfl))
  refine codeAny_call_builtin SF.slot.plain SF.entry (@check_slot (model prog w) _ _ ⟨hp, g, dr, tk₀, os⟩ "object.__setattr__" "object" "__setattr__" (.ref x) [.str name tk, v] [] _ SF.kind SF.split sub (SF.args (.ref x) (.str name tk) v) ?_)
  obtain ⟨attr, ha, hr⟩ := Option.bind_eq_some_iff.mp ht
  have hmr : Looks (model prog w) hp (mroOf (.ref C)) cd.mro := (looks_clsIn X hc).andThen .now
  have L3 : Looks (model prog w) hp (storeTaker? attr) none := by
    cases attr with
    | none => cases hr; exact .now
    | some a =>
      obtain ⟨b, hb, hb2⟩ := Option.map_eq_some_iff.mp hr
      refine (looks_takesIn X hb).andThen ?_
      cases b
      · exact .now
      · cases hb2
  rw [osa_eq, refuse_eq]
  refine wpAny_bind (wpAny_bind (I.type.here (wpAny_bind (hmr.here ?_))))
  rw [hm, refuseLoop_ref, refuseLoop_ref, SE.passes]
  refine wpAny_pure (wpAny_bind (I.type.here (wpAny_bind ((looks_findIn X ha).here (wpAny_bind (L3.here ?_))))))
  refine wpAny_bind (wpAny_pure (wpAny_bind (wpAny_bind (wpAny_loadPart hx (wpAny_bind ((looks_clsIn X hc).here ?_))))))
  rw [hh]
  dsimp only
  rw [if_neg (by decide), if_neg (by simp [typeHasDict])]
  dsimp only at hx
  have hx₁ : (hp.push { cls := .type "dict", data := .dict #[] }).get? x = some { cls := .ref C, data := .fields vs } := Heap.get?_push_of_some _ hx
  have hxs : x ≠ hp.objs.size := Nat.ne_of_lt (Heap.lt_size hx)
  refine wpAny_bind (wpAny_alloc' ?_)
  refine wpAny_bind (wpAny_update' hx₁ ?_)
  refine wpAny_pure ?_
  have hgd : ((hp.push { cls := .type "dict", data := .dict #[] }).update x fun o => { cls := o.cls, dict := some hp.objs.size, data := o.data, slots := o.slots }).get? hp.objs.size
      = some { cls := .type "dict", data := .dict #[] } :=
    (Heap.get?_update_ne _ _ _ _ hxs.symm).trans (Heap.get?_push_at rfl rfl)
  have hnd : ((hp.push { cls := .type "dict", data := .dict #[] }).update x fun o => { cls := o.cls, dict := some hp.objs.size, data := o.data, slots := o.slots }).Ns hp.objs.size (fun _ => none) :=
    ⟨_, #[], _, hgd, rfl, fun e he => absurd he (by simp), fun _ => rfl⟩
  show wpAny _ _ (storeInDict hp.objs.size (.str name tk) name v) _ _ _
  unfold storeInDict newKeyGuard
  refine wpAny_bind (wpAny_pure (wpAny_bind (wpAny_nsSet1 (Heap.Ns1.of_empty hnd) fun h' hn' hs => ?_)))
  obtain ⟨oD, esD, epD, hoD, hdD, hcD⟩ := hn'.count (Within.cons name v Within.nil)
  refine wpAny_bind (wpAny_lookBehind hoD (by rw [hdD]; exact pastItsLine_dict (Nat.le_trans hcD (by rw [List.length_cons, List.length_nil, sizeLine_eq]; omega))) ?_)
  wp_walk
  refine h h' hp.objs.size _ (fun b o hbx hb => ?_) ?_
  · exact (hs.2 b (Nat.ne_of_lt (Heap.lt_size hb))).trans ((Heap.get?_update_ne _ _ _ _ hbx).trans (Heap.get?_push_of_some _ hb))
  · exact (hs.2 x hxs).trans (Heap.get?_update_self _ hx₁ rfl)
end
abbrev bmE : List Value := [.type "Exception", .type "BaseException", .type "object"]
section
variable {prog : Program} {w : World} {A : Around} {E : Value → Shared → Prop} {h : Heap} {g : Array GenState} {d : Drawn} {t : Nat} {os : OsState} {K : Frag}
variable {nm q : Str} {C P N : Addr} {bs : List Value} {hdct : Bool} {sn : List Str} {sub : List Value} {ab : Bool} {col : Option Bool} {dd : Option Addr} {k0 k1 k2 k3 k5 : Option Value}
theorem check_new_E {M : Model} {rest : List Value} {Q : Unit → Shared → Prop} (hC : h.get? C = some (excClassObj nm q C N bs (.ref P :: bmE) hdct sn sub ab col dd k0 k1 k2 k3 k5 "Exception.__new__"))
    (hq : Q () ⟨h, g, d, t, os⟩) : wpAny M A (checkBuiltinCall "Exception.__new__" ⟨.ref C :: rest, []⟩) Q E ⟨h, g, d, t, os⟩ := by
  have F := PySem.F.excBase_Exception
  have hcont : (Value.ref C :: .ref P :: bmE).contains (.type "Exception") = true := by simp
  have hstar := F.noStar
  simp only [checkBuiltinCall, F.newKind, F.newSplit, F.newRow]
  repeat (first | refine wpAny_loadPart_at hC ?_ | (refine wpAny_isSubtype_exc hC ?_; rw [hcont]) | refine wpAny_staticBase_exc hC ?_ | refine wpAny_madeBy_exc hC ?_ | simp only [bne_self_eq_false, Bool.false_eq_true, if_false] | wp_step)
  exact hq
theorem exc_new_E {R : Result → Shared → Prop} {rest : List Value} (hC : h.get? C = some (excClassObj nm q C N bs (.ref P :: bmE) hdct sn sub ab col dd k0 k1 k2 k3 k5 "Exception.__new__"))
    (hq : R (.ok (.ret (.ref (h.objs.size + 1)))) ⟨(h.push { cls := .type "tuple", data := .seq rest.toArray }).push
      { cls := .ref C, data := .fields #[.ref h.objs.size, .none, .none, .none, .bool false, .none] }, g, d, t, os⟩) (hrest : rest.length ≤ sizeLine) :
    codeAny (model prog w) A (.builtin "Exception.__new__" ⟨.ref C :: rest, []⟩) R ⟨h, g, d, t, os⟩ := by
  have F := PySem.F.excBase_Exception
  have hends := F.ends
  have hcB : (Value.ref C :: .ref P :: bmE).contains (.type "Exception") = true := by simp
  have hcA : (Value.ref C :: .ref P :: bmE).contains (.type "AttributeError") = false := by simp
  have hcN : (Value.ref C :: .ref P :: bmE).contains (.type "NameError") = false := by simp
  refine codeAny_builtinAt F.entry ?_
  unfold Builtin.«BaseException.__new__»
  refine PySem.wpAt_bind ?_
  show PySem.wpAt _ _ _ (stack >>= _) _ _ _
  refine PySem.wpAt_bind (PySem.wpAt_stack fun p below => PySem.wpAt_of_wpAny ?_)
  wp_walk
  refine PySem.wpAt_of_wpAny ?_
  rw [F.owner]
  repeat (first | with_reducible refine wpAny_madeHere_exc F.canon hC ?_ | with_reducible refine wpAny_loadPart_at hC ?_ | (with_reducible refine wpAny_isSubtype_exc hC ?_; first | rw [hcB] | rw [hcA] | rw [hcN]) | wp_step)
  show R _ _
  rw [Heap.size_push]
  exact hq
theorem type_call_E {rest : List Value} {fI : Addr} {Q : Fin → Shared → Prop} (X : K.In h)
    (hC : h.get? C = some (excClassObj nm q C N bs (.ref P :: bmE) hdct sn sub ab col dd k0 k1 k2 k3 k5 "Exception.__new__")) (hi : findIn K (.ref C) "__init__" = some (some (.ref fI))) (hf : typeIn K (.ref fI) = some (.type "function"))
    (hq : ∀ h' e, Heap.MadeExcOf h h' e (.ref C) rest → h.objs.size ≤ e →
      wpAny (model prog w) A (call (.ref fI) (.ref e :: rest)) (fun r s' => r = .none ∧ Q (.done (.ret (.ref e))) s') E ⟨h', g, d, t, os⟩) (hrest : rest.length ≤ sizeLine) :
    wpAny (model prog w) A (Builtin.«type.__call__» ⟨.ref C :: rest, []⟩) Q E ⟨h, g, d, t, os⟩ := by
  have F := PySem.F.excBase_Exception
  repeat (first | with_reducible refine wpAny_loadPart_at hC ?_ | with_reducible refine wpAny_madeBy_exc hC ?_ | wp_step)
  refine codeAny_call_builtin_code (Code.quiet_builtin _ F.quiet) (check_new_E hC ?_)
  refine exc_new_E hC ?_ hrest
  show wpAny _ _ _ _ _ _
  have keep : ∀ b o, h.get? b = some o → ((h.push { cls := .type "tuple", data := .seq rest.toArray }).push { cls := .ref C, data := .fields #[.ref h.objs.size, .none, .none, .none, .bool false, .none] }).get? b = some o :=
    fun b o e => Heap.get?_push_of_some _ (Heap.get?_push_of_some _ e)
  have hC₁ := keep _ _ hC
  have X₁ := X.keeps keep
  have hget : ((h.push { cls := .type "tuple", data := .seq rest.toArray }).push
      { cls := .ref C, data := .fields #[.ref h.objs.size, .none, .none, .none, .bool false, .none] }).get? (h.objs.size + 1) = some
      { cls := .ref C, data := .fields #[.ref h.objs.size, .none, .none, .none, .bool false, .none] } := by heap_get
  have hcC : (Value.ref C :: .ref P :: bmE).contains (.ref C) = true := by simp
  unfold isInstance
  repeat (first | with_reducible refine wpAny_loadPart_at hget ?_ | (with_reducible refine wpAny_isSubtype_exc hC₁ ?_; rw [hcC]) | wp_step)
  show wpAny _ _ (typeLookup (.ref C) _) _ _ _
  refine (looks_findIn X₁ hi).here ?_
  dsimp only
  refine wpAny_holding (wpAny_bind ?_)
  refine (bind_fn X₁ _ hf).here ?_
  refine wpAny_bind (wpAny_mono (hq _ (h.objs.size + 1) ⟨keep, Heap.get?_none_of_le (Nat.le_succ _), h.objs.size, hget, Heap.get?_none_of_le (Nat.le_refl _), ?_⟩ (Nat.le_succ _)) (fun r s' hr => ?_) fun _ _ x => x)
  · exact Heap.get?_push_of_some _ (Heap.get?_push_at rfl rfl)
  · obtain ⟨rfl, hQ⟩ := hr
    wp_walk
    exact hQ
theorem call_E {rest : List Value} {fI : Addr} {Q : Value → Shared → Prop} (X : K.In h)
    (hC : h.get? C = some (excClassObj nm q C N bs (.ref P :: bmE) hdct sn sub ab col dd k0 k1 k2 k3 k5 "Exception.__new__")) (hi : findIn K (.ref C) "__init__" = some (some (.ref fI))) (hf : typeIn K (.ref fI) = some (.type "function"))
    (hq : ∀ h' e, Heap.MadeExcOf h h' e (.ref C) rest → h.objs.size ≤ e →
      wpAny (model prog w) (A.under (.builtin "type.__call__" ⟨.ref C :: rest, []⟩)) (call (.ref fI) (.ref e :: rest)) (fun r s' => r = .none ∧ Q (.ref e) s') E ⟨h', g, d, t, os⟩) (hrest : rest.length ≤ sizeLine) :
    wpAny (model prog w) A (call (.ref C) rest) Q E ⟨h, g, d, t, os⟩ := by
  have f1 := tc_lookup
  have f2 := tc_bind (.ref C)
  have hT : (⟨h, g, d, t, os⟩ : Shared).TypeIs (.ref C) "type" := ⟨_, hC, rfl⟩
  refine wpAny_call (codeAny_of_tree ?_)
  show wpAny _ _ (callAny (.ref C) _) _ _ _
  repeat (any_goals (first | assumption | with_reducible refine wpAny_loadPart_at hC ?_ | wp_step))
  refine ⟨rfl, ?_⟩
  refine codeAny_call_builtin_at (Code.quiet_builtin _ (by decide +kernel)) entry_typeCall (wpAny_check_type_call_sub hC (type_call_E X hC hi hf (fun h' e hm hge => ?_) hrest))
  exact hq h' e hm hge
end
section
variable {M : Model} {A : Around} {E : Value → Shared → Prop} {s : Shared} {env : Env} {C : Addr}
variable {nm q : Str} {N P : Addr} {bs : List Value} {hdct : Bool} {sn : List Str} {sub : List Value} {ab : Bool} {col : Option Bool} {dd : Option Addr} {k0 k1 k2 k3 k5 : Option Value} {newId : String}
def RaisableE (nm q : Str) (C N : Addr) (bs : List Value) (P : Addr) (hdct : Bool) (sn : List Str) (sub : List Value) (ab : Bool) (col : Option Bool) (dd : Option Addr) (k0 k1 k2 k3 k5 : Option Value) (newId : String) (E : Value → Shared → Prop) (v : Value) (s₁ : Shared) : Prop :=
  ∃ e d vs, v = .ref e ∧ s₁.heap.get? C = some (excClassObj nm q C N bs (.ref P :: bmE) hdct sn sub ab col dd k0 k1 k2 k3 k5 newId) ∧
      s₁.heap.get? e = some { cls := .ref C, dict := d, data := .fields vs } ∧ vs[1]? = some .none ∧ E (.ref e) s₁
theorem raiseStmt_E {x : Sem Value} {Q : Flow → Shared → Prop} (hh : A.handled = none)
    (h : wpAny M A x (RaisableE nm q C N bs P hdct sn sub ab col dd k0 k1 k2 k3 k5 newId E) E s) :
    wpAny M A (raiseStmt env (some x) none) Q E s := by
  have hcB : (Value.ref C :: .ref P :: bmE).contains (.type "BaseException") = true := by simp
  unfold raiseStmt
  refine wpAny_bind (wpAny_mono h (fun v s₁ h₁ => ?_) fun _ _ x => x)
  obtain ⟨e, d', vs, rfl, hC, he, h1, hE⟩ := h₁
  obtain ⟨hp, g, d, tk, os⟩ := s₁
  repeat (first | with_reducible refine wpAny_loadPart_at he ?_ | with_reducible refine wpAny_loadPart_at hC ?_ | (with_reducible refine wpAny_isSubtype_exc hC ?_; rw [hcB]) | wp_step)
  rw [h1]
  refine wpAny_pure ?_
  rw [if_neg (by decide)]
  exact wpAny_pure (wpAny_raiseNew_none hh hE)
end

-- P07: an exception on its way through frames of any kind; a try in a def that is called
def RaisedM (base G : Heap) (l : List Env) (e : Addr) (cls : Value) (news : List (Addr × Obj)) (h : Heap) : Prop :=
  ∃ B a0, base.StaysIn B ∧ (∀ b o, G.get? b = some o → b ∉ l.filterMap (·.frame) → B.get? b = some o) ∧ (∀ q ∈ news, B.get? q.1 = some q.2 ∧ G.get? q.1 = none ∧ base.get? q.1 = none) ∧ Heap.FlyingW B l e cls a0 h
abbrev excObj (cls : Value) (d : Addr) (vs : Array Value) : Obj := { cls := cls, dict := some d, data := .fields vs }
theorem mem_frames {env : Env} {L b : Addr} {outer : List Env} (hf : env.frame = some L) (hm : b ∈ (env :: outer).filterMap (·.frame)) : b = L ∨ b ∈ outer.filterMap (·.frame) := by
  obtain ⟨e, he, hb⟩ := List.mem_filterMap.mp hm
  rcases List.mem_cons.mp he with rfl | he
  · exact .inl (Option.some.inj (hf.symm.trans hb)).symm
  · exact .inr (List.mem_filterMap.mpr ⟨e, he, hb⟩)
section
variable {M : Model} {A : Around} {E : Value → Shared → Prop} {s' : Shared} {base g g₂ : Heap} {outer : List Env} {L e d : Addr} {m : Str → Option Value} {env : Env} {Q : Unit → Shared → Prop} {news : List (Addr × Obj)} {cls a0 : Value} {vs : Array Value}
theorem leave_firstM (K : Below A base outer g) (hf : env.frame = some L) (hke : env.scope.kind = .function) (F : Fr g L s'.heap m) (N : News g L s'.heap ((e, excObj cls d vs) :: news)) (hne : ∀ p ∈ news, p.1 ≠ e) (h1 : vs[1]? = some .none) (h0 : vs[0]? = some a0)
    (hQ : ∀ h', RaisedM base g outer e cls news h' → g.UpToSlots h' → Q () { s' with heap := h' }) :
    wpAny M (A.deeper env) (leaving env (.ref e)) Q E s' := by
  have K' := pushX K F hf hke
  have hin : ∀ v ∈ (env :: outer), ∀ b, v.frame = some b → b ∈ e :: (env :: outer).filterMap (·.frame) := fun v he b hb => List.mem_cons_of_mem _ (List.mem_filterMap.mpr ⟨v, he, hb⟩)
  have He := N _ (List.mem_cons_self ..)
  have neG : g.get? e = none := He.2.2
  have neB : base.get? e = none := fresh_of_stays K.stays neG
  have st : base.StaysIn (hideAll s'.heap (e :: (env :: outer).filterMap (·.frame))) := fun b o q => hideAll_get _ (K'.stays b o q) fun hm => by
    rcases List.mem_cons.mp hm with z | z
    · rw [z, neB] at q; cases q
    · rw [(K'.frames.mem z).1] at q; cases q
  have sg : ∀ b o, g.get? b = some o → b ∉ outer.filterMap (·.frame) → (hideAll s'.heap (e :: (env :: outer).filterMap (·.frame))).get? b = some o := fun b o q nm => hideAll_get _ (F.keep b o q) fun hm => by
    rcases List.mem_cons.mp hm with z | z
    · rw [z, neG] at q; cases q
    · rcases mem_frames hf z with z | z
      · rw [z, kts_self F] at q; cases q
      · exact nm z
  have hl : ∀ q ∈ news, (hideAll s'.heap (e :: (env :: outer).filterMap (·.frame))).get? q.1 = some q.2 ∧ g.get? q.1 = none ∧ base.get? q.1 = none := fun q hq => by
    have Nq := N q (List.mem_cons_of_mem _ hq)
    refine ⟨hideAll_get _ Nq.1 fun hm => ?_, Nq.2.2, fresh_of_stays K.stays Nq.2.2⟩
    rcases List.mem_cons.mp hm with z | z
    · exact hne q hq z
    · rcases mem_frames hf z with z | z
      · exact Nq.2.1 z
      · obtain ⟨o, ho, _⟩ := (K.frames.mem z).2
        rw [Nq.2.2] at ho; cases ho
  have hen : (hideAll s'.heap (e :: (env :: outer).filterMap (·.frame))).get? e = none := hideAll_none _ (List.mem_cons_self ..)
  refine wpAny_leaving_firstW (a0 := a0) K'.stack (funFrames_hide K'.frames hin) hf He.1 (fun b o hb => of_hideAll _ hb) hen rfl h1 h0 fun h' hL => ?_
  obtain ⟨k1, ⟨_, _, k2⟩, k3, k4⟩ := hL
  exact hQ h' ⟨_, a0, st, sg, hl, k1, hen, k2, k3⟩ ((Heap.UpToSlots.of_keeps F.keep).trans k4)
theorem leave_onM (K : Below A base outer g) (hf : env.frame = some L) (F : Fr g L g₂ m) (R : RaisedM base g₂ (env :: outer) e cls news s'.heap) (hsm : g₂.UpToSlots s'.heap)
    (hQ : ∀ h', RaisedM base g outer e cls news h' → g.UpToSlots h' → Q () { s' with heap := h' }) :
    wpAny M (A.deeper env) (leaving env (.ref e)) Q E s' := by
  obtain ⟨B, a0, hB, hBG, hl, hfl⟩ := R
  exact wpAny_leaves_onW (Around.frames_deeper K.stack) hf hfl fun h' x1 x2 =>
    hQ h' ⟨B, a0, hB, fun b o q nm => hBG b o (F.keep b o q) (fun hm => by
      rcases mem_frames hf hm with z | z
      · rw [z, kts_self F] at q; cases q
      · exact nm z), fun q hq => ⟨(hl q hq).1, kts_none F.keep (hl q hq).2.1, (hl q hq).2.2⟩, x1⟩ ((Heap.UpToSlots.of_keeps F.keep).trans (hsm.trans x2))
end
section
variable {A₀ A : Around} {base h₀ : Heap} {outer : List Env} {L : Addr} {m : Str → Option Value} {env : Env} {s : Shared} {news : List (Addr × Obj)}
theorem groundT (B : Below A₀ base outer h₀) (F : Fr h₀ L s.heap m) (N : News h₀ L s.heap news) (hA : A.frames = some (env :: outer)) (hf : env.frame = some L) (hke : env.scope.kind = .function) (D : KtsDicts (outer.filterMap (·.frame)) h₀) :
    Fr h₀ L (hideAll s.heap (news.map (·.1))) m ∧ Below A base (env :: outer) (hideAll s.heap (news.map (·.1))) ∧ h₀.StaysIn (hideAll s.heap (news.map (·.1))) ∧ KtsDicts ((env :: outer).filterMap (·.frame)) (hideAll s.heap (news.map (·.1))) ∧
      ∀ (s' : Shared) L' m' news' g', KtsTurn ((env :: outer).filterMap (·.frame)) (hideAll s.heap (news.map (·.1))) g' → Fr g' L' s'.heap m' → News g' L' s'.heap news' →
        ∃ h₀', KtsTurn (outer.filterMap (·.frame)) h₀ h₀' ∧ Fr h₀' L s'.heap m ∧ News h₀' L s'.heap news' ∧ Below A₀ base outer h₀' ∧ KtsDicts (outer.filterMap (·.frame)) h₀' := by
  obtain ⟨FG, BG, st, _⟩ := groundX (R := fun _ _ => True) B F N hA hf hke
  obtain ⟨oL, es, ep, hLg, hLd, hLk, hLf⟩ := FG.ns
  have nL₀ : h₀.get? L = none := kts_self F
  refine ⟨⟨⟨oL, es, ep, hLg, hLd, hLk, hLf⟩, FG.keep, FG.above⟩, BG, st, fun b hb => ?_, fun s' L' m' news' g' T' F' N' => ?_⟩
  · rcases mem_frames hf hb with rfl | hb
    · exact ⟨oL, es, ep, hLg, hLd⟩
    · obtain ⟨o, es', n', ho', hd'⟩ := D b hb
      exact ⟨o, es', n', st b o ho', hd'⟩
  obtain ⟨sl, hs⟩ := T'.up hLg
  obtain ⟨T₁, S₁⟩ := kts_turn_at (h := s'.heap) (fs := outer.filterMap (·.frame)) (g := h₀)
    (fun b hb => by
      obtain ⟨_, o, ho', _⟩ := B.frames.mem hb
      exact ⟨o, ho'⟩)
    (fun b o e nmem => F'.keep b o (T'.other b o (st b o e) (fun q => by
      rcases mem_frames hf q with z | z
      · rw [z, nL₀] at e; cases e
      · exact nmem z)))
    (fun b o e hm => by
      obtain ⟨sl', hs'⟩ := T'.up (st b o e)
      exact ⟨sl', F'.keep _ _ hs'⟩)
  have B₃ : Below A₀ base outer (ktsHeap s'.heap (outer.filterMap (·.frame)) h₀) := ⟨B.stack, fun b o e => T₁.other b o (B.stays b o e) (fun hm => by
    rw [(B.frames.mem hm).1] at e
    cases e), B.frames.of_keeps fun b o e _ => by
    obtain ⟨sl', hs'⟩ := T₁.up e
    exact ⟨_, hs', rfl⟩⟩
  refine ⟨_, T₁, ⟨⟨_, es, ep, F'.keep _ _ hs, hLd, hLk, hLf⟩, S₁, by rw [T₁.size]; exact F.above⟩, fun p hp => ⟨(N' p hp).1, fun q => ?_, ?_⟩, B₃, D.turn T₁⟩
  · have := (N' p hp).2.2; rw [q, hs] at this; cases this
  · refine T₁.none_ _ ?_
    cases q : h₀.get? p.1 with
    | none => rfl
    | some o =>
      obtain ⟨sl', hs'⟩ := T'.up (st _ _ q)
      have := (N' p hp).2.2
      rw [hs'] at this
      cases this
end
/-- the end of a def in which a try may have caught -/
def LeaveT (A₀ : Around) (base : Heap) (outer : List Env) (fs : List Addr) (h₀ : Heap) (L : Addr) (m : Str → Option Value) (g : Heap) (R : Result → Shared → Prop) (v : Value) (s' : Shared) : Prop :=
  ∃ g' L' m' news', KtsTurn fs g g' ∧ Fr g' L' s'.heap m' ∧ News g' L' s'.heap news' ∧
    ∀ h₀', KtsTurn (outer.filterMap (·.frame)) h₀ h₀' → Fr h₀' L s'.heap m → News h₀' L s'.heap news' → Below A₀ base outer h₀' → KtsDicts (outer.filterMap (·.frame)) h₀' → R (.ok (.ret v)) s'
theorem leaveT_ {A₀ : Around} {base : Heap} {outer : List Env} {fs : List Addr} {h₀ g g' : Heap} {L L' : Addr} {m m' : Str → Option Value} {news' : List (Addr × Obj)} {R : Result → Shared → Prop} {v : Value} {s' : Shared} (T : KtsTurn fs g g') (F : Fr g' L' s'.heap m') (N : News g' L' s'.heap news')
    (k : ∀ h₀', KtsTurn (outer.filterMap (·.frame)) h₀ h₀' → Fr h₀' L s'.heap m → News h₀' L s'.heap news' → Below A₀ base outer h₀' → KtsDicts (outer.filterMap (·.frame)) h₀' → R (.ok (.ret v)) s') : LeaveT A₀ base outer fs h₀ L m g R v s' := ⟨g', L', m', news', T, F, N, k⟩
section
variable {prog : Program} {w : World} {A₀ A : Around} {s : Shared} {base h₀ : Heap} {outer : List Env} {L : Addr} {m : Str → Option Value} {env : Env} {news : List (Addr × Obj)}
  {R : Result → Shared → Prop} {name qual : Str} {params : Arguments} {body : List Stmt} {scope : Scope} {cl : List (Str × Addr)} {dV kV doc pm cdv ct : Value} {an : Option Addr} {fo : Obj} {f : Addr} {args : Args} {binds : List (Str × Value)}
theorem callT_plain (B : Below A₀ base outer h₀) (F : Fr h₀ L s.heap m) (N : News h₀ L s.heap news) (D : KtsDicts (outer.filterMap (·.frame)) h₀) (hlim : h₀.NoLimit) (hA : A.frames = some (env :: outer)) (hf : env.frame = some L) (hke : env.scope.kind = .function)
    (ho : s.heap.get? f = some fo) (hd : fo.data = .func (fnX name qual params body scope cl dV kV doc pm an cdv ct)) (hcd : s.heap.CodeRec cdv qual) (hroom : A.depth < recursionLimit)
    (hbind : BindsTo s (fnX name qual params body scope cl dV kV doc pm an cdv ct) args binds) (hloc : ∀ y ∈ binds, scope.names.lookup y.1 = some .local)
    (h : ∀ g L' h₁, Fr h₀ L g m → Fr g L' h₁ (fun y => binds.reverse.lookup y) → News g L' h₁ news → Below A base (env :: outer) g → h₀.StaysIn g → KtsDicts ((env :: outer).filterMap (·.frame)) g → (∀ p ∈ news, p.1 < L') →
      wpAny (model prog w) (A.deeper (envX qual scope L' f cdv cl)) (execs body (envX qual scope L' f cdv cl))
        (fun fl s' => LeaveT A₀ base outer ((env :: outer).filterMap (·.frame)) h₀ L m g R (match fl with | .ret v => v | _ => .none) s')
        (fun e s' => wpAny (model prog w) (A.deeper (envX qual scope L' f cdv cl)) (leaving (envX qual scope L' f cdv cl) e) (fun _ s'' => R (.error e) s'') (fun e' s'' => R (.error e') s'') s')
        { s with heap := h₁, toks := s.toks + binds.length })
    (hcell : ∀ x ∈ scope.names, x.2 ≠ .cell) (hco : scope.isCoroutine = false) (hgen : scope.isGenerator = false) (hk : scope.kind = .function) : codeAny (model prog w) A (.call (.ref f) args) R s := by
  obtain ⟨FG, BG, st, DG, lv⟩ := groundT B F N hA hf hke D
  refine codeAny_call_def (fd := fnX name qual params body scope cl dV kV doc pm an cdv ct) (body := body) (binds := binds) hroom ho hd (hlim.keeps F.keep) hcd rfl hbind hcell hloc (fun h₁ hns hk₁ => ?_) hco hgen hk
  exact wpAny_mono (h _ s.heap.objs.size h₁ FG ⟨hns, fun b o e => hk₁ b o (of_hideAll _ e), Nat.le_of_eq (hideAll_size _ _)⟩
    (fun p hp => ⟨hk₁ _ _ (N p hp).1, Nat.ne_of_lt (Heap.lt_size (N p hp).1), hideAll_none _ (List.mem_map_of_mem hp)⟩) BG st DG (fun p hp => Heap.lt_size (N p hp).1)) (fun fl s' hl => by
      obtain ⟨g', L', m', news', T', F', N', k⟩ := hl
      obtain ⟨h₀', T0, F0, N0, B0, D0⟩ := lv s' L' m' news' g' T' F' N'
      exact k h₀' T0 F0 N0 B0 D0) fun _ _ y => y
theorem callT_cells (B : Below A₀ base outer h₀) (F : Fr h₀ L s.heap m) (N : News h₀ L s.heap news) (D : KtsDicts (outer.filterMap (·.frame)) h₀) (hlim : h₀.NoLimit) (hA : A.frames = some (env :: outer)) (hf : env.frame = some L) (hke : env.scope.kind = .function)
    (ho : s.heap.get? f = some fo) (hd : fo.data = .func (fnX name qual params body scope [] dV kV doc pm an cdv ct)) (hcd : s.heap.CodeRec cdv qual) (hroom : A.depth < recursionLimit)
    (hbind : BindsTo s (fnX name qual params body scope [] dV kV doc pm an cdv ct) args binds)
    (hkind : ∀ n, ∀ x ∈ binds, scope.names.lookup x.1 = some .local ∨ (scope.names.lookup x.1 = some .cell ∧ ((cellsFrom n scope.names []).lookup x.1).isSome = true))
    (hnd : ((cellsFrom 0 scope.names []).map (·.1)).Nodup)
    (h : ∀ g L' h₁ tk cells, Fr h₀ L g m → Fr g L' h₁ (bindL (envOfC qual scope L' f cdv).kindOf binds fun _ => none) → News g L' h₁ (cells ++ news) →
      CellsAre (bindC (envOfC qual scope L' f cdv).kindOf binds fun _ => none) (cellsFrom (L' + 1) scope.names []) cells → Below A base (env :: outer) g → h₀.StaysIn g → KtsDicts ((env :: outer).filterMap (·.frame)) g → (∀ p ∈ news, p.1 < L') →
      wpAny (model prog w) (A.deeper (envOfC qual scope L' f cdv)) (execs body (envOfC qual scope L' f cdv))
        (fun fl s' => LeaveT A₀ base outer ((env :: outer).filterMap (·.frame)) h₀ L m g R (match fl with | .ret v => v | _ => .none) s')
        (fun e s' => wpAny (model prog w) (A.deeper (envOfC qual scope L' f cdv)) (leaving (envOfC qual scope L' f cdv) e) (fun _ s'' => R (.error e) s'') (fun e' s'' => R (.error e') s'') s')
        { s with heap := h₁, toks := tk })
    (hco : scope.isCoroutine = false) (hgen : scope.isGenerator = false) (hk : scope.kind = .function) : codeAny (model prog w) A (.call (.ref f) args) R s := by
  obtain ⟨FG, BG, st, DG, lv⟩ := groundT B F N hA hf hke D
  refine codeAny_call_function hroom ho hd hco hgen rfl hcd (hbind _ _ _ _ ?_)
  refine wpAny_newFunctionEnv_cells hk (hkind _) fun env' he s' x => ?_
  subst he
  refine ⟨(hlim.keeps F.keep).keeps x.toInCall.keep, codeAny_func ?_⟩
  obtain ⟨h₁, tk, rfl, _⟩ := x.done
  have hk₁ := x.toInCall.keep
  obtain ⟨cells, NC, Y⟩ := Cl.news (h₀ := s.heap) (Nat.le_refl _) fun n c hm => ⟨x.cell n c (lookup_of_mem_nodup (cellsFrom_names scope.names 0 (s.heap.objs.size + 1) [] [] rfl ▸ hnd) hm), x.above n c hm⟩
  refine wpAny_mono (h _ s.heap.objs.size h₁ tk cells FG ⟨x.toInCall.ns, fun b o e => hk₁ b o (of_hideAll _ e), Nat.le_of_eq (hideAll_size _ _)⟩ (fun p hp => ?_) Y BG st DG (fun p hp => Heap.lt_size (N p hp).1)) (fun fl s' hl => by
      obtain ⟨g', L', m', news', T', F', N', k⟩ := hl
      obtain ⟨h₀', T0, F0, N0, B0, D0⟩ := lv s' L' m' news' g' T' F' N'
      exact k h₀' T0 F0 N0 B0 D0) fun _ _ y => y
  rcases List.mem_append.mp hp with hp | hp
  · refine ⟨(NC p hp).1, (NC p hp).2.1, ?_⟩
    cases q : (hideAll s.heap (news.map (·.1))).get? p.1 with
    | none => rfl
    | some o => have := of_hideAll _ q; rw [(NC p hp).2.2] at this; cases this
  · exact ⟨hk₁ _ _ (N p hp).1, Nat.ne_of_lt (Heap.lt_size (N p hp).1), hideAll_none _ (List.mem_map_of_mem hp)⟩
end

-- P08: FormError: made, raised, on its way, caught
abbrev formVs (t : Addr) : Array Value := #[.ref t, .none, .none, .none, .bool false, .none]
section
variable {prog : Program} {w : World} {A : Around} {E : Value → Shared → Prop} {s : Shared} {K : Frag} {h₀ : Heap} {L e C P : Addr} {m : Str → Option Value} {news : List (Addr × Obj)} {vs : Array Value} {name : Str} {v : Value} {cd : ClassData}
theorem set_exc {Q : Unit → Shared → Prop} (F : Fr h₀ L s.heap m) (X₀ : K.In h₀) (N : News h₀ L s.heap ((e, { cls := .ref C, data := .fields vs }) :: news)) (hne : ∀ p ∈ news, p.1 ≠ e)
    (hs : findIn K (.ref C) "__setattr__" = some (some (.builtin "object.__setattr__"))) (hc : clsIn K C = some cd) (hm : cd.mro = [.ref C, .ref P, .type "Exception", .type "BaseException", .type "object"]) (hh : cd.hasDict = true) (ht : takerIn K C name = some none)
    (h : ∀ h' d tk', Fr h₀ L h' m → News h₀ L h' ((e, excObj (.ref C) d vs) :: news) → Q () { s with heap := h', toks := tk' }) : wpAny (model prog w) A (setAttr (.ref e) name v) Q E s := by
  have X := X₀.keeps F.keep
  have He := N _ (List.mem_cons_self ..)
  refine set_plain X (⟨He.1, rfl, rfl, trivial⟩ : InstAt s.heap e { cls := .ref C, data := .fields vs } C none) hs ?_
  refine osa_new (s := { s with toks := s.toks + 1 }) X He.1 hc hm hh ht fun h' d tk' keep hx => ?_
  refine h h' d tk' ⟨?_, fun b o hb => keep b o (fun q => by rw [q, He.2.2] at hb; cases hb) (F.keep b o hb), F.above⟩ fun p hp => ?_
  · obtain ⟨oL, es, ep, hL, r⟩ := F.ns
    exact ⟨oL, es, ep, keep _ _ (Ne.symm He.2.1) hL, r⟩
  · rcases List.mem_cons.mp hp with rfl | hp
    · exact ⟨hx, He.2⟩
    · have Np := N p (List.mem_cons_of_mem _ hp)
      exact ⟨keep _ _ (hne p hp) Np.1, Np.2⟩
end
theorem ne_of_allLt {d : Addr} {news : List (Addr × Obj)} (h : ∀ p ∈ news, p.1 < d) : ∀ p ∈ news, p.1 ≠ d := fun p hp => Nat.ne_of_lt (h p hp)
theorem lay69 : True := by
  k_with "my setAttr ref" => ((k_here; k_dflt (refine set_exc (by k_asm) (by k_asm) (by k_asm) (by exact ne_of_allLt (by assumption)) (by k_is) (by k_is) (by rfl) (by rfl) (by k_is) ?_; k_whole); intro h' d' tk' F' N'; (try k_sweep)))
  exact True.intro
theorem form_made {w : World} {news : List (Addr × Obj)} (msg : Str) (tk : Tok) :
    Spec w 10 51 [.str msg tk] news (fun r n' => ∃ e d t, r = .ref e ∧ n' = (e, excObj (.ref 51) d (formVs t)) :: news ∧ ∀ p ∈ news, p.1 < e) := by
  unfold Spec
  intro loose mean mg mb dp un gd cn cs a' ccd cl outer A₀ base h₀ L m s Q E B F X N T hk hd hu hret
  have X' := X.keeps F.keep
  obtain ⟨hp, g, dr, tk₀, os⟩ := s
  k_dflt (refine' call_E (fI := 35) X' (X' _ _ ?look) ?hi ?hf (fun h' e hm hge => ?_) ?hz
          (case look => k_is)
          (case hi => k_is)
          (case hf => k_is)
          (case hz => rw [sizeLine_eq]; exact Nat.le_of_ble_eq_true rfl))
  obtain ⟨t, he, hnt, _⟩ := hm.there
  have F1 : Fr h₀ L h' m := F.keeps hm.keeps
  have hlt : ∀ p ∈ news, p.1 < e := fun p hp' => Nat.lt_of_lt_of_le (Heap.lt_size (N p hp').1) hge
  have N1 : News h₀ L h' ((e, { cls := .ref 51, data := .fields (formVs t) }) :: news) := fun p hp' => by
    rcases List.mem_cons.mp hp' with rfl | hp'
    · exact ⟨he, Nat.ne_of_gt (Nat.lt_of_lt_of_le F.ns.lt hge), kts_none F.keep hm.new⟩
    · exact ⟨hm.keeps _ _ (N p hp').1, (N p hp').2⟩
  clear F N
  k_extra "my enter"
  k_steps
  exact hret _ _ _ _ ⟨_, _, _, rfl, rfl, hlt⟩ (by k_asm) (by k_asm)
def RaisableF (w : World) (E : Value → Shared → Prop) (v : Value) (s₁ : Shared) : Prop :=
  ∃ e d t, v = .ref e ∧ (hd.heap_1 w.params).In s₁.heap ∧ s₁.heap.get? e = some (excObj (.ref 51) d (formVs t)) ∧ E (.ref e) s₁
theorem raisableF_of {w : World} {E : Value → Shared → Prop} {s₁ : Shared} {h₀ : Heap} {L e d t : Addr} {m : Str → Option Value} {news : List (Addr × Obj)} (X : (hd.heap_1 w.params).In h₀) (F : Fr h₀ L s₁.heap m) (N : News h₀ L s₁.heap ((e, excObj (.ref 51) d (formVs t)) :: news)) (h : E (.ref e) s₁) : RaisableF w E (.ref e) s₁ :=
  ⟨e, d, t, rfl, X.keeps F.keep, (N _ (List.mem_cons_self ..)).1, h⟩
section
variable {prog : Program} {w : World} {A : Around} {E : Value → Shared → Prop} {s : Shared} {env : Env} {nm q : Str} {N P : Addr} {bs : List Value} {hdct : Bool} {sn : List Str} {sub : List Value} {ab : Bool} {col : Option Bool} {dd : Option Addr} {k0 k1 k2 k3 k5 : Option Value} {newId : String}
theorem raise_F {e : Expr} {pos : Pos} {Q : Flow → Shared → Prop} (hh : A.handled = none) (hl : (hd.heap_1 w.params).lookup 51 = some (excClassObj nm q 51 N bs (.ref P :: bmE) hdct sn sub ab col dd k0 k1 k2 k3 k5 newId))
    (h : wpAny (model prog w) A (eval e env) (RaisableF w E) E s) : wpAny (model prog w) A (exec (.Raise (some e) none pos) env) Q E s := by
  show wpAny (model prog w) A (do standAt pos; raiseStmt env (some (do let v ← eval e env; standAt pos; pure v)) none) Q E s
  refine wpAny_bind (wpAny_standAt ?_)
  refine raiseStmt_E (nm := nm) (q := q) (C := 51) (N := N) (P := P) (bs := bs) (hdct := hdct) (sn := sn) (sub := sub) (ab := ab) (col := col) (dd := dd) (k0 := k0) (k1 := k1) (k2 := k2) (k3 := k3) (k5 := k5) (newId := newId) hh (wpAny_bind (wpAny_mono h (fun v s₁ h₁ => wpAny_bind (wpAny_standAt (wpAny_pure ?_))) fun _ _ x => x))
  obtain ⟨e, d, t, rfl, X, he, hE⟩ := h₁
  exact ⟨e, some d, formVs t, rfl, X _ _ hl, he, rfl, hE⟩
end
theorem raisedM_drop {base G : Heap} {l : List Env} {e : Addr} {cls : Value} {news news' : List (Addr × Obj)} {h : Heap} (R : RaisedM base G l e cls news' h) (hs : ∀ p ∈ news, p ∈ news') : RaisedM base G l e cls news h :=
  let ⟨B, a0, h1, h2, h3, h4⟩ := R; ⟨B, a0, h1, h2, fun q hq => h3 q (hs q hq), h4⟩
/-- a call that ends in a FormError -/
def SpecR (w : World) (D : Nat) (f : Addr) (vs : List Value) (news : List (Addr × Obj)) : Prop :=
  ∀ (loose : List Str) (mean : ExcName → Option Value) (mg mb : Str → Option Value)
    (dp un : Nat) (gd : Option (List Code)) (cn : Str) (cs : Scope) (a : Addr) (ccd : Value) (cl : List (Str × Addr)) (outer : List Env) (A₀ : Around) (base h₀ : Heap) (L : Addr) (m : Str → Option Value) (s : Shared) (Q E : Value → Shared → Prop),
    Below A₀ base outer h₀ → Fr h₀ L s.heap m → (hd.heap_1 w.params).In h₀ → News h₀ L s.heap news → Top topProg loose mean mg mb h₀ → cs.kind = .function → dp + D < recursionLimit → un + 8 * D < cLine →
    (∀ e h' tk' g₂, Fr h₀ L g₂ m → RaisedM base g₂ (envX cn cs L a ccd cl :: outer) e (.ref 51) news h' → g₂.UpToSlots h' → E (.ref e) { s with heap := h', toks := tk' }) →
    wpAny (model Challenge.rw_nu0135_01.row.prog w) (ktrTop dp un gd cn cs L a ccd cl outer) (call (.ref f) vs) Q E s
section
variable {w : World} {D : Nat} {f : Addr} {vs : List Value} {news : List (Addr × Obj)}
  {loose : List Str} {mean : ExcName → Option Value} {mg mb : Str → Option Value}
  {dp un : Nat} {gd : Option (List Code)} {cn : Str} {cs : Scope} {a : Addr} {ccd : Value} {cl : List (Str × Addr)} {outer : List Env} {A₀ : Around} {base h₀ : Heap} {L : Addr} {m : Str → Option Value} {s : Shared} {Q E : Value → Shared → Prop}
theorem specR_use (B : Below A₀ base outer h₀) (F : Fr h₀ L s.heap m) (X : (hd.heap_1 w.params).In h₀) (N : News h₀ L s.heap news) (T : Top topProg loose mean mg mb h₀) (hk : cs.kind = .function) (hd : dp + D < recursionLimit) (hu : un + 8 * D < cLine)
    (C : SpecR w D f vs news) (ret : ∀ e h' tk' g₂, Fr h₀ L g₂ m → RaisedM base g₂ (envX cn cs L a ccd cl :: outer) e (.ref 51) news h' → g₂.UpToSlots h' → E (.ref e) { s with heap := h', toks := tk' }) :
    wpAny (model Challenge.rw_nu0135_01.row.prog w) (ktrTop dp un gd cn cs L a ccd cl outer) (call (.ref f) vs) Q E s := C _ _ _ _ _ _ _ _ _ _ _ _ _ _ _ _ _ _ _ _ _ B F X N T hk hd hu ret
end
theorem lay70 : True := by
  k_with "my exec Raise some none" => ((k_here; k_dflt (refine raise_F (by rfl) (by k_is) ?_; k_whole)))
  k_with "my call ref" => (k_here; (with_reducible show wpAny _ _ (call (Value.ref 51) _) _ _ _); k_dflt (refine spec_use (by k_asm) (by k_asm) (by k_asm) (by k_asm) (by k_asm) (by first | exact rfl | assumption) (by ktr_room) (by ktr_units) (form_made _ _) ?_); intro r' n' h' tk' R' F' N'; (obtain ⟨e', d', t', e1', e2', l1'⟩ := R'; subst e1'; subst e2'; refine raisableF_of (by k_asm) F' N' ?_); (try dsimp only); (try k_sweep); (try k_fold))
  k_with "my leaving ref" => ((k_here; first
  | (refine leave_firstM (by assumption) (by rfl) (by rfl) (by k_asm) (by with_reducible assumption) (by exact ne_of_allLt (by assumption)) (by rfl) (by rfl) ?_; k_whole; intro h' R' U'; (try dsimp only))
  | (refine leave_onM (by assumption) (by rfl) (by assumption) (by assumption) (by assumption) ?_; k_whole; intro h' R' U'; (try dsimp only))))
  exact True.intro
theorem unpack_icmp_short {w : World} {news : List (Addr × Obj)} (o : List Int) (t : Tok) (h8 : o.length < 8) : SpecR w 18 207 [.bytes (byteArr o) t] news := by
  unfold SpecR
  intro loose mean mg mb dp un gd cn cs a' ccd cl outer A₀ base h₀ L m s Q E B F X N T hk hd hu hret
  k_extra "my enter"
  k_steps
  all_goals (refine hret _ _ _ _ ?_ (raisedM_drop (by assumption) (by intro p hp; k_ownIn)) ?_ <;> assumption)
theorem unpack_icmp_bad {w : World} {news : List (Addr × Obj)} (o : List Int) (t : Tok) (h8 : 8 ≤ o.length) (hl : o.length ≤ 2000) (hi : KBa.In o) (hs : cfold (wsum o) ≠ 65535) : SpecR w 18 207 [.bytes (byteArr o) t] news := by
  unfold SpecR
  intro loose mean mg mb dp un gd cn cs a' ccd cl outer A₀ base h₀ L m s Q E B F X N T hk hd hu hret
  k_extra "my enter"
  k_steps
  · refine hret _ _ _ _ ?_ (raisedM_drop (by assumption) (by intro p hp; k_ownIn)) ?_ <;> assumption
  all_goals exact absurd (by assumption) hs
theorem echo_rest_big {w : World} {news : List (Addr × Obj)} (n : Int) (t u : Tok) : SpecR w 12 214 [.int 65536 t, .int n u] news := by
  unfold SpecR
  intro loose mean mg mb dp un gd cn cs a' ccd cl outer A₀ base h₀ L m s Q E B F X N T hk hd hu hret
  k_extra "my enter"
  k_steps
  all_goals (refine hret _ _ _ _ ?_ (raisedM_drop (by assumption) (by intro p hp; k_ownIn)) ?_ <;> assumption)
theorem lay73 : True := by
  k_with "my call ref" => (k_here; (with_reducible show wpAny _ _ (call (Value.ref 214) _) _ _ _); k_dflt (refine specR_use (by k_asm) (by k_asm) (by k_asm) (by k_asm) (by k_asm) (by first | exact rfl | assumption) (by ktr_room) (by ktr_units) (echo_rest_big _ _ _) ?_); intro e' h' tk' g' F' R' U'; (try dsimp only); (try k_fold))
  exact True.intro
theorem echo_message_big {w : World} {news : List (Addr × Obj)} (n : Int) (t u : Tok) (v : Value) : SpecR w 16 221 [.int 65536 t, .int n u, v] news := by
  unfold SpecR
  intro loose mean mg mb dp un gd cn cs a' ccd cl outer A₀ base h₀ L m s Q E B F X N T hk hd hu hret
  k_extra "my enter"
  k_steps
  all_goals (refine hret _ _ _ _ ?_ (raisedM_drop (by assumption) (by intro p hp; k_ownIn)) ?_ <;> assumption)

-- P09: a FormError caught by the frame's own try; _law_refused
section
variable {prog : Program} {w : World} {A₀ : Around} {E : Value → Shared → Prop} {s' : Shared} {base g G : Heap} {outer : List Env} {L a e C : Addr} {m : Str → Option Value} {name : Str} {scope : Scope} {cd : Value}
  {b₀ : Stmt} {suite : List Stmt} {pos np : Pos} {rest : List ExceptHandler} {Q : Flow → Shared → Prop} {news : List (Addr × Obj)} {KF : Frag}
  {p : Program} {loose : List Str} {mean : ExcName → Option Value} {mg mb : Str → Option Value} {x : Str}
theorem caught_M (R : RaisedM base G (envOf name scope L a cd :: outer) e (.ref C) news s'.heap) (F : Fr g L G m) (K : Below A₀ base outer g) (hsm : G.UpToSlots s'.heap) (XB : KF.In base) (TB : Top p loose mean mg mb base)
    (ex : nsIn KF mainGlobals x = some (some (.ref C))) (q : ktsIn KF C "BaseException" = true)
    (k : ∀ h' g', KtsTurn (outer.filterMap (·.frame)) g g' → Fr g' L h' m → News g' L h' news → Below A₀ base outer g' →
      wpAny (model prog w) ((A₀.deeper (envOf name scope L a cd)).mark (some (.ref e))) (execs (b₀ :: suite) (envOf name scope L a cd)) Q E { s' with heap := h' })
    (hk : scope.kind = .function := by rfl) (hx : (envOf name scope L a cd).kindOf x = some .globalImplicit := by rfl) (hd : (x == ("__debug__" : Str)) = false := by decide)
    (hE : PassesOwnAt (model prog w) ((A₀.deeper (envOf name scope L a cd)).mark (some (.ref e))) (A₀.deeper (envOf name scope L a cd)) (envOf name scope L a cd) E := by passes_own) :
    wpAny (model prog w) (A₀.deeper (envOf name scope L a cd)) (noteFrame (.ref e) (envOf name scope L a cd))
      (fun _ s₂ => wpAny (model prog w) (A₀.deeper (envOf name scope L a cd)) (setFlight (.ref e) none) (fun _ s₃ =>
        wpAny (model prog w) (A₀.deeper (envOf name scope L a cd)) (handleBy (.ref e) (envOf name scope L a cd) (.ExceptHandler (some (.Name x np)) none (b₀ :: suite) pos :: rest)) Q E s₃) E s₂) E s' := by
  obtain ⟨B, a0, hB, hBG, hl, hfl⟩ := R
  have hL : B.get? L = none := by
    obtain ⟨_, ⟨L', _, hf, hn', _⟩, _⟩ := hfl.2.2.1
    obtain rfl : L = L' := Option.some.inj hf
    exact hn'
  refine wpAny_looks_onW (Around.frames_deeper K.stack) rfl hfl fun h₄ hheld₄ hsm₄ => ?_
  refine wpAny_landsW hheld₄ fun h₅ hheld hsm₅' => ?_
  have hsm₅ := hsm₄.trans hsm₅'
  obtain ⟨g₅, T₅, F₅, K₅⟩ := kts_ground K F hBG hheld.1 (hsm.trans hsm₅)
  have X₅ : KF.In g₅ := XB.keeps K₅.stays
  have P₅ : TopRead p loose mg mb g₅ := topRead_of (TB.keeps K₅.stays)
  obtain ⟨ob, hob, hobc⟩ := hheld.there
  obtain ⟨nm, q', N, bs, bm, hdct, sn, sub, ab, col, dd, k0, k1, k2, k3, k5, newId, hC, hbase, hbT⟩ := kts_cls X₅ q
  have hC₅ := F₅.keep _ _ hC
  refine wpAny_handleBy_cons (codeAny_handlers_test (name_K F₅ X₅ P₅ ex ?_ hk hx hd)) (by intro q; cases q)
  refine wpAny_excMatches_sub_self hC₅ hob hobc hbase (codeAny_handlers_suite ?_)
  refine lands_againW hheld fun h₆ hfl₆ hsm₆ => ?_
  obtain ⟨g₆, T₆, F₆, K₆⟩ := kts_ground K F hBG hfl₆.1 ((hsm.trans hsm₅).trans hsm₆)
  have Nl : News g₆ L h₆ news := fun q hq => ⟨hfl₆.1 _ _ (hl q hq).1, (fun z => by have := (hl q hq).1; rw [z, hL] at this; cases this), T₆.none_ _ (kts_none F.keep (hl q hq).2.1)⟩
  exact wpAny_passesOwnAt hE (k h₆ g₆ T₆ F₆ Nl K₆)
end
section
variable {prog : Program} {w : World} {A₀ A : Around} {s : Shared} {K : Frag} {L : Addr} {h₀ base : Heap} {m mg mb : Str → Option Value} {news : List (Addr × Obj)} {p : Program} {loose : List Str} {mean : ExcName → Option Value}
  {env : Env} {outer : List Env} {R : Result → Shared → Prop} {name qual : Str} {params : Arguments} {body : List Stmt} {scope : Scope} {dV kV doc pm cdv ct oc : Value} {an od : Option Addr} {osl : Array (Option Value)} {f : Addr} {args : Args} {binds : List (Str × Value)}
theorem code_defT (B : Below A₀ base outer h₀) (F : Fr h₀ L s.heap m) (X₀ : K.In h₀) (N : News h₀ L s.heap news) (T : Top p loose mean mg mb h₀) (D : KtsDicts (outer.filterMap (·.frame)) h₀) (hA : A.frames = some (env :: outer)) (hf : env.frame = some L) (hke : env.scope.kind = .function)
    (ho : K.lookup f = some ⟨oc, od, .func (fnOf name qual params body scope dV kV doc pm an cdv ct), osl⟩) (hcd : codeIn K cdv qual = true) (hroom : A.depth < recursionLimit)
    (hbind : BindsTo s (fnOf name qual params body scope dV kV doc pm an cdv ct) args binds) (hloc : ∀ y ∈ binds, scope.names.lookup y.1 = some .local)
    (h : ∀ g L' h₁, Fr h₀ L g m → Fr g L' h₁ (fun y => binds.reverse.lookup y) → News g L' h₁ news → Below A base (env :: outer) g → K.In g → Top p loose mean mg mb g → KtsDicts ((env :: outer).filterMap (·.frame)) g →
      wpAny (model prog w) (A.deeper (envOf qual scope L' f cdv)) (execs body (envOf qual scope L' f cdv))
        (fun fl s' => LeaveT A₀ base outer ((env :: outer).filterMap (·.frame)) h₀ L m g R (match fl with | .ret v => v | _ => .none) s')
        (fun e s' => wpAny (model prog w) (A.deeper (envOf qual scope L' f cdv)) (leaving (envOf qual scope L' f cdv) e) (fun _ s'' => R (.error e) s'') (fun e' s'' => R (.error e') s'') s')
        { s with heap := h₁, toks := s.toks + binds.length })
    (hco : scope.isCoroutine = false) (hgen : scope.isGenerator = false) (hk : scope.kind = .function)
    (hcell : ∀ x ∈ scope.names, x.2 ≠ .cell) : codeAny (model prog w) A (.call (.ref f) args) R s :=
  callT_plain (cl := []) B F N D T.nolimit hA hf hke ((X₀.keeps F.keep) _ _ ho) rfl (codeRec_of (X₀.keeps F.keep) hcd) hroom hbind hloc (fun g L' h₁ FG F' N' B' st D' _ => h g L' h₁ FG F' N' B' (X₀.keeps st) (T.keeps st) D') hcell hco hgen hk
theorem code_defCT (B : Below A₀ base outer h₀) (F : Fr h₀ L s.heap m) (X₀ : K.In h₀) (N : News h₀ L s.heap news) (T : Top p loose mean mg mb h₀) (D : KtsDicts (outer.filterMap (·.frame)) h₀) (hA : A.frames = some (env :: outer)) (hf : env.frame = some L) (hke : env.scope.kind = .function)
    (ho : K.lookup f = some ⟨oc, od, .func (fnOf name qual params body scope dV kV doc pm an cdv ct), osl⟩) (hcd : codeIn K cdv qual = true) (hroom : A.depth < recursionLimit)
    (hbind : BindsTo s (fnOf name qual params body scope dV kV doc pm an cdv ct) args binds) (hkind : (binds.all fun y => scope.names.lookup y.1 == some .local || scope.names.lookup y.1 == some .cell) = true)
    (hnd : ((cellsFrom 0 scope.names []).map (·.1)).Nodup)
    (h : ∀ g L' h₁ tk cells, Fr h₀ L g m → Fr g L' h₁ (bindL (envOfC qual scope L' f cdv).kindOf binds fun _ => none) → News g L' h₁ (cells ++ news) →
      CellsAre (bindC (envOfC qual scope L' f cdv).kindOf binds fun _ => none) (cellsFrom (L' + 1) scope.names []) cells → Below A base (env :: outer) g → K.In g → Top p loose mean mg mb g → KtsDicts ((env :: outer).filterMap (·.frame)) g → (∀ p ∈ news, p.1 < L') →
      wpAny (model prog w) (A.deeper (envOfC qual scope L' f cdv)) (execs body (envOfC qual scope L' f cdv))
        (fun fl s' => LeaveT A₀ base outer ((env :: outer).filterMap (·.frame)) h₀ L m g R (match fl with | .ret v => v | _ => .none) s')
        (fun e s' => wpAny (model prog w) (A.deeper (envOfC qual scope L' f cdv)) (leaving (envOfC qual scope L' f cdv) e) (fun _ s'' => R (.error e) s'') (fun e' s'' => R (.error e') s'') s')
        { s with heap := h₁, toks := tk })
    (hco : scope.isCoroutine = false) (hgen : scope.isGenerator = false) (hk : scope.kind = .function) : codeAny (model prog w) A (.call (.ref f) args) R s :=
  callT_cells B F N D T.nolimit hA hf hke ((X₀.keeps F.keep) _ _ ho) rfl (codeRec_of (X₀.keeps F.keep) hcd) hroom hbind (kindsX hkind) hnd (fun g L' h₁ tk cells FG F' N' Y B' st D' l => h g L' h₁ tk cells FG F' N' Y B' (X₀.keeps st) (T.keeps st) D' l) hco hgen hk
end
theorem lay74 : True := by
  k_with "my enterT" => ((refine wpAny_call ?_; k_dflt (refine code_defT (by k_asm) (by k_asm) (by k_asm) (by k_asm) (by k_asm) (by assumption) (by exact rfl) (by exact rfl) (by assumption) (by k_is) (by k_is) (by ktr_room) (by first | exact BindsTo.of_eq rfl | exact binds_K (by k_in) rfl (by k_is) rfl rfl rfl) (by exact locs rfl) ?_ (by exact rfl) (by exact rfl) (by exact rfl) (by decide); k_whole; intro g' L' h' FG' F' N' B' X' T' D'; (try dsimp only); (try k_fold))))
  exact True.intro

-- P10: the source of draws: _law_take, _law_one
abbrev srcO (a b : Int) (ta tb : Tok) : Obj := listOf #[.int a ta, .int b tb] 0
structure SrcOk (a b : Int) : Prop where
  h0 : 0 ≤ a
  h1 : 0 ≤ b
  h2 : b < 2147483647
section
variable {prog : Program} {w : World} {A : Around} {E : Value → Shared → Prop} {s : Shared} {h₀ : Heap} {L src : Addr} {m : Str → Option Value} {news news' : List (Addr × Obj)} {a b x : Int} {ta tb t u : Tok} {value slice : PySem.Expr}
theorem src_get0 {Q : Value → Shared → Prop} (N : News h₀ L s.heap news) (hm : (src, srcO a b ta tb) ∈ news) (h : Q (.int a ta) s)
    (hs : subscripted slice false (.ref src) (.int 0 u) = operate [.ref src, .int 0 u] (getItem (.ref src) (.int 0 u)) := by with_unfolding_all rfl) :
    wpAny (model prog w) A (subscriptTail value slice (.ref src) (.int 0 u)) Q E s :=
  have hL := News.isList N hm
  tail_any hL.typeIs slot_list_getitem.lookup (wpAny_getItem_list hL (by decide) (by decide) (by rfl) h) hs
theorem src_get1 {Q : Value → Shared → Prop} (N : News h₀ L s.heap news) (hm : (src, srcO a b ta tb) ∈ news) (h : Q (.int b tb) s)
    (hs : subscripted slice false (.ref src) (.int 1 u) = operate [.ref src, .int 1 u] (getItem (.ref src) (.int 1 u)) := by with_unfolding_all rfl) :
    wpAny (model prog w) A (subscriptTail value slice (.ref src) (.int 1 u)) Q E s :=
  have hL := News.isList N hm
  tail_any hL.typeIs slot_list_getitem.lookup (wpAny_getItem_list hL (by decide) (by decide) (by rfl) h) hs
theorem src_set0 {Q : Unit → Shared → Prop} (F : Fr h₀ L s.heap m) (N : News h₀ L s.heap news) (U : Upd src (srcO a b ta tb) (srcO x b u tb) news news') (h : ∀ h', Fr h₀ L h' m → News h₀ L h' news' → Q () { s with heap := h' }) :
    wpAny (model prog w) A (setItem (.ref src) (.int 0 t) (.int x u)) Q E s :=
  ksa_set (vs := [.int a ta, .int b tb]) (ns := [a, b]) F N U (IntsAre.cons _ _ (IntsAre.cons _ _ IntsAre.nil)) (by decide) (by simp) (by decide) fun h' F' N' _ _ _ => h h' F' N'
theorem src_set1 {Q : Unit → Shared → Prop} (F : Fr h₀ L s.heap m) (N : News h₀ L s.heap news) (U : Upd src (srcO a b ta tb) (srcO a x ta u) news news') (h : ∀ h', Fr h₀ L h' m → News h₀ L h' news' → Q () { s with heap := h' }) :
    wpAny (model prog w) A (setItem (.ref src) (.int 1 t) (.int x u)) Q E s :=
  ksa_set (vs := [.int a ta, .int b tb]) (ns := [a, b]) F N U (IntsAre.cons _ _ (IntsAre.cons _ _ IntsAre.nil)) (by decide) (by simp) (by decide) fun h' F' N' _ _ _ => h h' F' N'
end
/-- a call that draws: the source stands at the head of the ledger, turned; own: what the call made -/
def Draws (w : World) (D : Nat) (f : Addr) (vs : List Value) (src : Addr) (need : List (Addr × Obj)) (P : Value → List (Addr × Obj) → Prop) : Prop :=
  ∀ a b ta tb rest, SrcOk a b → (∀ p ∈ rest, p.1 ≠ src) → (∀ q ∈ need, q ∈ rest) →
    Spec w D f vs ((src, srcO a b ta tb) :: rest) (fun r n' => ∃ a' b' ta' tb' own, SrcOk a' b' ∧ n' = own ++ (src, srcO a' b' ta' tb') :: rest ∧ (∀ p ∈ own, ∀ q ∈ (src, srcO a b ta tb) :: rest, q.1 < p.1) ∧ P r own)
theorem draws_intro {src : Addr} {a b a' b' : Int} {ta tb ta' tb' : Tok} {rest : List (Addr × Obj)} {P : Value → List (Addr × Obj) → Prop} {r : Value} (own : List (Addr × Obj)) (h : SrcOk a' b') (hl : ∀ p ∈ own, ∀ q ∈ (src, srcO a b ta tb) :: rest, q.1 < p.1) (hp : P r own) :
    ∃ a'' b'' ta'' tb'' own', SrcOk a'' b'' ∧ own ++ (src, srcO a' b' ta' tb') :: rest = own' ++ (src, srcO a'' b'' ta'' tb'') :: rest ∧ (∀ p ∈ own', ∀ q ∈ (src, srcO a b ta tb) :: rest, q.1 < p.1) ∧ P r own' := ⟨a', b', ta', tb', own, h, rfl, hl, hp⟩
section
variable {w : World} {D : Nat} {f src : Addr} {vs : List Value} {news need : List (Addr × Obj)} {P : Value → List (Addr × Obj) → Prop} {g : Obj → List (Addr × Obj)} {x y : Int} {tx ty : Tok}
  {loose : List Str} {mean : ExcName → Option Value} {mg mb : Str → Option Value}
  {dp un : Nat} {gd : Option (List Code)} {cn : Str} {cs : Scope} {a : Addr} {ccd : Value} {cl : List (Str × Addr)} {outer : List Env} {A₀ : Around} {base h₀ : Heap} {L : Addr} {m : Str → Option Value} {s : Shared} {Q E : Value → Shared → Prop}
theorem draw_use (B : Below A₀ base outer h₀) (F : Fr h₀ L s.heap m) (X : (hd.heap_1 w.params).In h₀) (N : News h₀ L s.heap news) (T : Top topProg loose mean mg mb h₀) (hk : cs.kind = .function) (hd : dp + D < recursionLimit) (hu : un + 8 * D < cLine)
    (U : UpdF src (srcO x y tx ty) news g) (ok : SrcOk x y) (hn : ∀ q ∈ need, q ∈ news ∧ q.1 ≠ src) (C : Draws w D f vs src need P)
    (ret : ∀ r x' y' tx' ty' own h' tk', SrcOk x' y' → P r own → (∀ p ∈ own, ∀ q ∈ news, q.1 < p.1) → Fr h₀ L h' m → News h₀ L h' (own ++ g (srcO x' y' tx' ty')) → Q r { s with heap := h', toks := tk' }) :
    wpAny (model Challenge.rw_nu0135_01.row.prog w) (ktrTop dp un gd cn cs L a ccd cl outer) (call (.ref f) vs) Q E s := by
  obtain ⟨pre, post, rfl, hg, h1, h2⟩ := U.split
  have hr : ∀ p ∈ pre ++ post, p.1 ≠ src := fun p hp => (List.mem_append.mp hp).elim (h1 p) (h2 p)
  have N' : News h₀ L s.heap ((src, srcO x y tx ty) :: (pre ++ post)) := fun p hp => N p (by
    rcases List.mem_cons.mp hp with rfl | hp
    · exact List.mem_append_right _ (List.mem_cons_self ..)
    · rcases List.mem_append.mp hp with hp | hp
      · exact List.mem_append_left _ hp
      · exact List.mem_append_right _ (List.mem_cons_of_mem _ hp))
  have hn' : ∀ q ∈ need, q ∈ pre ++ post := fun q hq => by
    obtain ⟨hm, hne⟩ := hn q hq
    rcases List.mem_append.mp hm with hm | hm
    · exact List.mem_append_left _ hm
    · rcases List.mem_cons.mp hm with rfl | hm
      · exact absurd rfl hne
      · exact List.mem_append_right _ hm
  refine spec_use B F X N' T hk hd hu (C x y tx ty _ ok hr hn') fun r news' h' tk' R F' N'' => ?_
  obtain ⟨x', y', tx', ty', own, ok', rfl, hlt, hp⟩ := R
  refine ret r x' y' tx' ty' own h' tk' ok' hp (fun p hp q hq => hlt p hp q ?_) F' fun p hp => N'' p ?_
  · rcases List.mem_append.mp hq with hq | hq
    · exact List.mem_cons_of_mem _ (List.mem_append_left _ hq)
    · rcases List.mem_cons.mp hq with rfl | hq
      · exact List.mem_cons_self ..
      · exact List.mem_cons_of_mem _ (List.mem_append_right _ hq)
  · rw [hg] at hp
    rcases List.mem_append.mp hp with hp | hp
    · exact List.mem_append_left _ hp
    · refine List.mem_append_right _ ?_
      rcases List.mem_append.mp hp with hp | hp
      · exact List.mem_cons_of_mem _ (List.mem_append_left _ hp)
      · rcases List.mem_cons.mp hp with rfl | hp
        · exact List.mem_cons_self ..
        · exact List.mem_cons_of_mem _ (List.mem_append_right _ hp)
end
section
variable {w : World} {D : Nat} {f src : Addr} {vs : List Value} {news need : List (Addr × Obj)} {g : Obj → List (Addr × Obj)} {x y : Int} {tx ty : Tok}
  {loose : List Str} {mean : ExcName → Option Value} {mg mb : Str → Option Value}
  {dp un : Nat} {gd : Option (List Code)} {cn : Str} {cs : Scope} {a : Addr} {ccd : Value} {cl : List (Str × Addr)} {outer : List Env} {A₀ : Around} {base h₀ : Heap} {L : Addr} {m : Str → Option Value} {s : Shared} {Q E : Value → Shared → Prop}
/-- a value of the kind R comes back, its datum as P says; nothing is made -/
abbrev RetOf {α : Type} (R : α → Tok → Value) (P : α → Prop) : Value → List (Addr × Obj) → Prop := fun r own => own = [] ∧ ∃ d t', r = R d t' ∧ P d
theorem drawOf_use {α : Type} {R : α → Tok → Value} {P : α → Prop} (B : Below A₀ base outer h₀) (F : Fr h₀ L s.heap m) (X : (hd.heap_1 w.params).In h₀) (N : News h₀ L s.heap news) (T : Top topProg loose mean mg mb h₀) (hk : cs.kind = .function) (hd : dp + D < recursionLimit) (hu : un + 8 * D < cLine)
    (U : UpdF src (srcO x y tx ty) news g) (ok : SrcOk x y) (hn : ∀ q ∈ need, q ∈ news ∧ q.1 ≠ src) (C : Draws w D f vs src need (RetOf R P))
    (ret : ∀ d t' x' y' tx' ty' h' tk', SrcOk x' y' → P d → Fr h₀ L h' m → News h₀ L h' (g (srcO x' y' tx' ty')) → Q (R d t') { s with heap := h', toks := tk' }) :
    wpAny (model Challenge.rw_nu0135_01.row.prog w) (ktrTop dp un gd cn cs L a ccd cl outer) (call (.ref f) vs) Q E s :=
  draw_use B F X N T hk hd hu U ok hn C fun r x' y' tx' ty' own h' tk' ok' P' _ F' N' => by
    obtain ⟨rfl, d, t', rfl, hp⟩ := P'
    exact ret d t' x' y' tx' ty' h' tk' ok' hp F' N'
end
local macro_rules | `(tactic| k_all) => `(tactic| k_extra "my all")
theorem lay75 : True := by
  k_with "my all" => (with_reducible assumption)
  exact True.intro
section
theorem lay79 : True := by
  k_with "my subscriptTail Name Constant ref int" => (((with_reducible rename Sec 11007 => sc'); (k_here; (with_reducible show wpAny _ _ (subscriptTail _ _ (Value.ref _) (Value.int 0 _)) _ _ _); k_dflt (refine src_get0 (by k_asm) (by k_mem) ?_ (by with_unfolding_all rfl); k_whole))))
  k_with "my subscriptTail Name Constant ref int" => (((with_reducible rename Sec 11007 => sc'); (k_here; (with_reducible show wpAny _ _ (subscriptTail _ _ (Value.ref _) (Value.int 1 _)) _ _ _); k_dflt (refine src_get1 (by k_asm) (by k_mem) ?_ (by with_unfolding_all rfl); k_whole))))
  k_with "my setItem ref int" => (((with_reducible rename Sec 11007 => sc'); (k_here; (with_reducible show wpAny _ _ (PySem.setItem (Value.ref _) (Value.int 0 _) (Value.int _ _)) _ _ _); k_dflt (refine src_set0 (by k_asm) (by k_asm) (by k_upd) ?_; k_whole); intro h' F' N'; (try k_sweep))))
  k_with "my setItem ref int" => (((with_reducible rename Sec 11007 => sc'); (k_here; (with_reducible show wpAny _ _ (PySem.setItem (Value.ref _) (Value.int 1 _) (Value.int _ _)) _ _ _); k_dflt (refine src_set1 (by k_asm) (by k_asm) (by k_upd) ?_; k_whole); intro h' F' N'; (try k_sweep))))
  exact True.intro
theorem take_draws {w : World} (src : Addr) (top : Int) (t : Tok) (h0 : 0 < top) (h1 : top < 1073741824) : Draws w 10 433 [.ref src, .int top t] src [] (RetOf Value.int fun d => 0 ≤ d ∧ d < top) := by
  intro a b ta tb rest ok hne _
  obtain ⟨oa, ob, oc⟩ := ok
  unfold Spec
  intro loose mean mg mb dp un gd cn cs a' ccd cl outer A₀ base h₀ L m s Q E B F X N T hk hd hu hret
  have sc' := sec 11007
  k_extra "my enter"
  k_steps
  · refine' hret _ _ _ _ ?d1 ?f1 ?n1
    case n1 => k_asm
    case f1 => k_asm
    case d1 => exact ⟨_, _, _, _, [], ⟨Int.ediv_nonneg oa (by omega), ob, oc⟩, rfl, (fun _ h => nomatch h), rfl, _, _, rfl, Int.emod_nonneg _ (by omega), Int.emod_lt_of_pos _ h0⟩
  · refine' hret _ _ _ _ ?d2 ?f2 ?n2
    case n2 => k_asm
    case f2 => k_asm
    case d2 => exact ⟨_, _, _, _, [], ⟨oa, by omega, by omega⟩, rfl, (fun _ h => nomatch h), rfl, _, _, rfl, Int.emod_nonneg _ (by omega), Int.emod_lt_of_pos _ h0⟩
end
theorem lay76 : True := by
  k_with "my needs" => (exact fun q hq => nomatch hq)
  k_with "my needs" => ((intro q hq; rcases List.mem_cons.mp hq with e | hq; (rw [e]; exact ⟨by k_mem, by k_ne⟩); (exact nomatch hq)))
  k_with "my call ref" => (k_here; (with_reducible show wpAny _ _ (call (Value.ref 433) _) _ _ _); k_dflt (refine drawOf_use (by k_asm) (by k_asm) (by k_asm) (by k_asm) (by k_asm) (by first | exact rfl | assumption) (by ktr_room) (by ktr_units) (by k_updF) (by first | with_reducible assumption | assumption) (by k_extra "my needs") (take_draws _ _ _ (by first | with_reducible assumption | decide | k_extra "my b_siz") (by first | with_reducible assumption | decide | k_extra "my b_siz")) ?_); intro d' t' x' y' tx' ty' h' tk' ok' hm' F' N'; ((have lo' := hm'.1); (have hi' := hm'.2); clear hm'); (try dsimp only at N'); (try dsimp only); (try k_sweep); (try k_fold))
  exact True.intro
theorem list_at {prog : Program} {w : World} {A : Around} {E : Value → Shared → Prop} {s : Shared} {h₀ : Heap} {L l : Addr} {news : List (Addr × Obj)} {vs : List Value} {n : Nat} {k : Int} {u : Tok} {value slice : PySem.Expr} {Q : Value → Shared → Prop}
    (N : News h₀ L s.heap news) (hm : (l, listOf vs.toArray n) ∈ news) (h0 : 0 ≤ k) (h1 : k < (vs.length : Nat)) (hfit : k < 2 ^ 63) (h : ∀ r ∈ vs, Q r s)
    (hs : subscripted slice false (.ref l) (.int k u) = operate [.ref l, .int k u] (getItem (.ref l) (.int k u)) := by with_unfolding_all rfl) :
    wpAny (model prog w) A (subscriptTail value slice (.ref l) (.int k u)) Q E s := by
  have hL := News.isList N hm
  have hk : k.toNat < vs.length := by omega
  refine tail_any hL.typeIs slot_list_getitem.lookup (wpAny_getItem_list (x := vs[k.toNat]) hL (by omega) (by omega) ?_ (h _ (List.getElem_mem hk))) hs
  simp [hk]
section
theorem lay83 : True := by
  k_with "my subscriptTail" => (((with_reducible rename Sec 11009 => sc'); (k_here; (with_reducible show wpAny _ _ (subscriptTail _ _ (Value.ref _) (Value.int _ _)) _ _ _); k_dflt (refine list_at (by k_asm) (by k_mem) (by with_reducible assumption) (by omega) (by omega) ?_ (by with_unfolding_all rfl); k_whole); intro r' hr')))
  exact True.intro
theorem one_any {w : World} (src l : Addr) (vs : List Value) (n : Nat) (hn : 0 < vs.length) (hn' : vs.length < 1000) : Draws w 14 440 [.ref src, .ref l] src [(l, listOf vs.toArray n)] (fun r own => own = [] ∧ r ∈ vs) := by
  intro a b ta tb rest ok hne need
  have hl := need _ (List.mem_cons_self ..)
  unfold Spec
  intro loose mean mg mb dp un gd cn cs a' ccd cl outer A₀ base h₀ L m s Q E B F X N T hk hd hu hret
  have hsz : vs.toArray.size = vs.length := List.size_toArray ..
  have sc' := sec 11009
  k_extra "my enter"
  k_steps
  exact hret _ _ _ _ ⟨_, _, _, _, [], by assumption, rfl, (fun _ h => nomatch h), rfl, by assumption⟩ (by k_asm) (by k_asm)
end
theorem ints_mem {r : Value} : ∀ {vs : List Value} {ns : List Int}, IntsAre vs ns → r ∈ vs → ∃ d t, r = .int d t ∧ d ∈ ns
  | _, _, .nil, h => nomatch h
  | _, _, .cons i t hi, h => by
    rcases List.mem_cons.mp h with rfl | h
    · exact ⟨i, t, rfl, List.mem_cons_self ..⟩
    · obtain ⟨d, t', e, hd⟩ := ints_mem hi h
      exact ⟨d, t', e, List.mem_cons_of_mem _ hd⟩
theorem Draws.weaken {w : World} {D : Nat} {f src : Addr} {vs : List Value} {need : List (Addr × Obj)} {P P' : Value → List (Addr × Obj) → Prop} (h : Draws w D f vs src need P) (hp : ∀ r o, P r o → P' r o) : Draws w D f vs src need P' := by
  intro a b ta tb rest ok hne hn
  have C := h a b ta tb rest ok hne hn
  intro loose mean mg mb dp un gd cn cs a' ccd cl outer A₀ base h₀ L m s Q E B F X N T hk hd hu hret
  refine C loose mean mg mb dp un gd cn cs a' ccd cl outer A₀ base h₀ L m s Q E B F X N T hk hd hu fun r n' h' tk' R => ?_
  obtain ⟨a', b', ta', tb', own, ok', e, l, p⟩ := R
  exact hret r n' h' tk' ⟨a', b', ta', tb', own, ok', e, l, hp _ _ p⟩
/-- an int of a written list is drawn -/
theorem one_ints {w : World} {src l : Addr} {vs : List Value} {ns : List Int} {n : Nat} (hi : IntsAre vs ns) (hn : 0 < ns.length) (hn' : ns.length < 1000) : Draws w 14 440 [.ref src, .ref l] src [(l, listOf vs.toArray n)] (RetOf Value.int fun d => d ∈ ns) :=
  Draws.weaken (one_any src l vs n (by rw [hi.length]; exact hn) (by rw [hi.length]; exact hn')) fun _ _ p => ⟨p.1, ints_mem hi p.2⟩
inductive BytesAre : List Value → List (List Int) → Prop
  | nil : BytesAre [] []
  | cons {vs os} (o : List Int) (t : Tok) (h : BytesAre vs os) : BytesAre (.bytes (byteArr o) t :: vs) (o :: os)
theorem BytesAre.consE {vs : List Value} {os : List (List Int)} (t : Tok) (h : BytesAre vs os) : BytesAre (.bytes #[] t :: vs) ([] :: os) := BytesAre.cons [] t h
theorem BytesAre.length {vs : List Value} {os : List (List Int)} (h : BytesAre vs os) : vs.length = os.length := by
  induction h with
  | nil => rfl
  | cons o t h ih => rw [List.length_cons, List.length_cons, ih]
theorem bytes_mem {r : Value} {vs : List Value} {os : List (List Int)} (h : BytesAre vs os) (hm : r ∈ vs) : ∃ d t, r = .bytes (byteArr d) t ∧ d ∈ os := by
  induction h with
  | nil => nomatch hm
  | cons o t h ih =>
    rcases List.mem_cons.mp hm with rfl | hm
    · exact ⟨o, t, rfl, List.mem_cons_self ..⟩
    · obtain ⟨d, t', e, hd⟩ := ih hm
      exact ⟨d, t', e, List.mem_cons_of_mem _ hd⟩
theorem one_bytes {w : World} {src l : Addr} {vs : List Value} {os : List (List Int)} {n : Nat} (hi : BytesAre vs os) (hn : 0 < os.length) (hn' : os.length < 1000) : Draws w 14 440 [.ref src, .ref l] src [(l, listOf vs.toArray n)] (RetOf (fun d t => Value.bytes (byteArr d) t) fun d => d ∈ os) :=
  Draws.weaken (one_any src l vs n (by rw [hi.length]; exact hn) (by rw [hi.length]; exact hn')) fun _ _ p => ⟨p.1, bytes_mem hi p.2⟩
theorem News.tl {h₀ h : Heap} {L : Addr} {p : Addr × Obj} {news : List (Addr × Obj)} (N : News h₀ L h (p :: news)) : News h₀ L h news := fun q hq => N q (List.mem_cons_of_mem _ hq)
theorem News.tlL {h₀ h : Heap} {L l : Addr} {vs : Array Value} {n : Nat} {news : List (Addr × Obj)} (N : News h₀ L h ((l, listOf vs n) :: news)) : News h₀ L h news := fun q hq => N q (List.mem_cons_of_mem _ hq)
theorem News.drop {h₀ h : Heap} {L : Addr} {news : List (Addr × Obj)} (k : Nat) (N : News h₀ L h news) : News h₀ L h (news.drop k) := fun q hq => N q (List.mem_of_mem_drop hq)
theorem lay85 : True := by
  k_with "my call ref" => (k_here; (with_reducible show wpAny _ _ (call (Value.ref 440) _) _ _ _); k_dflt (refine drawOf_use (by k_asm) (by k_asm) (by k_asm) (by k_asm) (by k_asm) (by first | exact rfl | assumption) (by ktr_room) (by ktr_units) (by k_updF) (by first | with_reducible assumption | assumption) (by k_extra "my needs") (one_bytes (by ((repeat (first | with_reducible apply BytesAre.consE | with_reducible apply BytesAre.cons)); exact BytesAre.nil)) (by exact Nat.succ_pos _) (by exact Nat.le_of_ble_eq_true rfl)) ?_); intro d' t' x' y' tx' ty' h' tk' ok' hm' F' N'; skip; (try dsimp only at N'); (try replace N' := News.tlL N'); (try dsimp only); (try k_sweep); (try k_fold))
  k_with "my call ref" => (k_here; (with_reducible show wpAny _ _ (call (Value.ref 440) _) _ _ _); k_dflt (refine drawOf_use (by k_asm) (by k_asm) (by k_asm) (by k_asm) (by k_asm) (by first | exact rfl | assumption) (by ktr_room) (by ktr_units) (by k_updF) (by first | with_reducible assumption | assumption) (by k_extra "my needs") (one_ints (by first | l_intsW | l_ints) (by decide) (by decide)) ?_); intro d' t' x' y' tx' ty' h' tk' ok' hm' F' N'; skip; (try dsimp only at N'); (try replace N' := News.tlL N'); (try dsimp only); (try k_sweep); (try k_fold))
  exact True.intro
theorem draw_end {h₀ h' : Heap} {L src : Addr} {m : Str → Option Value} {s : Shared} {a b a' b' : Int} {ta tb ta' tb' : Tok} {rest : List (Addr × Obj)} {P : Value → List (Addr × Obj) → Prop} {r : Value} {tk' : Nat} {Q : Value → Shared → Prop}
    (hret : ∀ r n' h' tk', (∃ a' b' ta' tb' own, SrcOk a' b' ∧ n' = own ++ (src, srcO a' b' ta' tb') :: rest ∧ (∀ p ∈ own, ∀ q ∈ (src, srcO a b ta tb) :: rest, q.1 < p.1) ∧ P r own) → Fr h₀ L h' m → News h₀ L h' n' → Q r { s with heap := h', toks := tk' })
    (ok : SrcOk a' b') (F : Fr h₀ L h' m) (N : News h₀ L h' ((src, srcO a' b' ta' tb') :: rest)) (p : P r []) : Q r { s with heap := h', toks := tk' } :=
  hret r _ h' tk' ⟨_, _, _, _, [], ok, rfl, (fun _ h => nomatch h), p⟩ F N
theorem lay78 : True := by
  k_with "my drawn" => (((with_reducible rename News _ _ _ _ => Nz); refine draw_end hret (by assumption) (by k_asm) (by first | exact Nz | exact News.drop 1 Nz | exact News.drop 2 Nz | exact News.drop 3 Nz | exact News.drop 4 Nz | exact News.drop 5 Nz | exact News.drop 6 Nz | exact News.drop 7 Nz | exact News.drop 8 Nz | exact News.drop 9 Nz | exact News.drop 10 Nz | exact News.drop 11 Nz | exact News.drop 12 Nz | exact News.drop 13 Nz | exact News.drop 14 Nz | exact News.drop 15 Nz) ?_))
  exact True.intro
theorem kind_draws {w : World} (src : Addr) : Draws w 20 492 [.ref src] src [] (RetOf Value.int fun d => d ∈ [0, 3, 3, 4, 5, 8, 8, 11, 12, 13, 17, 255]) := by
  intro a b ta tb rest ok hne _
  unfold Spec
  intro loose mean mg mb dp un gd cn cs a' ccd cl outer A₀ base h₀ L m s Q E B F X N T hk hd hu hret
  k_extra "my enter"
  k_steps
  k_extra "my drawn"
  exact ⟨rfl, _, _, rfl, by assumption⟩
theorem kinds_in {d : Int} (h : d ∈ [0, 3, 3, 4, 5, 8, 8, 11, 12, 13, 17, 255]) : 0 ≤ d ∧ d < 256 := (by decide : ∀ d ∈ ([0, 3, 3, 4, 5, 8, 8, 11, 12, 13, 17, 255] : List Int), 0 ≤ d ∧ d < 256) d h
theorem lay87 : True := by
  k_with "my call ref" => (k_here; (with_reducible show wpAny _ _ (call (Value.ref 492) _) _ _ _); k_dflt (refine drawOf_use (by k_asm) (by k_asm) (by k_asm) (by k_asm) (by k_asm) (by first | exact rfl | assumption) (by ktr_room) (by ktr_units) (by k_updF) (by first | with_reducible assumption | assumption) (by k_extra "my needs") (kind_draws _) ?_); intro d' t' x' y' tx' ty' h' tk' ok' hm' F' N'; (have lo' := kinds_in hm'); (try dsimp only at N'); (try dsimp only); (try k_sweep); (try k_fold))
  exact True.intro
--xMAC
--@draw 478 (address_draws _) [] | (obtain ⟨e1', d', t', e2', lo', hi'⟩ := P'; subst e1'; subst e2'; clear lt')
--xEND

-- P11: headers and messages: objects, plain questions about them
set_option genInjectivity false in
set_option genSizeOf false in
structure HD where
  h1 : Int
  h2 : Int
  h3 : Int
  h4 : Int
  h5 : Int
  h6 : Int
  h7 : Int
  h8 : Int
  h9 : Int
  hA : Int
  t1 : Tok
  t2 : Tok
  t3 : Tok
  t4 : Tok
  t5 : Tok
  t6 : Tok
  t7 : Tok
  t8 : Tok
  t9 : Tok
  tA : Tok
abbrev hdrDict (q : HD) (a b c d e f g h i j : Value) : List DictEntry :=
  [⟨q.h1, .str (Str.ofString "source") q.t1, a⟩, ⟨q.h2, .str (Str.ofString "target") q.t2, b⟩, ⟨q.h3, .str (Str.ofString "protocol") q.t3, c⟩, ⟨q.h4, .str (Str.ofString "ident") q.t4, d⟩, ⟨q.h5, .str (Str.ofString "ttl") q.t5, e⟩,
   ⟨q.h6, .str (Str.ofString "tos") q.t6, f⟩, ⟨q.h7, .str (Str.ofString "dont") q.t7, g⟩, ⟨q.h8, .str (Str.ofString "more") q.t8, h⟩, ⟨q.h9, .str (Str.ofString "offset") q.t9, i⟩, ⟨q.hA, .str (Str.ofString "options") q.tA, j⟩]
abbrev NewHdr (news : List (Addr × Obj)) (a b c d e f g h i j : Value) : Value → List (Addr × Obj) → Prop := fun r n' => ∃ x dx q, r = .ref x ∧ n' = (x, instObj 274 dx) :: (dx, dictOf (hdrDict q a b c d e f g h i j) 10) :: news ∧ (∀ p ∈ news, p.1 < dx) ∧ dx < x
theorem new_hdr_spec {w : World} {news : List (Addr × Obj)} (a b c d e f g h i j : Value) : Spec w 14 274 [a, b, c, d, e, f, g, h, i, j] news (NewHdr news a b c d e f g h i j) := by
  unfold Spec
  intro loose mean mg mb dp un gd cn cs a' ccd cl outer A₀ base h₀ L m s Q E B F X N T hk hd hu hret
  k_extra "my enter_cls"
  k_steps
  exact hret _ _ _ _ ⟨_, _, ⟨_, _, _, _, _, _, _, _, _, _, _, _, _, _, _, _, _, _, _, _⟩, rfl, rfl, by assumption, by assumption⟩ (by k_asm) (by k_asm)
theorem lay88 : True := by
  k_with "my call ref" => (k_here; (with_reducible show wpAny _ _ (call (Value.ref 274) _) _ _ _); k_dflt (refine spec_use (by k_asm) (by k_asm) (by k_asm) (by k_asm) (by k_asm) (by first | exact rfl | assumption) (by ktr_room) (by ktr_units) (new_hdr_spec _ _ _ _ _ _ _ _ _ _) ?_); intro r' n' h' tk' R' F' N'; (obtain ⟨x', d', q', e1', e2', l1', l2'⟩ := R'; subst e1'; subst e2'; (have l4' := lt_all l1' l2'); (try k_lt l4'); (replace l1' := l1'); (replace l2' := l2'); (try k_lt l1'); (try k_lt2 l2')); (try dsimp only); (try k_sweep); (try k_fold))
  exact True.intro
section
variable {w : World} {news : List (Addr × Obj)} {x d : Addr} {q : MD} {k c r : Int} {p : List Int} {tk tc tr tp : Tok}
theorem is_error_spec (hx : (x, instObj 175 d) ∈ news) (hd' : (d, dictOf (msgDict q (.int k tk) (.int c tc) (.int r tr) (.bytes (byteArr p) tp)) 4) ∈ news) : Spec w 20 144 [.ref x] news (Pure news fun _ => .bool (isErr k)) := by
  unfold Spec
  intro loose mean mg mb dp un gd cn cs a' ccd cl outer A₀ base h₀ L m s Q E B F X N T hk hd hu hret
  k_extra "my enter"
  k_steps
  all_goals exact hret _ _ _ _ ⟨rfl, 0, rfl⟩ (by k_asm) (cb_drop (by k_asm) (by intro p hp; k_ownIn))
theorem is_echo_spec (hx : (x, instObj 175 d) ∈ news) (hd' : (d, dictOf (msgDict q (.int k tk) (.int c tc) (.int r tr) (.bytes (byteArr p) tp)) 4) ∈ news) : Spec w 20 151 [.ref x] news (Pure news fun _ => .bool (decide (k = 8))) := by
  unfold Spec
  intro loose mean mg mb dp un gd cn cs a' ccd cl outer A₀ base h₀ L m s Q E B F X N T hk hd hu hret
  k_extra "my enter"
  k_steps
  all_goals exact hret _ _ _ _ ⟨rfl, 0, by simp only [bne, BEq.beq]⟩ (by k_asm) (cb_drop (by k_asm) (by intro p hp; k_ownIn))
theorem ident_spec (hx : (x, instObj 175 d) ∈ news) (hd' : (d, dictOf (msgDict q (.int k tk) (.int c tc) (.int r tr) (.bytes (byteArr p) tp)) 4) ∈ news) : Spec w 20 158 [.ref x] news (Pure news fun t => .int (r / 65536) t) := by
  unfold Spec
  intro loose mean mg mb dp un gd cn cs a' ccd cl outer A₀ base h₀ L m s Q E B F X N T hk hd hu hret
  k_extra "my enter"
  k_steps
  all_goals exact hret _ _ _ _ ⟨rfl, _, rfl⟩ (by k_asm) (cb_drop (by k_asm) (by intro p hp; k_ownIn))
theorem number_spec (hx : (x, instObj 175 d) ∈ news) (hd' : (d, dictOf (msgDict q (.int k tk) (.int c tc) (.int r tr) (.bytes (byteArr p) tp)) 4) ∈ news) : Spec w 20 165 [.ref x] news (Pure news fun t => .int (r % 65536) t) := by
  unfold Spec
  intro loose mean mg mb dp un gd cn cs a' ccd cl outer A₀ base h₀ L m s Q E B F X N T hk hd hu hret
  k_extra "my enter"
  k_steps
  all_goals exact hret _ _ _ _ ⟨rfl, _, rfl⟩ (by k_asm) (cb_drop (by k_asm) (by intro p hp; k_ownIn))
theorem like_spec {y e : Addr} {q2 : MD} {tk2 tc2 tr2 tp2 : Tok} (hx : (x, instObj 175 d) ∈ news) (hd' : (d, dictOf (msgDict q (.int k tk) (.int c tc) (.int r tr) (.bytes (byteArr p) tp)) 4) ∈ news)
    (hy : (y, instObj 175 e) ∈ news) (he' : (e, dictOf (msgDict q2 (.int k tk2) (.int c tc2) (.int r tr2) (.bytes (byteArr p) tp2)) 4) ∈ news) (hp : KBa.In p) : Spec w 20 172 [.ref x, .ref y] news (Pure news fun _ => .bool true) := by
  unfold Spec
  intro loose mean mg mb dp un gd cn cs a' ccd cl outer A₀ base h₀ L m s Q E B F X N T hk hd hu hret
  k_extra "my enter"
  k_steps
  all_goals first
    | exact absurd rfl (by assumption)
    | exact hret _ _ _ _ ⟨rfl, 0, congrArg Value.bool (decide_eq_true rfl)⟩ (by k_asm) (cb_drop (by k_asm) (by intro p hp; k_ownIn))
end
theorem lay89 : True := by
  k_with "my call ref" => (k_here; (with_reducible show wpAny _ _ (call (Value.ref 144) _) _ _ _); k_dflt (refine pure_use (by k_asm) (by k_asm) (by k_asm) (by k_asm) (by k_asm) (by first | exact rfl | assumption) (by ktr_room) (by ktr_units) (is_error_spec (by k_mem) (by k_mem)) ?_); intro t' h' tk' F' N'; (try dsimp only); (try k_sweep); (try k_fold))
  k_with "my call ref" => (k_here; (with_reducible show wpAny _ _ (call (Value.ref 151) _) _ _ _); k_dflt (refine pure_use (by k_asm) (by k_asm) (by k_asm) (by k_asm) (by k_asm) (by first | exact rfl | assumption) (by ktr_room) (by ktr_units) (is_echo_spec (by k_mem) (by k_mem)) ?_); intro t' h' tk' F' N'; (try dsimp only); (try k_sweep); (try k_fold))
  k_with "my call ref" => (k_here; (with_reducible show wpAny _ _ (call (Value.ref 158) _) _ _ _); k_dflt (refine pure_use (by k_asm) (by k_asm) (by k_asm) (by k_asm) (by k_asm) (by first | exact rfl | assumption) (by ktr_room) (by ktr_units) (ident_spec (by k_mem) (by k_mem)) ?_); intro t' h' tk' F' N'; (try dsimp only); (try k_sweep); (try k_fold))
  k_with "my call ref" => (k_here; (with_reducible show wpAny _ _ (call (Value.ref 165) _) _ _ _); k_dflt (refine pure_use (by k_asm) (by k_asm) (by k_asm) (by k_asm) (by k_asm) (by first | exact rfl | assumption) (by ktr_room) (by ktr_units) (number_spec (by k_mem) (by k_mem)) ?_); intro t' h' tk' F' N'; (try dsimp only); (try k_sweep); (try k_fold))
  k_with "my call ref" => (k_here; (with_reducible show wpAny _ _ (call (Value.ref 172) _) _ _ _); k_dflt (refine pure_use (by k_asm) (by k_asm) (by k_asm) (by k_asm) (by k_asm) (by first | exact rfl | assumption) (by ktr_room) (by ktr_units) (like_spec (by k_mem) (by k_mem) (by k_mem) (by k_mem) (by k_extra "my b_in")) ?_); intro t' h' tk' F' N'; (try dsimp only); (try k_sweep); (try k_fold))
  exact True.intro
theorem echo_rest_spec {w : World} {news : List (Addr × Obj)} (i n : Int) (t u : Tok) (h0 : 0 ≤ i) (h1 : i < 65536) (h2 : 0 ≤ n) (h3 : n < 65536) : Spec w 12 214 [.int i t, .int n u] news (Pure news fun t => .int (i * 65536 + n) t) := by
  unfold Spec
  intro loose mean mg mb dp un gd cn cs a' ccd cl outer A₀ base h₀ L m s Q E B F X N T hk hd hu hret
  k_extra "my enter"
  k_steps
  all_goals exact hret _ _ _ _ ⟨rfl, _, rfl⟩ (by k_asm) (cb_drop (by k_asm) (by intro p hp; k_ownIn))
theorem lay94 : True := by
  k_with "my call ref" => (k_here; (with_reducible show wpAny _ _ (call (Value.ref 214) _) _ _ _); k_dflt (refine pure_use (by k_asm) (by k_asm) (by k_asm) (by k_asm) (by k_asm) (by first | exact rfl | assumption) (by ktr_room) (by ktr_units) (echo_rest_spec _ _ _ _ (by first | with_reducible assumption | decide | omega) (by first | with_reducible assumption | decide | omega) (by first | with_reducible assumption | decide | omega) (by first | with_reducible assumption | decide | omega)) ?_); intro t' h' tk' F' N'; (try dsimp only); (try k_sweep); (try k_fold))
  exact True.intro
theorem echo_message_spec {w : World} {news : List (Addr × Obj)} (i n : Int) (t u : Tok) (v : Value) (h0 : 0 ≤ i) (h1 : i < 65536) (h2 : 0 ≤ n) (h3 : n < 65536) :
    Spec w 20 221 [.int i t, .int n u, v] news (RetMsg news (fun t => .int 8 t) (fun t => .int 0 t) (fun t => .int (i * 65536 + n) t) (fun _ => v)) := by
  unfold Spec
  intro loose mean mg mb dp un gd cn cs a' ccd cl outer A₀ base h₀ L m s Q E B F X N T hk hd hu hret
  k_extra "my enter"
  k_steps
  all_goals exact hret _ _ _ _ ⟨_, _, _, 0, newMsg_keep (by assumption) (by assumption) rfl⟩ (by k_asm) (cb_drop (by k_asm) (by intro p hp; k_ownIn))
theorem lay95 : True := by
  k_with "my call ref" => (k_here; (with_reducible show wpAny _ _ (call (Value.ref 221) _) _ _ _); k_dflt (refine msg_use (by k_asm) (by k_asm) (by k_asm) (by k_asm) (by k_asm) (by first | exact rfl | assumption) (by ktr_room) (by ktr_units) (echo_message_spec _ _ _ _ _ (by first | with_reducible assumption | decide | omega) (by first | with_reducible assumption | decide | omega) (by first | with_reducible assumption | decide | omega) (by first | with_reducible assumption | decide | omega)) ?_); intro x' d' q' ta' tb' tc' td' h' tk' F' N' l4' l1' l2'; (try k_lt l4'); (try k_lt l1'); (try k_lt2 l2'); (try dsimp only); (try k_sweep); (try k_fold))
  exact True.intro
section
variable {w : World} {news : List (Addr × Obj)} {x d : Addr} {q : MD} {k c r : Int} {p : List Int} {tk tc tr tp : Tok}
theorem echo_answer_spec (hx : (x, instObj 175 d) ∈ news) (hd' : (d, dictOf (msgDict q (.int k tk) (.int c tc) (.int r tr) (.bytes (byteArr p) tp)) 4) ∈ news) (h8 : k = 8) :
    Spec w 24 377 [.ref x] news (RetMsg news (fun t => .int 0 t) (fun t => .int 0 t) (fun _ => .int r tr) (fun _ => .bytes (byteArr p) tp)) := by
  unfold Spec
  intro loose mean mg mb dp un gd cn cs a' ccd cl outer A₀ base h₀ L m s Q E B F X N T hk hd hu hret
  k_extra "my enter"
  k_steps
  all_goals exact hret _ _ _ _ ⟨_, _, 0, 0, newMsg_keep (by assumption) (by assumption) rfl⟩ (by k_asm) (cb_drop (by k_asm) (by intro p hp; k_ownIn))
theorem echo_answer_bad (hx : (x, instObj 175 d) ∈ news) (hd' : (d, dictOf (msgDict q (.int k tk) (.int c tc) (.int r tr) (.bytes (byteArr p) tp)) 4) ∈ news) (h8 : k ≠ 8) :
    SpecR w 24 377 [.ref x] news := by
  unfold SpecR
  intro loose mean mg mb dp un gd cn cs a' ccd cl outer A₀ base h₀ L m s Q E B F X N T hk hd hu hret
  k_extra "my enter"
  k_steps
  all_goals (refine hret _ _ _ _ ?_ (raisedM_drop (by assumption) (by intro p hp; k_ownIn)) ?_ <;> assumption)
end
theorem lay96 : True := by
  k_with "my call ref" => (k_here; (with_reducible show wpAny _ _ (call (Value.ref 377) _) _ _ _); k_dflt (refine specR_use (by k_asm) (by k_asm) (by k_asm) (by k_asm) (by k_asm) (by first | exact rfl | assumption) (by ktr_room) (by ktr_units) (echo_answer_bad (by k_mem) (by k_mem) (by first | decide | assumption)) ?_); intro e' h' tk' g' F' R' U'; (try dsimp only); (try k_fold))
  k_with "my call ref" => (k_here; (with_reducible show wpAny _ _ (call (Value.ref 377) _) _ _ _); k_dflt (refine msg_use (by k_asm) (by k_asm) (by k_asm) (by k_asm) (by k_asm) (by first | exact rfl | assumption) (by ktr_room) (by ktr_units) (echo_answer_spec (by k_mem) (by k_mem) (by first | exact rfl | assumption)) ?_); intro x' d' q' ta' tb' tc' td' h' tk' F' N' l4' l1' l2'; (try k_lt l4'); (try k_lt l1'); (try k_lt2 l2'); (try dsimp only); (try k_sweep); (try k_fold))
  exact True.intro

-- P12: rules of telling
def Stop (p : Prop) : Prop := p
theorem stop_in {p : Prop} (h : Stop p) : p := h
theorem stop_out {p : Prop} (h : p) : Stop p := h
section
variable {prog : Program} {w : World} {A : Around} {E : Value → Shared → Prop} {s : Shared} {t u : Tok} {Q : Value → Shared → Prop}
theorem pow24 (h : Q (.int 16777216 s.toks) { s with toks := s.toks + 1 }) : wpAny (model prog w) A (binaryOp .Pow (.int 2 t) (.int 24 u)) Q E s := pow_int_small (by decide) (by decide) (by decide) (by rw [show (2 : Int) ^ (24 : Int).toNat = 16777216 from by decide]; exact h)
theorem pow32 (h : Q (.int 4294967296 s.toks) { s with toks := s.toks + 1 }) : wpAny (model prog w) A (binaryOp .Pow (.int 2 t) (.int 32 u)) Q E s := pow_int_small (by decide) (by decide) (by decide) (by rw [show (2 : Int) ^ (32 : Int).toNat = 4294967296 from by decide]; exact h)
theorem pow31 (h : Q (.int 2147483648 s.toks) { s with toks := s.toks + 1 }) : wpAny (model prog w) A (binaryOp .Pow (.int 2 t) (.int 31 u)) Q E s := pow_int_small (by decide) (by decide) (by decide) (by rw [show (2 : Int) ^ (31 : Int).toNat = 2147483648 from by decide]; exact h)
theorem pow18 (h : Q (.int 1000000000000000000 s.toks) { s with toks := s.toks + 1 }) : wpAny (model prog w) A (binaryOp .Pow (.int 10 t) (.int 18 u)) Q E s := pow_int_small (by decide) (by decide) (by decide) (by rw [show (10 : Int) ^ (18 : Int).toNat = 1000000000000000000 from by decide]; exact h)
end
theorem lay98 : True := by
  k_with "my binaryOp Pow int int" => ((k_here; first | with_reducible refine pow24 ?_ | with_reducible refine pow32 ?_ | with_reducible refine pow31 ?_ | with_reducible refine pow18 ?_))
  exact True.intro
abbrev isGroup (a : Int) : Bool := decide (3758096384 ≤ a)
theorem is_group_spec {w : World} {news : List (Addr × Obj)} (a : Int) (t : Tok) : Spec w 12 334 [.int a t] news (Pure news fun _ => .bool (isGroup a)) := by
  unfold Spec
  intro loose mean mg mb dp un gd cn cs a' ccd cl outer A₀ base h₀ L m s Q E B F X N T hk hd hu hret
  k_extra "my enter"
  k_steps
  all_goals exact hret _ _ _ _ ⟨rfl, 0, rfl⟩ (by k_asm) (cb_drop (by k_asm) (by intro p hp; k_ownIn))
theorem lay102 : True := by
  k_with "my call ref" => (k_here; (with_reducible show wpAny _ _ (call (Value.ref 334) _) _ _ _); k_dflt (refine pure_use (by k_asm) (by k_asm) (by k_asm) (by k_asm) (by k_asm) (by first | exact rfl | assumption) (by ktr_room) (by ktr_units) (is_group_spec _ _) ?_); intro t' h' tk' F' N'; (try dsimp only); (try k_sweep); (try k_fold))
  exact True.intro
def oneHost (a : Int) : Bool := decide (a ≠ 0) && !isGroup a && decide (a / 16777216 ≠ 127)
theorem lay99 : True := by
  k_with "my bool_fin" => ((refine congrArg Value.bool (Bool.eq_iff_iff.mpr ?_); simp only [oneHost, bne_iff_ne, beq_iff_eq, Bool.and_eq_true, Bool.or_eq_true, decide_eq_true_eq, Bool.not_eq_true', decide_eq_false_iff_not, ne_eq, Bool.false_eq_true, reduceCtorEq, iff_true, true_iff, iff_false, false_iff, true_and, and_true]; omega))
  exact True.intro
theorem is_one_host_spec {w : World} {news : List (Addr × Obj)} (a : Int) (t : Tok) : Spec w 16 341 [.int a t] news (Pure news fun _ => .bool (oneHost a)) := by
  unfold Spec
  intro loose mean mg mb dp un gd cn cs a' ccd cl outer A₀ base h₀ L m s Q E B F X N T hk hd hu hret
  k_extra "my enter"
  k_steps
  all_goals exact hret _ _ _ _ ⟨rfl, 0, by k_extra "my bool_fin"⟩ (by k_asm) (cb_drop (by k_asm) (by intro p hp; k_ownIn))
theorem law_is_host_spec {w : World} {news : List (Addr × Obj)} (a : Int) (t : Tok) : Spec w 16 520 [.int a t] news (Pure news fun _ => .bool (oneHost a)) := by
  unfold Spec
  intro loose mean mg mb dp un gd cn cs a' ccd cl outer A₀ base h₀ L m s Q E B F X N T hk hd hu hret
  k_extra "my enter"
  k_steps
  all_goals exact hret _ _ _ _ ⟨rfl, 0, by k_extra "my bool_fin"⟩ (by k_asm) (cb_drop (by k_asm) (by intro p hp; k_ownIn))
theorem lay103 : True := by
  k_with "my call ref" => (k_here; (with_reducible show wpAny _ _ (call (Value.ref 341) _) _ _ _); k_dflt (refine pure_use (by k_asm) (by k_asm) (by k_asm) (by k_asm) (by k_asm) (by first | exact rfl | assumption) (by ktr_room) (by ktr_units) (is_one_host_spec _ _) ?_); intro t' h' tk' F' N'; (try dsimp only); (try k_sweep); (try k_fold))
  k_with "my call ref" => (k_here; (with_reducible show wpAny _ _ (call (Value.ref 520) _) _ _ _); k_dflt (refine pure_use (by k_asm) (by k_asm) (by k_asm) (by k_asm) (by k_asm) (by first | exact rfl | assumption) (by ktr_room) (by ktr_units) (law_is_host_spec _ _) ?_); intro t' h' tk' F' N'; (try dsimp only); (try k_sweep); (try k_fold))
  exact True.intro
set_option genInjectivity false in
set_option genSizeOf false in
/-- a header's object, with the fields that a law's header has -/
structure HF where
  src : Int
  tgt : Int
  pro : Int
  idn : Int
  ttl : Int
  tos : Int
  dont : Bool
  more : Bool
  off : Int
  opt : List Int
set_option genInjectivity false in
set_option genSizeOf false in
structure HT where
  a : Tok
  b : Tok
  c : Tok
  d : Tok
  e : Tok
  f : Tok
  i : Tok
  j : Tok
abbrev hdrOf (q : HD) (v : HF) (u : HT) : List DictEntry := hdrDict q (.int v.src u.a) (.int v.tgt u.b) (.int v.pro u.c) (.int v.idn u.d) (.int v.ttl u.e) (.int v.tos u.f) (.bool v.dont) (.bool v.more) (.int v.off u.i) (.bytes (byteArr v.opt) u.j)
structure HdrOk (v : HF) : Prop where
  s0 : 0 ≤ v.src
  s1 : v.src < 4294967296
  g0 : 0 ≤ v.tgt
  g1 : v.tgt < 4294967296
  p0 : 0 ≤ v.pro
  p1 : v.pro < 256
  i0 : 0 ≤ v.idn
  i1 : v.idn < 65536
  t0 : 0 ≤ v.ttl
  t1 : v.ttl < 256
  o0 : 0 ≤ v.tos
  o1 : v.tos < 256
  f0 : 0 ≤ v.off
  f1 : v.off < 65536
  f8 : v.off % 8 = 0
  l4 : v.opt.length % 4 = 0
  l8 : v.opt.length ≤ 8
  oi : KBa.In v.opt
section
variable {w : World} {news : List (Addr × Obj)} {x d : Addr} {q : HD} {v : HF} {u : HT} {p : List Int} {t : Tok} {b : Bool}
def carries (v : HF) (p : List Int) : Bool := decide (v.pro = 1) && (decide (p = []) || isErr (p.getD 0 0))
def mayTell (v : HF) (p : List Int) (b : Bool) : Bool := !b && !isGroup v.tgt && oneHost v.src && decide (v.off = 0) && !carries v p
theorem carries1 (h : v.pro ≠ 1) : false = carries v p := by unfold carries; rw [decide_eq_false h]; rfl
theorem carries2 (h : v.pro = 1) : p.length = 0 → ((p.length : Int) == 0) = carries v p := fun h2 => by
  unfold carries; rw [decide_eq_true h, List.length_eq_zero_iff.mp h2]; rfl
theorem carries3 (h : v.pro = 1) (h2 : p.length ≠ 0) : isErr (p.getD (Int.toNat 0) 0) = carries v p := by
  unfold carries; rw [decide_eq_true h, decide_eq_false (fun e => h2 (by rw [e]; rfl))]; rfl
theorem neNil_B {prog : Program} {A : Around} {E : Value → Shared → Prop} {s : Shared} {Q : Value → Shared → Prop} {t u : Tok} (hin : KBa.In p) (h : Q (.bool (decide (0 < (p.length : Int)))) s) : wpAny (model prog w) A (compareOp .NotEq (.bytes (byteArr p) t) (.bytes #[] u)) Q E s := by
  refine ne_B (b := []) hin in_nil ?_
  have e : (!decide (p = [])) = decide (0 < (p.length : Int)) := by cases p <;> simp
  rw [e]; exact h
theorem carries_spec (hx : (x, instObj 274 d) ∈ news) (hd' : (d, dictOf (hdrOf q v u) 10) ∈ news) (hp : KBa.In p) (hl : p.length < 3000) : Spec w 20 348 [.ref x, .bytes (byteArr p) t] news (Pure news fun _ => .bool (carries v p)) := by
  unfold Spec
  intro loose mean mg mb dp un gd cn cs a' ccd cl outer A₀ base h₀ L m s Q E B F X N T hk hd hu hret
  k_extra "my enter"
  k_steps
  all_goals exact hret _ _ _ _ ⟨rfl, 0, congrArg Value.bool (by first | exact carries1 (by assumption) | exact carries2 (by assumption) (by omega) | exact carries3 (by assumption) (by omega))⟩ (by k_asm) (cb_drop (by k_asm) (by intro p hp; k_ownIn))
theorem lay105 : True := by
  k_with "my call ref" => (k_here; (with_reducible show wpAny _ _ (call (Value.ref 348) _) _ _ _); k_dflt (refine pure_use (by k_asm) (by k_asm) (by k_asm) (by k_asm) (by k_asm) (by first | exact rfl | assumption) (by ktr_room) (by ktr_units) (carries_spec (by k_mem) (by k_mem) (by k_extra "my b_in") (by first | with_reducible assumption | decide | k_extra "my b_siz")) ?_); intro t' h' tk' F' N'; (try dsimp only); (try k_sweep); (try k_fold))
  k_with "my compareOp NotEq bytes bytes" => ((k_here; (with_reducible show wpAny _ _ (compareOp CmpOp.NotEq (Value.bytes (byteArr _) _) (Value.bytes #[] _)) _ _ _); (refine neNil_B (by k_extra "my b_in") ?_)))
  exact True.intro
theorem mt1 (h : b = true) : false = mayTell v p b := by unfold mayTell; rw [h]; rfl
theorem mt2 (h : 3758096384 ≤ v.tgt) : false = mayTell v p b := by unfold mayTell; rw [show isGroup v.tgt = true from decide_eq_true h]; cases b <;> rfl
theorem mt3 (h : oneHost v.src = false) : false = mayTell v p b := by unfold mayTell; rw [h]; cases b <;> cases isGroup v.tgt <;> rfl
theorem mt4 (h : v.off ≠ 0) : false = mayTell v p b := by unfold mayTell; rw [decide_eq_false h]; cases b <;> cases isGroup v.tgt <;> cases oneHost v.src <;> rfl
theorem mt5 (h1 : b = false) (h2 : ¬ 3758096384 ≤ v.tgt) (h3 : oneHost v.src = true) (h4 : v.off = 0) {c : Bool} (hc : c = !carries v p) : c = mayTell v p b := by
  unfold mayTell
  rw [h1, show isGroup v.tgt = false from decide_eq_false h2, h3, h4, hc]; rfl
theorem mtE1 (h : v.pro ≠ 1) : (v.pro != 1) = !carries v p := by rw [← carries1 h]; exact bne_iff_ne.mpr h
theorem mtE2 (h : v.pro = 1) (h2 : ¬ 0 < (p.length : Int)) : decide (0 < (p.length : Int)) = !carries v p := by
  rw [← carries2 h (by omega), decide_eq_false h2, beq_iff_eq.mpr (show (p.length : Int) = 0 by omega)]; rfl
theorem mtE3 (h : v.pro = 1) (h2 : 0 < (p.length : Int)) : (![3, 4, 5, 11, 12].any fun x => x == p.getD (Int.toNat 0) 0) = !carries v p := by
  rw [← carries3 h (by omega)]
theorem lay101 : True := by
  k_with "my b_fact" => (first | assumption | rfl | exact Bool.eq_false_iff.mpr (by assumption))
  exact True.intro
theorem may_tell_spec (hx : (x, instObj 274 d) ∈ news) (hd' : (d, dictOf (hdrOf q v u) 10) ∈ news) (hp : KBa.In p) (hl : p.length < 3000) : Spec w 24 355 [.ref x, .bytes (byteArr p) t, .bool b] news (Pure news fun _ => .bool (mayTell v p b)) := by
  unfold Spec
  intro loose mean mg mb dp un gd cn cs a' ccd cl outer A₀ base h₀ L m s Q E B F X N T hk hd hu hret
  k_extra "my enter"
  k_steps
  all_goals exact hret _ _ _ _ ⟨rfl, 0, congrArg Value.bool (by first | exact mt1 (by k_extra "my b_fact") | exact mt2 (by assumption) | exact mt3 (by k_extra "my b_fact") | exact mt4 (by assumption) | exact mt5 (by k_extra "my b_fact") (by omega) (by k_extra "my b_fact") (by omega) rfl)⟩ (by k_asm) (cb_drop (by k_asm) (by intro p hp; k_ownIn))
theorem law_may_spec (hx : (x, instObj 274 d) ∈ news) (hd' : (d, dictOf (hdrOf q v u) 10) ∈ news) (ho : 0 ≤ v.off) (hp : KBa.In p) (hl : p.length < 3000) : Spec w 24 527 [.ref x, .bytes (byteArr p) t, .bool b] news (Pure news fun _ => .bool (mayTell v p b)) := by
  unfold Spec
  intro loose mean mg mb dp un gd cn cs a' ccd cl outer A₀ base h₀ L m s Q E B F X N T hk hd hu hret
  k_extra "my enter"
  k_steps
  all_goals exact hret _ _ _ _ ⟨rfl, 0, congrArg Value.bool (by first | exact mt1 (by k_extra "my b_fact") | exact mt2 (by omega) | exact mt3 (by k_extra "my b_fact") | exact mt4 (by omega) | exact mt5 (by k_extra "my b_fact") (by omega) (by k_extra "my b_fact") (by omega) (by first | exact mtE1 (by assumption) | exact mtE2 (by omega) (by assumption) | exact mtE3 (by omega) (by assumption)))⟩ (by k_asm) (cb_drop (by k_asm) (by intro p hp; k_ownIn))
end
theorem lay106 : True := by
  k_with "my call ref" => (k_here; (with_reducible show wpAny _ _ (call (Value.ref 355) _) _ _ _); k_dflt (refine pure_use (by k_asm) (by k_asm) (by k_asm) (by k_asm) (by k_asm) (by first | exact rfl | assumption) (by ktr_room) (by ktr_units) (may_tell_spec (by k_mem) (by k_mem) (by k_extra "my b_in") (by first | with_reducible assumption | decide | k_extra "my b_siz")) ?_); intro t' h' tk' F' N'; (try dsimp only); (try k_sweep); (try k_fold))
  k_with "my call ref" => (k_here; (with_reducible show wpAny _ _ (call (Value.ref 527) _) _ _ _); k_dflt (refine pure_use (by k_asm) (by k_asm) (by k_asm) (by k_asm) (by k_asm) (by first | exact rfl | assumption) (by ktr_room) (by ktr_units) (law_may_spec (by k_mem) (by k_mem) (by first | with_reducible assumption | exact HdrOk.f0 (by assumption)) (by k_extra "my b_in") (by first | with_reducible assumption | decide | k_extra "my b_siz")) ?_); intro t' h' tk' F' N'; (try dsimp only); (try k_sweep); (try k_fold))
  exact True.intro

-- P13: draws of octets, addresses, headers, messages
abbrev addrs : List Int := ([10 * 16777216 + 1, 10 * 16777216 + 2, 192 * 16777216 + 7, 223 * 16777216 + 1] ++ [10 * 16777216 + 1, 10 * 16777216 + 2, 192 * 16777216 + 7, 223 * 16777216 + 1]) ++ [10 * 16777216 + 1, 10 * 16777216 + 2, 192 * 16777216 + 7, 223 * 16777216 + 1, 224 * 16777216, 239 * 16777216 + 5] ++ [0, 4294967296 - 1, 127 * 16777216 + 1, 128 * 16777216]
theorem addr_in {d : Int} (h : d ∈ addrs) : 0 ≤ d ∧ d < 4294967296 := by
  have : ∀ d ∈ addrs, 0 ≤ d ∧ d < 4294967296 := by decide
  exact this d h
theorem address_draws {w : World} (src : Addr) : Draws w 20 478 [.ref src] src [] (RetOf Value.int fun d => 0 ≤ d ∧ d < 4294967296) := by
  intro a b ta tb rest ok hne _
  unfold Spec
  intro loose mean mg mb dp un gd cn cs a' ccd cl outer A₀ base h₀ L m s Q E B F X N T hk hd hu hret
  k_extra "my enter"
  k_steps
  k_extra "my drawn"
  exact ⟨rfl, _, _, rfl, addr_in (by assumption)⟩
theorem lay114 : True := by
  k_with "my call ref" => (k_here; (with_reducible show wpAny _ _ (call (Value.ref 478) _) _ _ _); k_dflt (refine drawOf_use (by k_asm) (by k_asm) (by k_asm) (by k_asm) (by k_asm) (by first | exact rfl | assumption) (by ktr_room) (by ktr_units) (by k_updF) (by first | with_reducible assumption | assumption) (by k_extra "my needs") (address_draws _) ?_); intro d' t' x' y' tx' ty' h' tk' ok' hm' F' N'; ((have lo' := hm'.1); (have hi' := hm'.2); clear hm'); (try dsimp only at N'); (try dsimp only); (try k_sweep); (try k_fold))
  exact True.intro
theorem comp_draws {prog : Program} {w : World} {A : Around} {h₀ : Heap} {L src : Addr} {m : Str → Option Value} {env : Env} {elt : PySem.Expr} {x : Str} {scope : Scope} {cl : List (Str × Addr)} {s : Shared} {P : Nat → Value → Prop} {Fin : List Value → List (Addr × Obj) → Prop} {n : Nat} {g : Obj → List (Addr × Obj)} {S : List (Addr × Obj) → Prop} (hS : ∀ l, S l)
    (step : ∀ a b ta tb I oI C oC D m₂ h tk (E' : Value → Shared → Prop) v ys (K : Value → Shared → Prop), SrcOk a b → LCg.NsObj oC m₂ → m₂ x = some v → Fr h₀ L h m → News h₀ L h ((I, oI) :: (C, oC) :: (D, LCg.lst ys) :: g (srcO a b ta tb)) →
      LCg.Off3 I C D (g (srcO a b ta tb)) → ((@Ne Nat I C) ∧ (@Ne Nat I D) ∧ (@Ne Nat C D)) →
      (∀ d t' a' b' ta' tb' h' tk', SrcOk a' b' → 0 ≤ d → d < 256 → Fr h₀ L h' m → News h₀ L h' ((I, oI) :: (C, oC) :: (D, LCg.lst ys) :: g (srcO a' b' ta' tb')) → K (.int d t') { s with heap := h', toks := tk' }) →
      wpAny (model prog w) A (eval elt (compEnvC scope cl C env)) K E' { s with heap := h, toks := tk })
    (off : ∀ I C D o o', LCg.Off3 I C D (g o) → LCg.Off3 I C D (g o'))
    (fin : ∀ ys ns a b ta tb, IntsAre ys ns → KBa.In ns → ns.length = n → SrcOk a b → Fin ys (g (srcO a b ta tb))) :
    ∀ k i ys ns a b ta tb, IntsAre ys ns → KBa.In ns → ns.length + k = n → SrcOk a b → LCg.CompRest prog w A h₀ L m env elt x scope cl s S P Fin k i ys (g (srcO a b ta tb)) := by
  intro k
  induction k with
  | zero => intro i ys ns a b ta tb hi hin hl ok; exact fin ys ns a b ta tb hi hin hl ok
  | succ k ih =>
    intro i ys ns a b ta tb hi hin hl ok
    refine LCg.CompRest.succ fun v I oI C oC D m₂ h tk E' hP hC hx F N o3 hne => ?_
    refine step a b ta tb I oI C oC D m₂ h tk E' v ys _ ok hC hx F N o3 hne fun d t' a' b' ta' tb' h' tk' ok' d0 d1 F' N' => ?_
    exact LCg.CompEnd.intro F' N' _ (fun p hp => hp) (off _ _ _ _ _ o3) (hS _) (ih (i + 1) (ys ++ [.int d t']) (ns ++ [d]) a' b' ta' tb' (ksk_snoc hi) (in_app hin (in_cons d0 d1 in_nil)) (by rw [List.length_append, List.length_singleton]; omega) ok')
theorem updF_off {I C D src : Addr} {o₀ : Obj} {news : List (Addr × Obj)} {g : Obj → List (Addr × Obj)} (U : UpdF src o₀ news g) (o o' : Obj) (h : LCg.Off3 I C D (g o)) : LCg.Off3 I C D (g o') := by
  obtain ⟨pre, post, rfl, hg, h1, h2⟩ := U.split
  rw [hg] at h ⊢
  have h' := h.mem
  refine LCg.Off3.of fun p hp => ?_
  rcases List.mem_append.mp hp with hp | hp
  · exact h' p (List.mem_append_left _ hp)
  · rcases List.mem_cons.mp hp with rfl | hp
    · exact h' (src, o) (List.mem_append_right _ (List.mem_cons_self ..))
    · exact h' p (List.mem_append_right _ (List.mem_cons_of_mem _ hp))
theorem comp_drawsU {prog : Program} {w : World} {A : Around} {h₀ : Heap} {L src : Addr} {m : Str → Option Value} {env : Env} {elt : PySem.Expr} {x : Str} {scope : Scope} {cl : List (Str × Addr)} {s : Shared} {P : Nat → Value → Prop} {Fin : List Value → List (Addr × Obj) → Prop} {n : Nat} {g : Obj → List (Addr × Obj)} {a b : Int} {ta tb : Tok} {news : List (Addr × Obj)}
    (U : UpdF src (srcO a b ta tb) news g) (ok : SrcOk a b)
    (step : ∀ a b ta tb I oI C oC D m₂ h tk (E' : Value → Shared → Prop) v ys (K : Value → Shared → Prop), SrcOk a b → LCg.NsObj oC m₂ → m₂ x = some v → Fr h₀ L h m → News h₀ L h ((I, oI) :: (C, oC) :: (D, LCg.lst ys) :: g (srcO a b ta tb)) →
      LCg.Off3 I C D (g (srcO a b ta tb)) → ((@Ne Nat I C) ∧ (@Ne Nat I D) ∧ (@Ne Nat C D)) →
      (∀ d t' a' b' ta' tb' h' tk', SrcOk a' b' → 0 ≤ d → d < 256 → Fr h₀ L h' m → News h₀ L h' ((I, oI) :: (C, oC) :: (D, LCg.lst ys) :: g (srcO a' b' ta' tb')) → K (.int d t') { s with heap := h', toks := tk' }) →
      wpAny (model prog w) A (eval elt (compEnvC scope cl C env)) K E' { s with heap := h, toks := tk })
    (fin : ∀ ys ns a b ta tb, IntsAre ys ns → KBa.In ns → ns.length = n → SrcOk a b → Fin ys (g (srcO a b ta tb))) :
    LCg.CompRest prog w A h₀ L m env elt x scope cl s (fun _ => True) P Fin n 0 [] news := by
  have e : news = g (srcO a b ta tb) := by
    obtain ⟨pre, post, rfl, hg, _⟩ := U.split
    rw [hg]
  rw [e]
  exact comp_draws (src := src) (fun _ => trivial) step (fun I C D o o' h => updF_off U o o' h) fin n 0 [] [] a b ta tb .nil in_nil (by simp) ok
theorem make_Bn {prog : Program} {w : World} {A : Around} {E : Value → Shared → Prop} {s : Shared} {h₀ : Heap} {L l : Addr} {m : Str → Option Value} {news : List (Addr × Obj)} {vs : List Value} {ns : List Int} {n : Nat} {Q : Value → Shared → Prop} (F : Fr h₀ L s.heap m) (N : News h₀ L s.heap news) (hh : A.handled = none) (hl : (l, listOf vs.toArray n) ∈ news) (hi : IntsAre vs ns) (hr : KBa.In ns) (hn : ns.length ≤ 16777216)
    (h : ∀ h' t' k, Fr h₀ L h' m → News h₀ L h' news → Q (.bytes (byteArr ns) t') { s with heap := h', toks := k }) : wpAny (model prog w) A (call (.type "bytes") [.ref l]) Q E s :=
  KBa.make_K F N hh (News.isList N hl) hi hr hn fun h' t' k F' N' _ => h h' t' k F' N'
theorem octs_in {d : Int} (h : d ∈ [0, 1, 2, 2, 65, 255]) : 0 ≤ d ∧ d < 256 := (by decide : ∀ d ∈ ([0, 1, 2, 2, 65, 255] : List Int), 0 ≤ d ∧ d < 256) d h
section
theorem lay111 : True := by
  k_with "my call type:bytes" => (((with_reducible rename Sec 11301 => sc'); (k_here; (with_reducible show wpAny _ _ (call (Value.type "bytes") [Value.ref _]) _ _ _); k_dflt (refine make_Bn (by k_asm) (by k_asm) (by rfl) (by k_mem) (by assumption) (by assumption) (by omega) ?_); intro h' t' k' F' N'; (try k_sweep))))
  k_with "my eval ListComp" => (((with_reducible rename Sec 11301 => sc'); (k_here; k_dflt (refine LCg.ListComp_U (F₀ := by k_asm) (by with_unfolding_all rfl) (by decide) (by rfl) (by decide) (by rfl) ?_))))
  k_with "my CompSrc" => (((with_reducible rename Sec 11301 => sc'); refine stop_in ?_))
  exact True.intro
theorem octets_draws {w : World} (src : Addr) (many : Int) (t : Tok) (h0 : 0 ≤ many) (h1 : many < 20) : Draws w 24 445 [.ref src, .int many t] src [] (RetOf (fun o t => Value.bytes (byteArr o) t) fun o => (o.length : Int) = many ∧ KBa.In o) := by
  intro a b ta tb rest ok hne _
  unfold Spec
  intro loose mean mg mb dp un gd cn cs a' ccd cl outer A₀ base h₀ L m s Q E B F X N T hk hd hu hret
  have sc' := sec 11301
  k_extra "my enterC"
  k_steps
  refine stop_out ?_
  (rename Fr _ _ _ _ => F'); (rename News _ _ _ _ => N'); (rename IsRange _ _ _ _ _ _ _ _ => R')
  refine LCg.CompSrc.range (n := many.toNat) (by rfl) F' N' R' (small_up (by decide) (by decide) (by omega) (by omega) (by decide) (by decide)) (size_one (by omega)) (by rw [sizeLine_eq]; omega) fun g' => ?_
  clear F' N' R'
  refine' comp_drawsU (src := src) ?U ?ok ?step ?fin
  case U => k_updF
  case ok => assumption
  case step =>
    intro a b ta tb I oI C oC D m₂ h tk E' v ys K ok' hC hx F' N' o3 hne hK
    (try dsimp only at N')
    dsimp only [LCg.Off3] at o3
    obtain ⟨⟨c1, c2, c3⟩, ⟨n1, n2, n3⟩, _⟩ := o3
    (try k_fold)
    k_steps
    have b := octs_in (by assumption)
    exact hK _ _ _ _ _ _ _ _ (by assumption) b.1 b.2 (by k_asm) (by first | assumption | exact News.drop 1 (by assumption))
  case fin =>
    intro ys ns a b ta tb hi hr hl ok'
    (try dsimp only)
    k_steps
    k_extra "my drawn"
    exact ⟨rfl, _, _, rfl, by omega, by assumption⟩
end
theorem lay115 : True := by
  k_with "my call ref" => (k_here; (with_reducible show wpAny _ _ (call (Value.ref 445) _) _ _ _); k_dflt (refine drawOf_use (by k_asm) (by k_asm) (by k_asm) (by k_asm) (by k_asm) (by first | exact rfl | assumption) (by ktr_room) (by ktr_units) (by k_updF) (by first | with_reducible assumption | assumption) (by k_extra "my needs") (octets_draws _ _ _ (by first | with_reducible assumption | decide | omega) (by first | with_reducible assumption | decide | omega)) ?_); intro d' t' x' y' tx' ty' h' tk' ok' hm' F' N'; ((have lo' := hm'.1); (have hi' := hm'.2); clear hm'); (try dsimp only at N'); (try dsimp only); (try k_sweep); (try k_fold))
  exact True.intro
theorem News.skip2 {h₀ h : Heap} {L : Addr} {p q : Addr × Obj} {news : List (Addr × Obj)} (k : Nat) (N : News h₀ L h (p :: q :: news)) : News h₀ L h (p :: q :: news.drop k) := fun z hz => N z (by
  rcases List.mem_cons.mp hz with rfl | hz
  · exact List.mem_cons_self ..
  · rcases List.mem_cons.mp hz with rfl | hz
    · exact List.mem_cons_of_mem _ (List.mem_cons_self ..)
    · exact List.mem_cons_of_mem _ (List.mem_cons_of_mem _ (List.mem_of_mem_drop hz)))
theorem draw_end2 {h₀ h' : Heap} {L src : Addr} {m : Str → Option Value} {s : Shared} {a b a' b' : Int} {ta tb ta' tb' : Tok} {rest : List (Addr × Obj)} {P : Value → List (Addr × Obj) → Prop} {r : Value} {tk' : Nat} {Q : Value → Shared → Prop} {x d : Addr} {o1 o2 : Obj}
    (hret : ∀ r n' h' tk', (∃ a' b' ta' tb' own, SrcOk a' b' ∧ n' = own ++ (src, srcO a' b' ta' tb') :: rest ∧ (∀ p ∈ own, ∀ q ∈ (src, srcO a b ta tb) :: rest, q.1 < p.1) ∧ P r own) → Fr h₀ L h' m → News h₀ L h' n' → Q r { s with heap := h', toks := tk' })
    (ok : SrcOk a' b') (F : Fr h₀ L h' m) (N : News h₀ L h' ((x, o1) :: (d, o2) :: (src, srcO a' b' ta' tb') :: rest)) (l1 : @LT.lt Nat _ src d) (l2 : AllLt d rest) (l3 : @LT.lt Nat _ d x) (p : P r [(x, o1), (d, o2)]) : Q r { s with heap := h', toks := tk' } :=
  hret r _ h' tk' ⟨_, _, _, _, [(x, o1), (d, o2)], ok, rfl, (fun p hp q hq => by
    have hq : @LT.lt Nat _ q.1 d := by
      rcases List.mem_cons.mp hq with rfl | hq
      · exact l1
      · exact tb_ltOf l2 q hq
    rcases List.mem_cons.mp hp with rfl | hp
    · exact Nat.lt_trans hq l3
    · rw [List.mem_singleton.mp hp]; exact hq), p⟩ F N
theorem lay108 : True := by
  k_with "my drawn2" => (((with_reducible rename News _ _ _ _ => Nz); (repeat (with_reducible rename _ ∧ _ => hcj; obtain ⟨_, _⟩ := hcj)); refine draw_end2 hret (by assumption) (by k_asm) (by first | exact Nz | exact News.skip2 1 Nz | exact News.skip2 2 Nz | exact News.skip2 3 Nz | exact News.skip2 4 Nz | exact News.skip2 5 Nz | exact News.skip2 6 Nz | exact News.skip2 7 Nz | exact News.skip2 8 Nz | exact News.skip2 9 Nz | exact News.skip2 10 Nz | exact News.skip2 11 Nz | exact News.skip2 12 Nz | exact News.skip2 13 Nz | exact News.skip2 14 Nz | exact News.skip2 15 Nz) (by assumption) (by assumption) (by assumption) ?_))
  exact True.intro
theorem rests_in {d : Int} (h : d ∈ [0, 1, 65536 * 7 + 9, 4294967296 - 1, 1500]) : 0 ≤ d ∧ d < 4294967296 := (by decide : ∀ d ∈ ([0, 1, 65536 * 7 + 9, 4294967296 - 1, 1500] : List Int), 0 ≤ d ∧ d < 4294967296) d h
theorem message_draws {w : World} (src : Addr) : Draws w 30 499 [.ref src] src [] (fun r own => ∃ x dx q k c rr p tk tc tr tp, r = .ref x ∧ own = [(x, instObj 175 dx), (dx, dictOf (msgDict q (.int k tk) (.int c tc) (.int rr tr) (.bytes (byteArr p) tp)) 4)] ∧ dx < x ∧
    0 ≤ k ∧ k < 256 ∧ 0 ≤ c ∧ c < 256 ∧ 0 ≤ rr ∧ rr < 4294967296 ∧ p.length < 20 ∧ KBa.In p) := by
  intro a b ta tb rest ok hne _
  unfold Spec
  intro loose mean mg mb dp un gd cn cs a' ccd cl outer A₀ base h₀ L m s Q E B F X N T hk hd hu hret
  k_extra "my enter"
  k_steps
  k_extra "my drawn2"
  exact ⟨_, _, _, _, _, _, _, _, _, _, _, rfl, rfl, by assumption, by omega, by omega, by omega, by omega, (rests_in (by assumption)).1, (rests_in (by assumption)).2, by omega, by assumption⟩
section
variable {w : World} {src : Addr} {news : List (Addr × Obj)} {g : Obj → List (Addr × Obj)} {x y : Int} {tx ty : Tok}
  {loose : List Str} {mean : ExcName → Option Value} {mg mb : Str → Option Value}
  {dp un : Nat} {gd : Option (List Code)} {cn : Str} {cs : Scope} {a : Addr} {ccd : Value} {cl : List (Str × Addr)} {outer : List Env} {A₀ : Around} {base h₀ : Heap} {L : Addr} {m : Str → Option Value} {s : Shared} {Q E : Value → Shared → Prop}
theorem message_use (B : Below A₀ base outer h₀) (F : Fr h₀ L s.heap m) (X : (hd.heap_1 w.params).In h₀) (N : News h₀ L s.heap news) (T : Top topProg loose mean mg mb h₀) (hk : cs.kind = .function) (hd : dp + 30 < recursionLimit) (hu : un + 8 * 30 < cLine)
    (U : UpdF src (srcO x y tx ty) news g) (ok : SrcOk x y)
    (ret : ∀ x dx q k c rr p tk tc tr tp x' y' tx' ty' h' tk', SrcOk x' y' → @LT.lt Nat _ dx x → 0 ≤ k → k < 256 → 0 ≤ c → c < 256 → 0 ≤ rr → rr < 4294967296 → p.length < 20 → KBa.In p → (∀ q ∈ news, @LT.lt Nat _ q.1 dx) → Fr h₀ L h' m →
      News h₀ L h' ((x, instObj 175 dx) :: (dx, dictOf (msgDict q (.int k tk) (.int c tc) (.int rr tr) (.bytes (byteArr p) tp)) 4) :: g (srcO x' y' tx' ty')) → Q (.ref x) { s with heap := h', toks := tk' }) :
    wpAny (model Challenge.rw_nu0135_01.row.prog w) (ktrTop dp un gd cn cs L a ccd cl outer) (call (.ref 499) [.ref src]) Q E s :=
  draw_use (need := []) B F X N T hk hd hu U ok (fun _ h => nomatch h) (message_draws src) fun r x' y' tx' ty' own h' tk' ok' P' lt' F' N' => by
    obtain ⟨x, dx, q, k, c, rr, p, tk, tc, tr, tp, rfl, rfl, l2, b1, b2, b3, b4, b5, b6, b7, b8⟩ := P'
    exact ret x dx q k c rr p tk tc tr tp x' y' tx' ty' h' tk' ok' l2 b1 b2 b3 b4 b5 b6 b7 b8 (fun q hq => lt' (dx, _) (List.mem_cons_of_mem _ (List.mem_cons_self ..)) q hq) F' N'
end
theorem lay109 : True := by
  k_with "my call ref" => ((k_here; (with_reducible show wpAny _ _ (call (Value.ref 499) _) _ _ _); k_dflt (refine message_use (by k_asm) (by k_asm) (by k_asm) (by k_asm) (by k_asm) (by first | exact rfl | assumption) (by ktr_room) (by ktr_units) (by k_updF) (by first | with_reducible assumption | assumption) ?_); intro x' d' q' k' c' rr' pp' tk' tc' tr' tp' y1' y2' ty1' ty2' h' tk'' ok' l2' b1' b2' b3' b4' b5' b6' b7' b8' l8' F' N'; (try dsimp only at N'); (try dsimp only); (try k_sweep); (try k_fold)))
  exact True.intro
theorem offs_in {d : Int} (h : d ∈ [0, 0, 0, 8, 65528]) : 0 ≤ d ∧ d < 65536 ∧ d % 8 = 0 := (by decide : ∀ d ∈ ([0, 0, 0, 8, 65528] : List Int), 0 ≤ d ∧ d < 65536 ∧ d % 8 = 0) d h
theorem opts_in {o : List Int} (h : o ∈ [[], [], [1, 1, 1, 0], [148, 4, 0, 0, 1, 1, 1, 0]]) : o.length % 4 = 0 ∧ o.length ≤ 8 ∧ KBa.In o := by
  simp only [List.mem_cons, List.not_mem_nil, or_false] at h
  rcases h with rfl | rfl | rfl | rfl
  · exact ⟨rfl, by decide, in_nil⟩
  · exact ⟨rfl, by decide, in_nil⟩
  · exact ⟨rfl, by decide, in_cons (by decide) (by decide) (in_cons (by decide) (by decide) (in_cons (by decide) (by decide) (in_cons (by decide) (by decide) in_nil)))⟩
  · refine ⟨rfl, by decide, ?_⟩
    repeat (refine in_cons (by decide) (by decide) ?_)
    exact in_nil
theorem toss_in {d : Int} (h : d ∈ [0, 16]) : 0 ≤ d ∧ d < 256 := (by decide : ∀ d ∈ ([0, 16] : List Int), 0 ≤ d ∧ d < 256) d h
theorem header_draws {w : World} (src : Addr) (pr : Int) (tp : Tok) (h0 : 0 ≤ pr) (h1 : pr < 256) : Draws w 30 485 [.ref src, .int pr tp] src [] (fun r own => ∃ x dx q v u, r = .ref x ∧ own = [(x, instObj 274 dx), (dx, dictOf (hdrOf q v u) 10)] ∧ dx < x ∧ HdrOk v ∧ v.pro = pr) := by
  intro a b ta tb rest ok hne _
  unfold Spec
  intro loose mean mg mb dp un gd cn cs a' ccd cl outer A₀ base h₀ L m s Q E B F X N T hk hd hu hret
  k_extra "my enter"
  k_steps
  obtain ⟨p1, p2, p3⟩ := offs_in (by assumption)
  obtain ⟨p4, p5, p6⟩ := opts_in (by assumption)
  obtain ⟨p7, p8⟩ := toss_in (by assumption)
  k_extra "my drawn2"
  exact ⟨_, _, _, ⟨_, _, _, _, _, _, _, _, _, _⟩, ⟨_, _, _, _, _, _, _, _⟩, rfl, rfl, by assumption, by constructor <;> dsimp only <;> first | assumption | omega, rfl⟩
section
variable {w : World} {src : Addr} {news : List (Addr × Obj)} {g : Obj → List (Addr × Obj)} {x y : Int} {tx ty : Tok}
  {loose : List Str} {mean : ExcName → Option Value} {mg mb : Str → Option Value}
  {dp un : Nat} {gd : Option (List Code)} {cn : Str} {cs : Scope} {a : Addr} {ccd : Value} {cl : List (Str × Addr)} {outer : List Env} {A₀ : Around} {base h₀ : Heap} {L : Addr} {m : Str → Option Value} {s : Shared} {Q E : Value → Shared → Prop}
theorem header_use {pr : Int} {tp : Tok} (B : Below A₀ base outer h₀) (F : Fr h₀ L s.heap m) (X : (hd.heap_1 w.params).In h₀) (N : News h₀ L s.heap news) (T : Top topProg loose mean mg mb h₀) (hk : cs.kind = .function) (hd : dp + 30 < recursionLimit) (hu : un + 8 * 30 < cLine)
    (U : UpdF src (srcO x y tx ty) news g) (ok : SrcOk x y) (h0 : 0 ≤ pr) (h1 : pr < 256)
    (ret : ∀ x dx q v u x' y' tx' ty' h' tk', SrcOk x' y' → @LT.lt Nat _ dx x → HdrOk v → v.pro = pr → (∀ q ∈ news, @LT.lt Nat _ q.1 dx) → Fr h₀ L h' m →
      News h₀ L h' ((x, instObj 274 dx) :: (dx, dictOf (hdrOf q v u) 10) :: g (srcO x' y' tx' ty')) → Q (.ref x) { s with heap := h', toks := tk' }) :
    wpAny (model Challenge.rw_nu0135_01.row.prog w) (ktrTop dp un gd cn cs L a ccd cl outer) (call (.ref 485) [.ref src, .int pr tp]) Q E s :=
  draw_use (need := []) B F X N T hk hd hu U ok (fun _ h => nomatch h) (header_draws src pr tp h0 h1) fun r x' y' tx' ty' own h' tk' ok' P' lt' F' N' => by
    obtain ⟨x, dx, q, v, u, rfl, rfl, l2, okh, e⟩ := P'
    exact ret x dx q v u x' y' tx' ty' h' tk' ok' l2 okh e (fun q hq => lt' (dx, _) (List.mem_cons_of_mem _ (List.mem_cons_self ..)) q hq) F' N'
end
theorem lay110 : True := by
  k_with "my call ref" => ((k_here; (with_reducible show wpAny _ _ (call (Value.ref 485) _) _ _ _); k_dflt (refine header_use (by k_asm) (by k_asm) (by k_asm) (by k_asm) (by k_asm) (by first | exact rfl | assumption) (by ktr_room) (by ktr_units) (by k_updF) (by first | with_reducible assumption | assumption) (by omega) (by omega) ?_); intro x' d' q' v' u' y1' y2' ty1' ty2' h' tk'' ok' l2' ok2' e3' l8' F' N'; (try dsimp only at N'); (try dsimp only); (try k_sweep); (try k_fold)))
  exact True.intro

-- P14: ip_header.py: packing
theorem is_within_spec {w : World} {news : List (Addr × Obj)} (n k : Int) (t u : Tok) (hk0 : k = 32 ∨ k = 16 ∨ k = 13 ∨ k = 8) (h0 : 0 ≤ n) (h1 : n < 2 ^ k.toNat) :
    Spec w 12 285 [.int n t, .int k u] news (Pure news fun _ => .bool true) := by
  unfold Spec
  intro loose mean mg mb dp un gd cn cs a' ccd cl outer A₀ base h₀ L m s Q E B F X N T hk hd hu hret
  k_extra "my enter"
  k_steps
  all_goals exact hret _ _ _ _ ⟨rfl, 0, congrArg Value.bool (decide_eq_true h1)⟩ (by k_asm) (cb_drop (by k_asm) (by intro p hp; k_ownIn))
section
variable {w : World} {news : List (Addr × Obj)} {x d : Addr} {q : HD} {v : HF} {u : HT} {p : List Int} {t : Tok}
theorem size_spec (hx : (x, instObj 274 d) ∈ news) (hd' : (d, dictOf (hdrOf q v u) 10) ∈ news) (ok : HdrOk v) : Spec w 12 243 [.ref x] news (Pure news fun t => .int (20 + v.opt.length) t) := by
  have l8 := ok.l8
  unfold Spec
  intro loose mean mg mb dp un gd cn cs a' ccd cl outer A₀ base h₀ L m s Q E B F X N T hk hd hu hret
  k_extra "my enter"
  k_steps
  all_goals exact hret _ _ _ _ ⟨rfl, _, rfl⟩ (by k_asm) (cb_drop (by k_asm) (by intro p hp; k_ownIn))
def flagsOf (v : HF) : Int := v.off / 8 + (if v.dont then 16384 else 0) + (if v.more then 8192 else 0)
theorem fl11 (h : v.dont = true) (h' : v.more = true) : v.off / 8 + 16384 + 8192 = flagsOf v := by unfold flagsOf; rw [h, h']; rfl
theorem fl10 (h : v.dont = true) (h' : v.more = false) : v.off / 8 + 16384 = flagsOf v := by unfold flagsOf; rw [h, h']; exact (Int.add_zero _).symm
theorem fl01 (h : v.dont = false) (h' : v.more = true) : v.off / 8 + 8192 = flagsOf v := by unfold flagsOf; rw [h, h']; show _ = v.off / 8 + 0 + 8192; omega
theorem fl00 (h : v.dont = false) (h' : v.more = false) : v.off / 8 = flagsOf v := by unfold flagsOf; rw [h, h']; show _ = v.off / 8 + 0 + 0; omega
theorem flags_in (ok : HdrOk v) : 0 ≤ flagsOf v ∧ flagsOf v < 32768 := by
  have := ok.f0; have := ok.f1
  unfold flagsOf
  cases v.dont <;> cases v.more <;> simp only [if_true, if_false, Bool.false_eq_true] <;> omega
theorem flags_spec (hx : (x, instObj 274 d) ∈ news) (hd' : (d, dictOf (hdrOf q v u) 10) ∈ news) (ok : HdrOk v) : Spec w 12 306 [.ref x] news (Pure news fun t => .int (flagsOf v) t) := by
  unfold Spec
  intro loose mean mg mb dp un gd cn cs a' ccd cl outer A₀ base h₀ L m s Q E B F X N T hk hd hu hret
  k_extra "my enter"
  k_steps
  all_goals exact hret _ _ _ _ ⟨rfl, int_ret (by first | exact fl11 (by k_extra "my b_fact") (by k_extra "my b_fact") | exact fl10 (by k_extra "my b_fact") (by k_extra "my b_fact") | exact fl01 (by k_extra "my b_fact") (by k_extra "my b_fact") | exact fl00 (by k_extra "my b_fact") (by k_extra "my b_fact"))⟩ (by k_asm) (cb_drop (by k_asm) (by intro p hp; k_ownIn))
theorem lay118 : True := by
  k_with "my call ref" => (k_here; (with_reducible show wpAny _ _ (call (Value.ref 285) _) _ _ _); k_dflt (refine pure_use (by k_asm) (by k_asm) (by k_asm) (by k_asm) (by k_asm) (by first | exact rfl | assumption) (by ktr_room) (by ktr_units) (is_within_spec _ _ _ _ (by decide) (by first | with_reducible assumption | decide | omega) (by (simp only [Int.reduceToNat, Int.reducePow]; omega))) ?_); intro t' h' tk' F' N'; (try dsimp only); (try k_sweep); (try k_fold))
  k_with "my call ref" => (k_here; (with_reducible show wpAny _ _ (call (Value.ref 243) _) _ _ _); k_dflt (refine pure_use (by k_asm) (by k_asm) (by k_asm) (by k_asm) (by k_asm) (by first | exact rfl | assumption) (by ktr_room) (by ktr_units) (size_spec (by k_mem) (by k_mem) (by first | with_reducible assumption | assumption)) ?_); intro t' h' tk' F' N'; (try dsimp only); (try k_sweep); (try k_fold))
  k_with "my call ref" => (k_here; (with_reducible show wpAny _ _ (call (Value.ref 306) _) _ _ _); k_dflt (refine pure_use (by k_asm) (by k_asm) (by k_asm) (by k_asm) (by k_asm) (by first | exact rfl | assumption) (by ktr_room) (by ktr_units) (flags_spec (by k_mem) (by k_mem) (by first | with_reducible assumption | assumption)) ?_); intro t' h' tk' F' N'; (try dsimp only); (try k_sweep); (try k_fold))
  exact True.intro
theorem unrW_end {h₀ : Heap} {L I : Addr} {o : Obj} {nx : List (Addr × Obj)} {rest : (Str → Option Value) → List (Addr × Obj) → Prop} {s₁ : Shared} {h' : Heap} {tk : Nat} {m' : Str → Option Value} (F : Fr h₀ L h' m') (N : News h₀ L h' ((I, o) :: nx)) (hI : ∀ p ∈ nx, p.1 < I) (r : rest m' nx) :
    UnrEndW h₀ L s₁ [(I, o)] rest { s₁ with heap := h', toks := tk } :=
  ⟨h', tk, m', nx, rfl, F, N, fun p hp q hq e => by
    rw [List.mem_singleton.mp hq] at e
    exact absurd (hI p hp) (by rw [e]; exact Nat.lt_irrefl _), r⟩
theorem lay116 : True := by
  k_with "my pyIter ref" => ((k_here; (with_reducible show wpAny _ _ (pyIter (Value.ref _)) (fun it s₂ => TurnsAt _ _ _ _ _ _ _ _ _ it s₂) _ _); (with_reducible rename Fr _ _ _ _ => Fz); (with_reducible rename News _ _ _ _ => Nz); (with_unfolding_all refine' iter_tupTurns (lo := ?zzqlo) ?zzqh ?zzqF ?zzqN ?zzqm ?zzqc ?zzqd ?_; (case zzqF => exact Fz); (case zzqN => exact Nz); (case zzqm => k_mem); (case zzqh => with_unfolding_all rfl); (case zzqc => rfl); (case zzqd => exact rfl); k_whole); clear Fz Nz; intro i' l1; have l1c := l1; (try k_lt l1)))
  k_with "my UnrEndW" => (((with_reducible rename Fr _ _ _ _ => Fz); (with_reducible rename News _ _ _ _ => Nz); refine unrW_end Fz Nz (by assumption) ⟨by k_subL, ?_⟩))
  exact True.intro
theorem check_fields_spec (hx : (x, instObj 274 d) ∈ news) (hd' : (d, dictOf (hdrOf q v u) 10) ∈ news) (ok : HdrOk v) : Spec w 20 292 [.ref x] news (Pure news fun _ => .none) := by
  have ok' := ok
  obtain ⟨s0, s1, g0, g1, p0, p1, i0, i1, t0, t1, o0, o1, f0, f1, f8, l4, l8, oi⟩ := ok'
  unfold Spec
  intro loose mean mg mb dp un gd cn cs a' ccd cl outer A₀ base h₀ L m s Q E B F X N T hk hd hu hret
  k_extra "my enter"
  k_steps
  (with_reducible rename Fr _ _ _ _ => Fz); (with_reducible rename News _ _ _ _ => Nz)
  with_unfolding_all refine' iter_tupTurns (lo := ?qlo) ?qh ?qF ?qN ?qm ?qc ?qd ?_
  case qF => exact Fz
  case qN => exact Nz
  case qm => k_mem
  case qh => with_unfolding_all rfl
  case qc => rfl
  case qd => exact rfl
  k_whole
  clear Fz Nz; intro i' l1; have l1c := l1; (try k_lt l1)
  k_steps
  all_goals first
    | (exfalso; omega)
    | exact hret _ _ _ _ ⟨rfl, 0, rfl⟩ (by k_asm) (cb_drop (by k_asm) (by intro p hp; k_ownIn))
theorem check_size_spec (hx : (x, instObj 274 d) ∈ news) (hd' : (d, dictOf (hdrOf q v u) 10) ∈ news) (ok : HdrOk v) (hp : KBa.In p) (hl : p.length < 3000) : Spec w 20 299 [.ref x, .bytes (byteArr p) t] news (Pure news fun _ => .none) := by
  have ok' := ok
  obtain ⟨s0, s1, g0, g1, p0, p1, i0, i1, t0, t1, o0, o1, f0, f1, f8, l4, l8, oi⟩ := ok'
  have l4' : (v.opt.length : Int) % 4 = 0 := by omega
  unfold Spec
  intro loose mean mg mb dp un gd cn cs a' ccd cl outer A₀ base h₀ L m s Q E B F X N T hk hd hu hret
  k_extra "my enter"
  k_steps
  all_goals first
    | (exfalso; omega)
    | exact hret _ _ _ _ ⟨rfl, 0, rfl⟩ (by k_asm) (cb_drop (by k_asm) (by intro p hp; k_ownIn))
theorem lay121 : True := by
  k_with "my call ref" => (k_here; (with_reducible show wpAny _ _ (call (Value.ref 292) _) _ _ _); k_dflt (refine pure_use (by k_asm) (by k_asm) (by k_asm) (by k_asm) (by k_asm) (by first | exact rfl | assumption) (by ktr_room) (by ktr_units) (check_fields_spec (by k_mem) (by k_mem) (by first | with_reducible assumption | assumption)) ?_); intro t' h' tk' F' N'; (try dsimp only); (try k_sweep); (try k_fold))
  k_with "my call ref" => (k_here; (with_reducible show wpAny _ _ (call (Value.ref 299) _) _ _ _); k_dflt (refine pure_use (by k_asm) (by k_asm) (by k_asm) (by k_asm) (by k_asm) (by first | exact rfl | assumption) (by ktr_room) (by ktr_units) (check_size_spec (by k_mem) (by k_mem) (by first | with_reducible assumption | assumption) (by k_extra "my b_in") (by first | with_reducible assumption | decide | k_extra "my b_siz")) ?_); intro t' h' tk' F' N'; (try dsimp only); (try k_sweep); (try k_fold))
  exact True.intro
def hFirst (v : HF) (n : Int) : List Int := [64 + (20 + (v.opt.length : Int)) / 4, v.tos] ++ (w16 n ++ w16 v.idn ++ w16 (flagsOf v)) ++ [v.ttl, v.pro]
def hBehind (v : HF) : List Int := w32 v.src ++ w32 v.tgt ++ v.opt
def hOct (v : HF) (n : Int) : List Int := hFirst v n ++ w16 (65535 - cfold (wsum (hFirst v n ++ w16 0 ++ hBehind v))) ++ hBehind v
theorem pack_ip_spec (hx : (x, instObj 274 d) ∈ news) (hd' : (d, dictOf (hdrOf q v u) 10) ∈ news) (ok : HdrOk v) (hp : KBa.In p) (hl : p.length < 3000) : Spec w 24 313 [.ref x, .bytes (byteArr p) t] news (Pure news fun t => .bytes (byteArr (hOct v (20 + v.opt.length + p.length) ++ p)) t) := by
  have ok' := ok
  obtain ⟨s0, s1, g0, g1, p0, p1, i0, i1, t0, t1, o0, o1, f0, f1, f8, l4, l8, oi⟩ := ok'
  have fl := flags_in ok
  unfold Spec
  intro loose mean mg mb dp un gd cn cs a' ccd cl outer A₀ base h₀ L m s Q E B F X N T hk hd hu hret
  k_extra "my enter"
  k_steps
  all_goals exact hret _ _ _ _ ⟨rfl, bytes_ret (by simp only [hOct, hFirst, hBehind, List.append_assoc, List.cons_append, List.nil_append, Int.reduceMul])⟩ (by k_asm) (cb_drop (by k_asm) (by intro p hp; k_ownIn))
end
theorem lay123 : True := by
  k_with "my call ref" => (k_here; (with_reducible show wpAny _ _ (call (Value.ref 313) _) _ _ _); k_dflt (refine pure_use (by k_asm) (by k_asm) (by k_asm) (by k_asm) (by k_asm) (by first | exact rfl | assumption) (by ktr_room) (by ktr_units) (pack_ip_spec (by k_mem) (by k_mem) (by first | with_reducible assumption | assumption) (by k_extra "my b_in") (by first | with_reducible assumption | decide | k_extra "my b_siz")) ?_); intro t' h' tk' F' N'; (try dsimp only); (try k_sweep); (try k_fold))
  exact True.intro

-- P15: ip_header.py: unpacking
theorem head_size_spec {w : World} {news : List (Addr × Obj)} (o : List Int) (t : Tok) (hl : o.length ≤ 2000) (hi : KBa.In o) (h20 : 20 ≤ o.length) (h4 : o.getD 0 0 / 16 = 4) (h5 : 20 ≤ o.getD 0 0 % 16 * 4) (h6 : o.getD 0 0 % 16 * 4 ≤ o.length) :
    Spec w 14 320 [.bytes (byteArr o) t] news (Pure news fun t => .int (o.getD 0 0 % 16 * 4) t) := by
  unfold Spec
  intro loose mean mg mb dp un gd cn cs a' ccd cl outer A₀ base h₀ L m s Q E B F X N T hk hd hu hret
  have h4' : o.getD (Int.toNat 0) 0 / 16 = 4 := h4
  have h5' : 20 ≤ o.getD (Int.toNat 0) 0 % 16 * 4 := h5
  have h6' : o.getD (Int.toNat 0) 0 % 16 * 4 ≤ o.length := h6
  k_extra "my enter"
  k_steps
  all_goals first
    | (exfalso; omega)
    | exact hret _ _ _ _ ⟨rfl, _, rfl⟩ (by k_asm) (cb_drop (by k_asm) (by intro p hp; k_ownIn))
theorem lay124 : True := by
  k_with "my call ref" => (k_here; (with_reducible show wpAny _ _ (call (Value.ref 320) _) _ _ _); k_dflt (refine pure_use (by k_asm) (by k_asm) (by k_asm) (by k_asm) (by k_asm) (by first | exact rfl | assumption) (by ktr_room) (by ktr_units) (head_size_spec _ _ (by first | assumption | k_extra "my b_siz") (by first | assumption | k_extra "my b_in") (by first | assumption | k_extra "my b_siz") (by first | with_reducible assumption | assumption) (by first | with_reducible assumption | assumption) (by first | with_reducible assumption | assumption)) ?_); intro t' h' tk' F' N'; (try dsimp only); (try k_sweep); (try k_fold))
  exact True.intro
def hdrFrom (o : List Int) (sz : Int) : HF := ⟨g32 o 12, g32 o 16, o.getD 9 0, g16 o 4, o.getD 8 0, o.getD 1 0, g16 o 6 / 16384 % 2 * 16384 != 0, g16 o 6 / 8192 % 2 * 8192 != 0, g16 o 6 % 8192 * 8, (o.take sz.toNat).drop 20⟩
abbrev tupO (vs : Array Value) : Obj := { cls := .type "tuple", data := .seq vs }
theorem unpack_ip_spec {w : World} {news : List (Addr × Obj)} (o : List Int) (t : Tok) (hl : o.length ≤ 2000) (hi : KBa.In o) (h20 : 20 ≤ o.length) (h4 : o.getD 0 0 / 16 = 4) (h5 : 20 ≤ o.getD 0 0 % 16 * 4) (h6 : o.getD 0 0 % 16 * 4 ≤ o.length)
    (g1 : o.getD 0 0 % 16 * 4 ≤ g16 o 2) (g2 : g16 o 2 ≤ o.length) (hs : cfold (wsum (o.take (o.getD 0 0 % 16 * 4).toNat)) = 65535) :
    Spec w 20 327 [.bytes (byteArr o) t] news (fun r n' => ∃ D x d q u tb, r = .ref D ∧ n' = (D, tupO #[.ref x, .bytes (byteArr ((o.take (g16 o 2).toNat).drop (o.getD 0 0 % 16 * 4).toNat)) tb]) :: (x, instObj 274 d) :: (d, dictOf (hdrOf q (hdrFrom o (o.getD 0 0 % 16 * 4)) u) 10) :: news ∧
      (∀ p ∈ news, p.1 < d) ∧ d < x ∧ x < D) := by
  have g1' : o.getD 0 0 % 16 * 4 ≤ g16 o (Int.toNat 2) := g1
  have g2' : g16 o (Int.toNat 2) ≤ o.length := g2
  have hs' : 65535 - cfold (wsum (o.take (o.getD 0 0 % 16 * 4).toNat)) = 0 := by omega
  unfold Spec
  intro loose mean mg mb dp un gd cn cs a' ccd cl outer A₀ base h₀ L m s Q E B F X N T hk hd hu hret
  k_extra "my enter"
  k_steps
  all_goals first
    | (exfalso; omega)
    | (refine' hret _ _ _ _ ⟨_, _, _, _, ⟨_, _, _, _, _, _, _, _⟩, _, rfl, rfl, ?l1, ?l2, ?l3⟩ ?ff ?nn
       case nn => k_asm
       case ff => k_asm
       case l1 => assumption
       case l2 => assumption
       case l3 => assumption)
theorem lay125 : True := by
  k_with "my call ref" => (k_here; (with_reducible show wpAny _ _ (call (Value.ref 327) _) _ _ _); k_dflt (refine spec_use (by k_asm) (by k_asm) (by k_asm) (by k_asm) (by k_asm) (by first | exact rfl | assumption) (by ktr_room) (by ktr_units) (unpack_ip_spec _ _ (by first | assumption | k_extra "my b_siz") (by first | assumption | k_extra "my b_in") (by first | assumption | k_extra "my b_siz") (by first | with_reducible assumption | assumption) (by first | with_reducible assumption | assumption) (by first | with_reducible assumption | assumption) (by first | with_reducible assumption | assumption) (by first | with_reducible assumption | assumption) (by first | with_reducible assumption | assumption)) ?_); intro r' n' h' tk' R' F' N'; (obtain ⟨D', x', d', q', u', t', e1', e2', l1', l2', l3'⟩ := R'; subst e1'; subst e2'; (have l4' := lt_all l1' l2'); (try k_lt l4'); (replace l1' := l1'); (replace l2' := l2'); (try k_lt l1'); (try k_lt2 l2'); (try k_lt2 l3')); (try dsimp only); (try k_sweep); (try k_fold))
  exact True.intro

-- P16: icmp_rules.py: answers
theorem hOct_len (v : HF) (n : Int) : (hOct v n).length = 20 + v.opt.length := by
  unfold hOct hFirst hBehind
  simp only [List.length_append, List.length_cons, List.length_nil, w16_len, w32_len]
  omega
theorem hFirst_in {v : HF} (ok : HdrOk v) (n : Int) : KBa.In (hFirst v n) := by
  obtain ⟨s0, s1, g0, g1, p0, p1, i0, i1, t0, t1, o0, o1, f0, f1, f8, l4, l8, oi⟩ := ok
  exact in_app (in_app (in_cons (by omega) (by omega) (in_cons o0 o1 in_nil)) (in_app (in_app (w16_in _) (w16_in _)) (w16_in _))) (in_cons t0 t1 (in_cons p0 p1 in_nil))
theorem hBehind_in {v : HF} (ok : HdrOk v) : KBa.In (hBehind v) := in_app (in_app (w32_in _) (w32_in _)) ok.oi
theorem hOct_in {v : HF} (ok : HdrOk v) (n : Int) : KBa.In (hOct v n) := in_app (in_app (hFirst_in ok n) (w16_in _)) (hBehind_in ok)
theorem lay126 : True := by
  k_with "my b_in" => (first | with_reducible assumption | ((with_reducible show KBa.In (hOct _ _)); (with_reducible refine hOct_in ?_ _; assumption)))
  k_with "my b_len" => (((simp only [hOct_len, msgOct_len, w16_len, w32_len, List.length_append, List.length_cons, List.length_nil, List.length_take, List.length_drop, List.length_replicate, List.length_map]); omega))
  exact True.intro
section
variable {w : World} {news : List (Addr × Obj)} {x d hx' hd : Addr} {q : MD} {qh : HD} {v : HF} {u : HT} {k c r : Int} {p : List Int} {tk tc tr tp t t2 : Tok} {b : Bool}
/-- what answer_to gives -/
def answers (v : HF) (k : Int) (b : Bool) : Bool := decide (k = 8) && !b && !isGroup v.tgt && oneHost v.src
theorem ans_yes (h1 : k = 8) (h2 : b = false) (h3 : ¬ 3758096384 ≤ v.tgt) (h4 : oneHost v.src = true) : answers v k b = true := by
  unfold answers
  rw [h1, h2, show isGroup v.tgt = false from decide_eq_false h3, h4]; rfl
theorem answer_none (hx : (x, instObj 175 d) ∈ news) (hdm : (d, dictOf (msgDict q (.int k tk) (.int c tc) (.int r tr) (.bytes (byteArr p) tp)) 4) ∈ news)
    (hh : (hx', instObj 274 hd) ∈ news) (hhd : (hd, dictOf (hdrOf qh v u) 10) ∈ news) (hno : answers v k b = false) :
    Spec w 30 384 [.ref hx', .ref x, .bool b] news (Pure news fun _ => .none) := by
  unfold Spec
  intro loose mean mg mb dp un gd cn cs a' ccd cl outer A₀ base h₀ L m s Q E B F X N T hk hd hu hret
  k_extra "my enter"
  k_steps
  all_goals first
    | exact hret _ _ _ _ ⟨rfl, 0, rfl⟩ (by k_asm) (cb_drop (by k_asm) (by intro p hp; k_ownIn))
    | exact absurd (ans_yes (by assumption) (by k_extra "my b_fact") (by assumption) (by k_extra "my b_fact")) (by rw [hno]; exact Bool.false_ne_true)
theorem answer_some (hx : (x, instObj 175 d) ∈ news) (hdm : (d, dictOf (msgDict q (.int k tk) (.int c tc) (.int r tr) (.bytes (byteArr p) tp)) 4) ∈ news)
    (hh : (hx', instObj 274 hd) ∈ news) (hhd : (hd, dictOf (hdrOf qh v u) 10) ∈ news) (hyes : answers v k b = true) :
    Spec w 30 384 [.ref hx', .ref x, .bool b] news (RetMsg news (fun t => .int 0 t) (fun t => .int 0 t) (fun _ => .int r tr) (fun _ => .bytes (byteArr p) tp)) := by
  unfold answers at hyes
  simp only [Bool.and_eq_true, decide_eq_true_eq, Bool.not_eq_true'] at hyes
  obtain ⟨⟨⟨k8, hb⟩, hg⟩, ho⟩ := hyes
  have hg' : ¬ 3758096384 ≤ v.tgt := of_decide_eq_false hg
  unfold Spec
  intro loose mean mg mb dp un gd cn cs a' ccd cl outer A₀ base h₀ L m s Q E B F X N T hk hd hu hret
  k_extra "my enter"
  k_steps
  all_goals first
    | exact absurd k8 (by assumption)
    | exact hret _ _ _ _ ⟨_, _, 0, 0, newMsg_keep (by assumption) (by assumption) rfl⟩ (by k_asm) (cb_drop (by k_asm) (by intro p hp; k_ownIn))
theorem error_message_spec (kk cc rr : Int) (ta tb td : Tok) (hk8 : isErr kk = true) (hh : (hx', instObj 274 hd) ∈ news) (hhd : (hd, dictOf (hdrOf qh v u) 10) ∈ news) (ok : HdrOk v) (hp : KBa.In p) (hl : p.length < 1000) :
    Spec w 36 363 [.int kk ta, .int cc tb, .ref hx', .bytes (byteArr p) t, .int rr td] news (RetMsg news (fun _ => .int kk ta) (fun _ => .int cc tb) (fun _ => .int rr td) (fun t => .bytes (byteArr ((hOct v (20 + v.opt.length + p.length) ++ p).take (20 + (v.opt.length : Int) + 8).toNat)) t)) := by
  have l8 := ok.l8
  unfold Spec
  intro loose mean mg mb dp un gd cn cs a' ccd cl outer A₀ base h₀ L m s Q E B F X N T hk hd hu hret
  k_extra "my enter"
  k_steps
  all_goals exact hret _ _ _ _ ⟨0, 0, 0, _, newMsg_keep (by assumption) (by assumption) rfl⟩ (by k_asm) (cb_drop (by k_asm) (by intro p hp; k_ownIn))
theorem error_message_bad (kk cc : Int) (ta tb : Tok) (hk8 : isErr kk = false) : SpecR w 36 363 [.int kk ta, .int cc tb, .ref hx', .bytes (byteArr p) t] news := by
  unfold SpecR
  intro loose mean mg mb dp un gd cn cs a' ccd cl outer A₀ base h₀ L m s Q E B F X N T hk hd hu hret
  k_extra "my enter"
  k_steps
  all_goals (refine hret _ _ _ _ ?_ (raisedM_drop (by assumption) (by intro p hp; k_ownIn)) ?_ <;> assumption)
end
theorem lay128 : True := by
  k_with "my call ref" => (k_here; (with_reducible show wpAny _ _ (call (Value.ref 384) _) _ _ _); k_dflt (refine pure_use (by k_asm) (by k_asm) (by k_asm) (by k_asm) (by k_asm) (by first | exact rfl | assumption) (by ktr_room) (by ktr_units) (answer_none (by k_mem) (by k_mem) (by k_mem) (by k_mem) (by first | with_reducible assumption | assumption)) ?_); intro t' h' tk' F' N'; (try dsimp only); (try k_sweep); (try k_fold))
  k_with "my call ref" => (k_here; (with_reducible show wpAny _ _ (call (Value.ref 384) _) _ _ _); k_dflt (refine msg_use (by k_asm) (by k_asm) (by k_asm) (by k_asm) (by k_asm) (by first | exact rfl | assumption) (by ktr_room) (by ktr_units) (answer_some (by k_mem) (by k_mem) (by k_mem) (by k_mem) (by first | with_reducible assumption | assumption)) ?_); intro x' d' q' ta' tb' tc' td' h' tk' F' N' l4' l1' l2'; (try k_lt l4'); (try k_lt l1'); (try k_lt2 l2'); (try dsimp only); (try k_sweep); (try k_fold))
  k_with "my call ref" => (k_here; (with_reducible show wpAny _ _ (call (Value.ref 363) _) _ _ _); k_dflt (refine specR_use (by k_asm) (by k_asm) (by k_asm) (by k_asm) (by k_asm) (by first | exact rfl | assumption) (by ktr_room) (by ktr_units) (error_message_bad _ _ _ _ (by first | with_reducible assumption | assumption)) ?_); intro e' h' tk' g' F' R' U'; (try dsimp only); (try k_fold))
  k_with "my call ref" => (k_here; (with_reducible show wpAny _ _ (call (Value.ref 363) _) _ _ _); k_dflt (refine msg_use (by k_asm) (by k_asm) (by k_asm) (by k_asm) (by k_asm) (by first | exact rfl | assumption) (by ktr_room) (by ktr_units) (error_message_spec _ _ _ _ _ _ (by first | with_reducible assumption | assumption) (by k_mem) (by k_mem) (by first | with_reducible assumption | assumption) (by k_extra "my b_in") (by first | with_reducible assumption | decide | k_extra "my b_siz")) ?_); intro x' d' q' ta' tb' tc' td' h' tk' F' N' l4' l1' l2'; (try k_lt l4'); (try k_lt l1'); (try k_lt2 l2'); (try dsimp only); (try k_sweep); (try k_fold))
  exact True.intro
section
variable {w : World} {news : List (Addr × Obj)} {x d : Addr} {q : MD} {v : HF} {k c r : Int} {o : List Int} {tk tc tr tp t t2 : Tok}
theorem about_bad_kind (hx : (x, instObj 175 d) ∈ news) (hdm : (d, dictOf (msgDict q (.int k tk) (.int c tc) (.int r tr) (.bytes (byteArr o) tp)) 4) ∈ news) (hk8 : isErr k = false) : SpecR w 40 370 [.ref x] news := by
  unfold SpecR
  intro loose mean mg mb dp un gd cn cs a' ccd cl outer A₀ base h₀ L m s Q E B F X N T hk hd hu hret
  k_extra "my enter"
  k_steps
  all_goals (refine hret _ _ _ _ ?_ (raisedM_drop (by assumption) (by intro p hp; k_ownIn)) ?_ <;> assumption)
theorem about_short (hx : (x, instObj 175 d) ∈ news) (hdm : (d, dictOf (msgDict q (.int k tk) (.int c tc) (.int r tr) (.bytes (byteArr o) tp)) 4) ∈ news) (hk8 : isErr k = true) (hl : o.length < 20) : SpecR w 40 370 [.ref x] news := by
  unfold SpecR
  intro loose mean mg mb dp un gd cn cs a' ccd cl outer A₀ base h₀ L m s Q E B F X N T hk hd hu hret
  k_extra "my enter"
  k_steps
  all_goals (refine hret _ _ _ _ ?_ (raisedM_drop (by assumption) (by intro p hp; k_ownIn)) ?_ <;> assumption)
abbrev padded (o : List Int) : List Int := o ++ List.replicate (if g16 o (Int.toNat 2) - (o.length : Int) > 0 then g16 o (Int.toNat 2) - (o.length : Int) else 0).toNat 0
abbrev szOf (o : List Int) : Int := o.getD 0 0 % 16 * 4
abbrev restOf (o : List Int) (s : Int) : List Int := (((padded o).take (g16 (padded o) 2).toNat).drop (szOf (padded o)).toNat).take (if (o.length : Int) - s > 0 then (o.length : Int) - s else 0).toNat
theorem News.cut2 {h₀ h : Heap} {L : Addr} {p q : Addr × Obj} {news : List (Addr × Obj)} (N : News h₀ L h (p :: q :: news)) : News h₀ L h (p :: news) := fun z hz => N z (by
  rcases List.mem_cons.mp hz with rfl | hz
  · exact List.mem_cons_self ..
  · exact List.mem_cons_of_mem _ (List.mem_cons_of_mem _ hz))
theorem about_spec (hx : (x, instObj 175 d) ∈ news) (hdm : (d, dictOf (msgDict q (.int k tk) (.int c tc) (.int r tr) (.bytes (byteArr o) tp)) 4) ∈ news) (hk8 : isErr k = true) (hi : KBa.In o) (h20 : 20 ≤ o.length) (hl : o.length ≤ 1000) (hl2 : g16 o 2 ≤ 1500)
    (a1 : (padded o).length ≤ 2000) (a2 : KBa.In (padded o)) (a3 : 20 ≤ (padded o).length) (a4 : (padded o).getD 0 0 / 16 = 4) (a5 : 20 ≤ (padded o).getD 0 0 % 16 * 4) (a6 : (padded o).getD 0 0 % 16 * 4 ≤ (padded o).length)
    (a7 : (padded o).getD 0 0 % 16 * 4 ≤ g16 (padded o) 2) (a8 : g16 (padded o) 2 ≤ (padded o).length) (a9 : cfold (wsum ((padded o).take ((padded o).getD 0 0 % 16 * 4).toNat)) = 65535) (ok : HdrOk (hdrFrom (padded o) ((padded o).getD 0 0 % 16 * 4))) :
    Spec w 44 370 [.ref x] news (fun r n' => ∃ D x d q u tb, r = .ref D ∧ n' = (D, tupO #[.ref x, .bytes (byteArr (restOf o (20 + ((hdrFrom (padded o) (szOf (padded o))).opt.length : Int)))) tb]) :: (x, instObj 274 d) :: (d, dictOf (hdrOf q (hdrFrom (padded o) (szOf (padded o))) u) 10) :: news ∧
      (∀ p ∈ news, p.1 < d) ∧ d < x ∧ x < D) := by
  unfold Spec
  intro loose mean mg mb dp un gd cn cs a' ccd cl outer A₀ base h₀ L m s Q E B F X N T hk hd hu hret
  have gi := g16_in hi (Int.toNat 2)
  k_extra "my enter"
  k_steps
  refine' hret _ _ _ _ ⟨_, _, _, _, _, _, rfl, rfl, ?l1, ?l2, ?l3⟩ ?ff ?nn
  case nn => exact News.cut2 (by k_asm)
  case ff => k_asm
  case l1 => first | assumption | exact tb_ltOf (by assumption)
  case l2 => assumption
  case l3 => assumption
end
theorem lay132 : True := by
  k_with "my call ref" => (k_here; (with_reducible show wpAny _ _ (call (Value.ref 370) _) _ _ _); k_dflt (refine specR_use (by k_asm) (by k_asm) (by k_asm) (by k_asm) (by k_asm) (by first | exact rfl | assumption) (by ktr_room) (by ktr_units) (about_bad_kind (by k_mem) (by k_mem) (by first | assumption | rfl)) ?_); intro e' h' tk' g' F' R' U'; (try dsimp only); (try k_fold))
  k_with "my call ref" => (k_here; (with_reducible show wpAny _ _ (call (Value.ref 370) _) _ _ _); k_dflt (refine specR_use (by k_asm) (by k_asm) (by k_asm) (by k_asm) (by k_asm) (by first | exact rfl | assumption) (by ktr_room) (by ktr_units) (about_short (by k_mem) (by k_mem) (by first | assumption | rfl) (by first | with_reducible assumption | decide | k_extra "my b_siz")) ?_); intro e' h' tk' g' F' R' U'; (try dsimp only); (try k_fold))
  k_with "my call ref" => (k_here; (with_reducible show wpAny _ _ (call (Value.ref 370) _) _ _ _); k_dflt (refine spec_use (by k_asm) (by k_asm) (by k_asm) (by k_asm) (by k_asm) (by first | exact rfl | assumption) (by ktr_room) (by ktr_units) (about_spec (by k_mem) (by k_mem) (by first | with_reducible assumption | assumption) (by k_extra "my b_in") (by first | with_reducible assumption | decide | k_extra "my b_siz") (by first | with_reducible assumption | decide | k_extra "my b_siz") (by first | with_reducible assumption | assumption) (by first | with_reducible assumption | assumption) (by first | with_reducible assumption | assumption) (by first | with_reducible assumption | assumption) (by first | with_reducible assumption | assumption) (by first | with_reducible assumption | assumption) (by first | with_reducible assumption | assumption) (by first | with_reducible assumption | assumption) (by first | with_reducible assumption | assumption) (by first | with_reducible assumption | assumption) (by first | with_reducible assumption | assumption)) ?_); intro r' n' h' tk' R' F' N'; (obtain ⟨D', x', d', q', u', t', e1', e2', l1', l2', l3'⟩ := R'; subst e1'; subst e2'; (have l4' := lt_all l1' l2'); (try k_lt l4'); (replace l1' := l1'); (replace l2' := l2'); (try k_lt l1'); (try k_lt2 l2'); (try k_lt2 l3')); (try dsimp only); (try k_sweep); (try k_fold))
  exact True.intro

-- P17: the law's own octets; rows; the budget's object
theorem rep2 : List.replicate (Int.toNat 2) (0 : Int) = w16 0 := rfl
theorem lawFlags (v : HF) : (v.off / 8 + 16384 * if v.dont = true then 1 else 0) + (8192 * if v.more = true then 1 else 0) = flagsOf v := by
  unfold flagsOf
  cases v.dont <;> cases v.more <;> rfl
theorem message_octets_spec {w : World} {news : List (Addr × Obj)} (k c r : Int) (p : List Int) (tk tc tr tp : Tok) (h0 : 0 ≤ k) (h1 : k < 256) (h2 : 0 ≤ c) (h3 : c < 256) (h4 : 0 ≤ r) (hp : KBa.In p) (hl : p.length ≤ 2000) :
    Spec w 24 464 [.int k tk, .int c tc, .int r tr, .bytes (byteArr p) tp] news (Pure news fun t' => .bytes (byteArr (msgOct k c r p)) t') := by
  unfold Spec
  intro loose mean mg mb dp un gd cn cs a' ccd cl outer A₀ base h₀ L m s Q E B F X N T hk hd hu hret
  k_extra "my enter"
  k_steps
  all_goals exact hret _ _ _ _ ⟨rfl, bytes_ret (by simp only [msgOct, rep2, List.append_assoc, List.cons_append, List.nil_append])⟩ (by k_asm) (cb_drop (by k_asm) (by intro p hp; k_ownIn))
section
variable {w : World} {news : List (Addr × Obj)} {x d : Addr} {q : HD} {v : HF} {u : HT} {p : List Int} {t : Tok}
theorem head_octets_spec (hx : (x, instObj 274 d) ∈ news) (hd' : (d, dictOf (hdrOf q v u) 10) ∈ news) (ok : HdrOk v) (n : Int) (h0 : 0 ≤ n) : Spec w 24 471 [.ref x, .int n t] news (Pure news fun t => .bytes (byteArr (hOct v n)) t) := by
  have ok' := ok
  obtain ⟨s0, s1, g0, g1, p0, p1, i0, i1, t0, t1, o0, o1, f0, f1, f8, l4, l8, oi⟩ := ok'
  have fl := flags_in ok
  unfold Spec
  intro loose mean mg mb dp un gd cn cs a' ccd cl outer A₀ base h₀ L m s Q E B F X N T hk hd hu hret
  k_extra "my enter"
  k_steps
  all_goals exact hret _ _ _ _ ⟨rfl, bytes_ret (by simp only [hOct, hFirst, hBehind, rep2, lawFlags, List.append_assoc, List.cons_append, List.nil_append])⟩ (by k_asm) (cb_drop (by k_asm) (by intro p hp; k_ownIn))
theorem row_spec (hx : (x, instObj 274 d) ∈ news) (hd' : (d, dictOf (hdrOf q v u) 10) ∈ news) : Spec w 12 271 [.ref x] news (fun r n' => ∃ D, r = .ref D ∧ n' = (D, tupO #[.int v.src u.a, .int v.tgt u.b, .int v.pro u.c, .int v.idn u.d, .int v.ttl u.e, .int v.tos u.f, .bool v.dont, .bool v.more, .int v.off u.i, .bytes (byteArr v.opt) u.j]) :: news ∧ (∀ p ∈ news, p.1 < D)) := by
  unfold Spec
  intro loose mean mg mb dp un gd cn cs a' ccd cl outer A₀ base h₀ L m s Q E B F X N T hk hd hu hret
  k_extra "my enter"
  k_steps
  all_goals exact hret _ _ _ _ ⟨_, rfl, rfl, by assumption⟩ (by k_asm) (by k_asm)
end
section
variable {w : World} {news : List (Addr × Obj)} {x d : Addr} {q : HD} {v : HF} {u : HT}
  {loose : List Str} {mean : ExcName → Option Value} {mg mb : Str → Option Value}
  {dp un : Nat} {gd : Option (List Code)} {cn : Str} {cs : Scope} {a : Addr} {ccd : Value} {cl : List (Str × Addr)} {outer : List Env} {A₀ : Around} {base h₀ : Heap} {L : Addr} {m : Str → Option Value} {s : Shared} {Q E : Value → Shared → Prop}
theorem row_use (B : Below A₀ base outer h₀) (F : Fr h₀ L s.heap m) (X : (hd.heap_1 w.params).In h₀) (N : News h₀ L s.heap news) (T : Top topProg loose mean mg mb h₀) (hkf : cs.kind = .function) (hdp : dp + 12 < recursionLimit) (hun : un + 8 * 12 < cLine)
    (hx : (x, instObj 274 d) ∈ news) (hd' : (d, dictOf (hdrOf q v u) 10) ∈ news)
    (ret : ∀ D h' tk', (∀ p ∈ news, @LT.lt Nat _ p.1 D) → Fr h₀ L h' m → News h₀ L h' ((D, tupO #[.int v.src u.a, .int v.tgt u.b, .int v.pro u.c, .int v.idn u.d, .int v.ttl u.e, .int v.tos u.f, .bool v.dont, .bool v.more, .int v.off u.i, .bytes (byteArr v.opt) u.j]) :: news) → Q (.ref D) { s with heap := h', toks := tk' }) :
    wpAny (model Challenge.rw_nu0135_01.row.prog w) (ktrTop dp un gd cn cs L a ccd cl outer) (call (.ref 271) [.ref x]) Q E s :=
  spec_use B F X N T hkf hdp hun (row_spec hx hd') fun r n' h' tk' R F' N' => by
    obtain ⟨D, rfl, rfl, l⟩ := R
    exact ret D h' tk' l F' N'
end
theorem lay137 : True := by
  k_with "my call ref" => (k_here; (with_reducible show wpAny _ _ (call (Value.ref 464) _) _ _ _); k_dflt (refine pure_use (by k_asm) (by k_asm) (by k_asm) (by k_asm) (by k_asm) (by first | exact rfl | assumption) (by ktr_room) (by ktr_units) (message_octets_spec _ _ _ _ _ _ _ _ (by first | with_reducible assumption | decide | omega) (by first | with_reducible assumption | decide | omega) (by first | with_reducible assumption | decide | omega) (by first | with_reducible assumption | decide | omega) (by first | with_reducible assumption | decide | omega) (by k_extra "my b_in") (by first | with_reducible assumption | decide | k_extra "my b_siz")) ?_); intro t' h' tk' F' N'; (try dsimp only); (try k_sweep); (try k_fold))
  k_with "my call ref" => (k_here; (with_reducible show wpAny _ _ (call (Value.ref 471) _) _ _ _); k_dflt (refine pure_use (by k_asm) (by k_asm) (by k_asm) (by k_asm) (by k_asm) (by first | exact rfl | assumption) (by ktr_room) (by ktr_units) (head_octets_spec (by k_mem) (by k_mem) (by first | with_reducible assumption | assumption) _ (by first | with_reducible assumption | decide | omega)) ?_); intro t' h' tk' F' N'; (try dsimp only); (try k_sweep); (try k_fold))
  k_with "my call ref" => ((k_here; (with_reducible show wpAny _ _ (call (Value.ref 271) _) _ _ _); k_dflt (refine row_use (by k_asm) (by k_asm) (by k_asm) (by k_asm) (by k_asm) (by first | exact rfl | assumption) (by ktr_room) (by ktr_units) (by k_mem) (by k_mem) ?_); intro D' h' tk' l1' F' N'; (try k_lt l1'); (try dsimp only); (try k_sweep); (try k_fold)))
  exact True.intro
abbrev budDict (q : MD) (a b c d : Value) : List DictEntry :=
  [⟨q.h1, .str (Str.ofString "most") q.t1, a⟩, ⟨q.h2, .str (Str.ofString "refill_after") q.t2, b⟩, ⟨q.h3, .str (Str.ofString "left") q.t3, c⟩, ⟨q.h4, .str (Str.ofString "since") q.t4, d⟩]
theorem new_budget_spec {w : World} {news : List (Addr × Obj)} (most every : Int) (tm te : Tok) : Spec w 14 415 [.int most tm, .int every te] news (fun r n' => ∃ x dx q tl ts, r = .ref x ∧ n' = (x, instObj 415 dx) :: (dx, dictOf (budDict q (.int most tm) (.int every te) (.int most tl) (.int 0 ts)) 4) :: news ∧ (∀ p ∈ news, p.1 < dx) ∧ dx < x) := by
  unfold Spec
  intro loose mean mg mb dp un gd cn cs a' ccd cl outer A₀ base h₀ L m s Q E B F X N T hk hd hu hret
  k_extra "my enter_cls"
  k_steps
  exact hret _ _ _ _ ⟨_, _, ⟨_, _, _, _, _, _, _, _⟩, _, _, rfl, rfl, by assumption, by assumption⟩ (by k_asm) (by k_asm)
def refilled (most every left since now : Int) : Int × Int :=
  if left = most then (left, now) else if most ≤ left + (now - since) / every then (most, now) else (left + (now - since) / every, since + (now - since) / every * every)
theorem refl1 {most every left since now : Int} (h : left = most) : (left, now) = refilled most every left since now := by unfold refilled; rw [if_pos h]
theorem refl2 {most every left since now : Int} (h : left ≠ most) (h2 : most ≤ left + (now - since) / every) : (most, now) = refilled most every left since now := by unfold refilled; rw [if_neg h, if_pos h2]
theorem refl3 {most every left since now : Int} (h : left ≠ most) (h2 : ¬ most ≤ left + (now - since) / every) : (left + (now - since) / every, since + (now - since) / every * every) = refilled most every left since now := by unfold refilled; rw [if_neg h, if_neg h2]
/-- refill: the object's dict is turned -/
theorem refill_spec {w : World} {x dx : Addr} {q : MD} {most every left since now : Int} {tm te tl ts tn : Tok} {rest : List (Addr × Obj)} (hne : ∀ p ∈ rest, p.1 ≠ dx) (hxd : x ≠ dx) (h1 : 0 < every) (h2 : every < 1000000) (h3 : left ≤ most) (h4 : since ≤ now) :
    Spec w 14 405 [.ref x, .int now tn] ((x, instObj 415 dx) :: (dx, dictOf (budDict q (.int most tm) (.int every te) (.int left tl) (.int since ts)) 4) :: rest)
      (fun r n' => r = .none ∧ ∃ l' s' tl' ts', (l', s') = refilled most every left since now ∧ n' = (x, instObj 415 dx) :: (dx, dictOf (budDict q (.int most tm) (.int every te) (.int l' tl') (.int s' ts')) 4) :: rest) := by
  unfold Spec
  intro loose mean mg mb dp un gd cn cs a' ccd cl outer A₀ base h₀ L m s Q E B F X N T hk hd hu hret
  k_extra "my enter"
  k_steps
  · exact hret _ _ _ _ ⟨rfl, _, _, _, _, refl1 (by omega), rfl⟩ (by k_asm) (by k_asm)
  · exact hret _ _ _ _ ⟨rfl, _, _, _, _, refl2 (by omega) (by omega), rfl⟩ (by k_asm) (by k_asm)
  · exact hret _ _ _ _ ⟨rfl, _, _, _, _, refl3 (by omega) (by omega), rfl⟩ (by k_asm) (by k_asm)
theorem lay136 : True := by
  k_with "my call ref" => ((k_here; (with_reducible show wpAny _ _ (call (Value.ref 405) _) _ _ _); k_dflt (refine spec_use (by k_asm) (by k_asm) (by k_asm) (by k_asm) (by k_asm) (by first | exact rfl | assumption) (by ktr_room) (by ktr_units) (refill_spec (by k_all) (by k_ne) (by omega) (by omega) (by omega) (by omega)) ?_; k_whole); intro r' n' h' tk' R' F' N'; (obtain ⟨e1', l', s', tl', ts', e2', e3'⟩ := R'; subst e1'; subst e3'); (try dsimp only); (try k_sweep); (try k_fold)))
  exact True.intro
theorem take_spec {w : World} {x dx : Addr} {q : MD} {most every left since now : Int} {tm te tl ts tn : Tok} {rest : List (Addr × Obj)} (hne : ∀ p ∈ rest, p.1 ≠ dx) (hxd : x ≠ dx) (h1 : 0 < every) (h2 : every < 1000000) (h3 : left ≤ most) (h4 : since ≤ now) :
    Spec w 20 412 [.ref x, .int now tn] ((x, instObj 415 dx) :: (dx, dictOf (budDict q (.int most tm) (.int every te) (.int left tl) (.int since ts)) 4) :: rest)
      (fun r n' => ∃ l' s', (l', s') = refilled most every left since now ∧ ((l' = 0 ∧ r = .bool false ∧ ∃ tl' ts', n' = (x, instObj 415 dx) :: (dx, dictOf (budDict q (.int most tm) (.int every te) (.int l' tl') (.int s' ts')) 4) :: rest) ∨
        (l' ≠ 0 ∧ r = .bool true ∧ ∃ tl' ts', n' = (x, instObj 415 dx) :: (dx, dictOf (budDict q (.int most tm) (.int every te) (.int (l' - 1) tl') (.int s' ts')) 4) :: rest))) := by
  unfold Spec
  intro loose mean mg mb dp un gd cn cs a' ccd cl outer A₀ base h₀ L m s Q E B F X N T hk hd hu hret
  k_extra "my enter"
  k_steps
  · exact hret _ _ _ _ ⟨_, _, by assumption, .inl ⟨by omega, rfl, _, _, rfl⟩⟩ (by k_asm) (by k_asm)
  · exact hret _ _ _ _ ⟨_, _, by assumption, .inr ⟨by omega, rfl, _, _, rfl⟩⟩ (by k_asm) (by k_asm)

-- P18: plain laws of the sums
theorem wsum_app : ∀ {a b : List Int}, a.length % 2 = 0 → wsum (a ++ b) = wsum a + wsum b
  | [], b, _ => by simp [wsum]
  | [_], _, h => by simp at h
  | x :: y :: r, b, h => by
    have h' : r.length % 2 = 0 := by simp only [List.length_cons] at h; omega
    show x * 256 + y + wsum (r ++ b) = x * 256 + y + wsum r + wsum b
    rw [wsum_app h']; omega
theorem wsum_w16 {n : Int} (h0 : 0 ≤ n) (h1 : n < 65536) : wsum (w16 n) = n := by
  show n / 256 % 256 * 256 + n % 256 + 0 = n
  omega
theorem cfold_full {n : Int} (h : 0 ≤ n) : cfold (n + (65535 - cfold n)) = 65535 := by
  unfold cfold
  split <;> split <;> omega
theorem sum_put {a b : List Int} (ha : a.length % 2 = 0) (hi : KBa.In (a ++ w16 0 ++ b)) : cfold (wsum (a ++ w16 (65535 - cfold (wsum (a ++ w16 0 ++ b))) ++ b)) = 65535 := by
  have hn := (wsum_nonneg hi).1
  have hc := cfold_in hn
  have e : ∀ m : Int, 0 ≤ m → m < 65536 → wsum (a ++ w16 m ++ b) = wsum a + m + wsum b := fun m h0 h1 => by
    rw [wsum_app (by rw [List.length_append, w16_len]; omega), wsum_app ha, wsum_w16 h0 h1]
  have e0 := e 0 (by omega) (by omega)
  rw [e _ (by omega) (by omega), show wsum a + (65535 - cfold (wsum (a ++ w16 0 ++ b))) + wsum b = wsum (a ++ w16 0 ++ b) + (65535 - cfold (wsum (a ++ w16 0 ++ b))) from by rw [e0]; omega]
  exact cfold_full hn
theorem msgOct_sum {k c r : Int} {p : List Int} (h0 : 0 ≤ k) (h1 : k < 256) (h2 : 0 ≤ c) (h3 : c < 256) (hp : KBa.In p) : cfold (wsum (msgOct k c r p)) = 65535 :=
  sum_put (a := [k, c]) (by rw [List.length_cons, List.length_cons, List.length_nil]) (in_app (in_app (in_cons h0 h1 (in_cons h2 h3 in_nil)) (w16_in _)) (in_app (w32_in _) hp))
theorem cfold_off {n d : Int} (h : cfold n = 65535) (hn : 0 ≤ n) (hd : (1 ≤ d ∧ d < 65535) ∨ (-65535 < d ∧ d ≤ -1)) : cfold (n + d) ≠ 65535 := by
  unfold cfold at *
  split at h <;> split <;> omega
theorem wsum_set : ∀ (o : List Int) (i : Nat) (v : Int), i < o.length → wsum (o.take i ++ [v] ++ o.drop (i + 1)) = wsum o + (v - o.getD i 0) * (if i % 2 = 0 then 256 else 1)
  | [], i, _, h => by simp at h
  | [a], i, v, h => by
    have : i = 0 := by simp at h; omega
    subst this
    show v * 256 = a * 256 + (v - a) * 256
    omega
  | a :: b :: r, 0, v, _ => by
    show v * 256 + b + wsum r = a * 256 + b + wsum r + (v - a) * 256
    omega
  | a :: b :: r, 1, v, _ => by
    show a * 256 + v + wsum r = a * 256 + b + wsum r + (v - b) * 1
    omega
  | a :: b :: r, i + 2, v, h => by
    have ih := wsum_set r i v (by simp only [List.length_cons] at h; omega)
    show a * 256 + b + wsum (r.take i ++ [v] ++ r.drop (i + 1)) = a * 256 + b + wsum r + (v - r.getD i 0) * (if (i + 2) % 2 = 0 then 256 else 1)
    rw [ih, show (i + 2) % 2 = i % 2 from by omega]
    omega
theorem spoilt_sum {o : List Int} {i k : Nat} (hi : KBa.In o) (h : i < o.length) (hk : k < 8) (hs : cfold (wsum o) = 65535) : cfold (wsum (o.take i ++ [flipBit (o.getD i 0) k] ++ o.drop (i + 1))) ≠ 65535 := by
  have hb := in_getD hi i
  obtain ⟨_, _, hf⟩ := flip_is hb.1 hb.2 hk
  rw [wsum_set o i _ h]
  refine cfold_off hs (wsum_nonneg hi).1 ?_
  have hp : ∀ k < 8, (1 : Int) ≤ 2 ^ k ∧ (2 : Int) ^ k ≤ 128 := by decide
  have := hp k hk
  rcases hf with e | e <;> rw [e] <;> split <;> omega

-- P19: tuples whose items are alike; what unpacking a packed message gives
inductive SameVs : List Value → List Value → Prop
  | nil : SameVs [] []
  | int {xs ys} (a b : Int) (t u : Tok) (e : a = b) (h : SameVs xs ys) : SameVs (.int a t :: xs) (.int b u :: ys)
  | bool {xs ys} (b : Bool) (h : SameVs xs ys) : SameVs (.bool b :: xs) (.bool b :: ys)
  | bytes {xs ys} (a b : List Int) (t u : Tok) (e : a = b) (h : SameVs xs ys) : SameVs (.bytes (byteArr a) t :: xs) (.bytes (byteArr b) u :: ys)
section
variable {A : Around} {s : Shared}
theorem SameVs.len {xs ys : List Value} (h : SameVs xs ys) : xs.length = ys.length := by
  induction h with
  | nil => rfl
  | int _ _ _ _ _ _ ih => rw [List.length_cons, List.length_cons, ih]
  | bool _ _ ih => rw [List.length_cons, List.length_cons, ih]
  | bytes _ _ _ _ _ _ ih => rw [List.length_cons, List.length_cons, ih]
theorem sameVs_at {xs ys : List Value} (h : SameVs xs ys) : ∀ (j : Nat) (h1 : j < xs.length) (h2 : j < ys.length), SeqAt.EqAt A s xs[j] ys[j] true := by
  induction h with
  | nil => intro j h1; nomatch h1
  | int a b t u e h ih =>
    intro j h1 h2
    cases j with
    | zero => subst e; have := SeqAt.EqAt.int_int (A := A) (s := s) a t a u; rw [beq_self_eq_true] at this; exact this
    | succ j => exact ih j (Nat.lt_of_succ_lt_succ h1) (Nat.lt_of_succ_lt_succ h2)
  | bool b h ih =>
    intro j h1 h2
    cases j with
    | zero => have := SeqAt.EqAt.bool_bool (A := A) (s := s) b b; rw [beq_self_eq_true] at this; exact this
    | succ j => exact ih j (Nat.lt_of_succ_lt_succ h1) (Nat.lt_of_succ_lt_succ h2)
  | bytes a b t u e h ih =>
    intro j h1 h2
    cases j with
    | zero => subst e; exact fun prog w E Q hq => eqBool_bytes (by rw [decide_eq_true rfl]; exact hq)
    | succ j => exact ih j (Nat.lt_of_succ_lt_succ h1) (Nat.lt_of_succ_lt_succ h2)
end
theorem ne_same {prog : Program} {w : World} {A : Around} {E : Value → Shared → Prop} {s : Shared} {h₀ : Heap} {L a b : Addr} {news : List (Addr × Obj)} {xs ys : List Value} {Q : Value → Shared → Prop}
    (N : News h₀ L s.heap news) (ha : (a, tupO xs.toArray) ∈ news) (hb : (b, tupO ys.toArray) ∈ news) (hs : SameVs xs ys) (hu : A.units < cLine) (h : Q (.bool false) s) :
    wpAny (model prog w) A (compareOp .NotEq (.ref a) (.ref b)) Q E s := by
  have r := SeqAt.RcNeAt.tuples (A := A) (s := s) (e := fun _ => true) (l := a) (b := b) (items := xs.toArray) (items2 := ys.toArray) ⟨_, (N _ ha).1, rfl, _, rfl⟩ ⟨_, (N _ hb).1, rfl, _, rfl⟩ hu (fun j h1 h2 => by
    have h1' : j < xs.length := by simpa using h1
    have h2' : j < ys.length := by simpa using h2
    simpa using sameVs_at (A := A.in1) (s := s) hs j h1' h2')
  refine r prog w E Q ?_
  have e : (!((List.range (min xs.toArray.size ys.toArray.size)).all (fun _ => true) && xs.toArray.size == ys.toArray.size)) = false := by
    have := hs.len
    simp [this]
  rw [e]; exact h
theorem lay139 : True := by
  k_with "my same" => ((first | with_reducible exact rfl | k_dflt (exact rfl) | omega))
  k_with "my sames" => ((repeat (first | ((with_reducible show SameVs (Value.int _ _ :: _) (Value.int _ _ :: _)); with_reducible apply SameVs.int _ _ _ _ (by k_extra "my same")) | ((with_reducible show SameVs (Value.bytes (byteArr _) _ :: _) (Value.bytes (byteArr _) _ :: _)); with_reducible apply SameVs.bytes _ _ _ _ (by k_extra "my same")) | ((with_reducible show SameVs (Value.bool _ :: _) (Value.bool _ :: _)); with_reducible apply SameVs.bool _))); exact SameVs.nil)
  k_with "my compareOp NotEq ref ref" => ((k_here; (with_reducible show wpAny _ _ (compareOp CmpOp.NotEq (Value.ref _) (Value.ref _)) _ _ _); k_dflt (refine ne_same (by k_asm) (by k_mem) (by k_mem) (by k_extra "my sames") (by ktr_units) ?_; k_whole)))
  exact True.intro
theorem msg_fields {k c r : Int} {p : List Int} (h0 : 0 ≤ r) (h1 : r < 4294967296) : (msgOct k c r p).getD 0 0 = k ∧ (msgOct k c r p).getD 1 0 = c ∧ g32 (msgOct k c r p) 4 = r ∧ (msgOct k c r p).drop 8 = p := by
  refine ⟨rfl, rfl, ?_, rfl⟩
  show (r / 65536 / 256 % 256 * 256 + r / 65536 % 256) * 65536 + (r / 256 % 256 * 256 + r % 256) = r
  omega
theorem unpack_own_spec {w : World} {news : List (Addr × Obj)} (k c r : Int) (p : List Int) (t : Tok) (h0 : 0 ≤ k) (h1 : k < 256) (h2 : 0 ≤ c) (h3 : c < 256) (h4 : 0 ≤ r) (h5 : r < 4294967296) (hp : KBa.In p) (hl : p.length ≤ 1000) :
    Spec w 18 207 [.bytes (byteArr (msgOct k c r p)) t] news (RetMsg news (fun t => .int k t) (fun t => .int c t) (fun t => .int r t) (fun t => .bytes (byteArr p) t)) := by
  have C := unpack_icmp_spec (w := w) (news := news) (msgOct k c r p) t (by rw [msgOct_len]; omega) (by rw [msgOct_len]; omega) (msgOct_in h0 h1 h2 h3 hp) (msgOct_sum h0 h1 h2 h3 hp)
  obtain ⟨e1, e2, e3, e4⟩ := msg_fields (k := k) (c := c) (p := p) h4 h5
  rw [e1, e2, e3, e4] at C
  exact C
theorem lay142 : True := by
  k_with "my call ref" => (k_here; (with_reducible show wpAny _ _ (call (Value.ref 207) _) _ _ _); k_dflt (refine msg_use (by k_asm) (by k_asm) (by k_asm) (by k_asm) (by k_asm) (by first | exact rfl | assumption) (by ktr_room) (by ktr_units) (unpack_own_spec _ _ _ _ _ (by first | with_reducible assumption | decide | omega) (by first | with_reducible assumption | decide | omega) (by first | with_reducible assumption | decide | omega) (by first | with_reducible assumption | decide | omega) (by first | with_reducible assumption | decide | omega) (by first | with_reducible assumption | decide | omega) (by k_extra "my b_in") (by first | with_reducible assumption | decide | k_extra "my b_siz")) ?_); intro x' d' q' ta' tb' tc' td' h' tk' F' N' l4' l1' l2'; (try k_lt l4'); (try k_lt l1'); (try k_lt2 l2'); (try dsimp only); (try k_sweep); (try k_fold))
  exact True.intro
/-- the octets that an error tells of: head and eight octets -/
abbrev due (v : HF) (p : List Int) : List Int := hOct v (20 + v.opt.length + p.length) ++ p.take 8
theorem due_is (v : HF) (p : List Int) : (hOct v (20 + v.opt.length + p.length) ++ p).take (20 + (v.opt.length : Int) + 8).toNat = due v p := by
  rw [List.take_append, hOct_len, List.take_of_length_le (by rw [hOct_len]; omega)]
  congr 2
  omega
theorem due_in {v : HF} {p : List Int} (ok : HdrOk v) (hp : KBa.In p) : KBa.In (due v p) := in_app (hOct_in ok _) (in_take hp)
theorem due_len (v : HF) (p : List Int) : (due v p).length = 20 + v.opt.length + min 8 p.length := by
  rw [List.length_append, hOct_len, List.length_take]
section
variable {v : HF} {p q : List Int} {n : Int}
theorem h_at (v : HF) (n : Int) (q : List Int) : (hOct v n ++ q).getD 0 0 = 64 + (20 + (v.opt.length : Int)) / 4 ∧ (hOct v n ++ q).getD 1 0 = v.tos ∧ (hOct v n ++ q).getD 8 0 = v.ttl ∧ (hOct v n ++ q).getD 9 0 = v.pro := ⟨rfl, rfl, rfl, rfl⟩
theorem h_g2 (h0 : 0 ≤ n) (h1 : n < 65536) : g16 (hOct v n ++ q) 2 = n := by
  show n / 256 % 256 * 256 + n % 256 = n
  omega
theorem h_g4 (ok : HdrOk v) : g16 (hOct v n ++ q) 4 = v.idn := by
  have := ok.i0; have := ok.i1
  show v.idn / 256 % 256 * 256 + v.idn % 256 = v.idn
  omega
theorem h_g6 (ok : HdrOk v) : g16 (hOct v n ++ q) 6 = flagsOf v := by
  have := flags_in ok
  show flagsOf v / 256 % 256 * 256 + flagsOf v % 256 = flagsOf v
  omega
theorem h_g12 (ok : HdrOk v) : g32 (hOct v n ++ q) 12 = v.src := by
  have := ok.s0; have := ok.s1
  show (v.src / 65536 / 256 % 256 * 256 + v.src / 65536 % 256) * 65536 + (v.src / 256 % 256 * 256 + v.src % 256) = v.src
  omega
theorem h_g16 (ok : HdrOk v) : g32 (hOct v n ++ q) 16 = v.tgt := by
  have := ok.g0; have := ok.g1
  show (v.tgt / 65536 / 256 % 256 * 256 + v.tgt / 65536 % 256) * 65536 + (v.tgt / 256 % 256 * 256 + v.tgt % 256) = v.tgt
  omega
theorem fl_num {o x y : Int} (h0 : 0 ≤ o) (h1 : o < 8192) (x0 : 0 ≤ x) (x1 : x ≤ 1) (y0 : 0 ≤ y) (y1 : y ≤ 1) : (o + x * 16384 + y * 8192) / 16384 % 2 = x ∧ (o + x * 16384 + y * 8192) / 8192 % 2 = y ∧ (o + x * 16384 + y * 8192) % 8192 = o := by
  omega
theorem bit01 (b : Bool) : 0 ≤ (if b then 1 else 0 : Int) ∧ (if b then 1 else 0 : Int) ≤ 1 := by cases b <;> exact ⟨by decide, by decide⟩
theorem fl_parts (ok : HdrOk v) : (flagsOf v / 16384 % 2 * 16384 != 0) = v.dont ∧ (flagsOf v / 8192 % 2 * 8192 != 0) = v.more ∧ flagsOf v % 8192 * 8 = v.off := by
  have h0 := ok.f0; have h1 := ok.f1; have h8 := ok.f8
  have e : flagsOf v = v.off / 8 + (if v.dont then 1 else 0) * 16384 + (if v.more then 1 else 0) * 8192 := by unfold flagsOf; cases v.dont <;> cases v.more <;> rfl
  obtain ⟨a, b, c⟩ := fl_num (o := v.off / 8) (by omega) (by omega) (bit01 v.dont).1 (bit01 v.dont).2 (bit01 v.more).1 (bit01 v.more).2
  rw [e, a, b, c]
  exact ⟨by cases v.dont <;> rfl, by cases v.more <;> rfl, by omega⟩
theorem h_opt (v : HF) (n : Int) (q : List Int) : ((hOct v n ++ q).take (20 + v.opt.length)).drop 20 = v.opt := by
  rw [List.take_append_of_le_length (by rw [hOct_len]; omega), List.take_of_length_le (by rw [hOct_len]; omega)]
  rfl
theorem h_from (ok : HdrOk v) {sz : Int} (hs : sz = 20 + v.opt.length) : hdrFrom (hOct v n ++ q) sz = v := by
  subst hs
  obtain ⟨f1, f2, f3⟩ := fl_parts ok
  unfold hdrFrom
  rw [h_g12 ok, h_g16 ok, h_g4 ok, h_g6 ok, f1, f2, f3, show (20 + (v.opt.length : Int)).toNat = 20 + v.opt.length from by omega, h_opt]
  rfl
end

-- P20: calls that are refused, their ledger turned; lambdas, their table first or filled
inductive UpdT (P : Addr) (o : Obj) (tail : List (Addr × Obj)) : List (Addr × Obj) → (Obj → List (Addr × Obj) → List (Addr × Obj)) → Prop
  | here (h : ∀ p ∈ tail, p.1 ≠ P) : UpdT P o tail ((P, o) :: tail) (fun o' t' => (P, o') :: t')
  | there {q news g} (hq : q.1 ≠ P) (h : UpdT P o tail news g) : UpdT P o tail (q :: news) (fun o' t' => q :: g o' t')
theorem UpdT.split {P : Addr} {o : Obj} {tail news : List (Addr × Obj)} {g : Obj → List (Addr × Obj) → List (Addr × Obj)} (U : UpdT P o tail news g) :
    ∃ pre, news = pre ++ (P, o) :: tail ∧ (∀ o' t', g o' t' = pre ++ (P, o') :: t') ∧ (∀ q ∈ pre, q.1 ≠ P) ∧ (∀ q ∈ tail, q.1 ≠ P) := by
  induction U with
  | here h => exact ⟨[], rfl, fun _ _ => rfl, fun _ h => (nomatch h), h⟩
  | there hq _ ih =>
    obtain ⟨pre, e1, e2, e3, e4⟩ := ih
    exact ⟨_ :: pre, by rw [e1, List.cons_append], fun o' t' => congrArg (_ :: ·) (e2 o' t'), fun q hq' => by
      rcases List.mem_cons.mp hq' with rfl | hq'
      · exact hq
      · exact e3 q hq', e4⟩
theorem updF_of_pre {P : Addr} {o : Obj} {tail : List (Addr × Obj)} (ht : ∀ q ∈ tail, q.1 ≠ P) : ∀ (pre : List (Addr × Obj)), (∀ q ∈ pre, q.1 ≠ P) → UpdF P o (pre ++ (P, o) :: tail) (fun o' => pre ++ (P, o') :: tail)
  | [], _ => UpdF.head ht
  | q :: pre, h => UpdF.tail (h q (List.mem_cons_self ..)) (updF_of_pre ht pre fun z hz => h z (List.mem_cons_of_mem _ hz))
/-- a table of lambdas: empty or filled, its codes stand on the ledger -/
structure LamTab (qual : Str) (ps : Array Value) (tail : List (Addr × Obj)) : Prop where
  tr : TriplesOk ps.toList
  got : ∀ pos cv, codeAmong pos ps.toList = some cv → ∃ c' oc vs t, cv = .ref c' ∧ (c', oc) ∈ tail ∧ oc.data = .fields vs ∧ vs[1]? = some (.str qual t)
theorem lamTab_nil (qual : Str) (tail : List (Addr × Obj)) : LamTab qual #[] tail := ⟨True.intro, fun _ _ h => nomatch h⟩
theorem LamTab.mono {qual : Str} {ps : Array Value} {tail tail' : List (Addr × Obj)} (G : LamTab qual ps tail) (h : ∀ p ∈ tail, p ∈ tail') : LamTab qual ps tail' :=
  ⟨G.tr, fun pos cv e => by
    obtain ⟨c', oc, vs, t, h1, h2, h3, h4⟩ := G.got pos cv e
    exact ⟨c', oc, vs, t, h1, h _ h2, h3, h4⟩⟩
theorem codeAmong_app {pos : Pos} {a b : Int} {v cv : Value} (l : List Value) (h : TriplesOk l) (e : codeAmong pos (l ++ [rawInt a, rawInt b, v]) = some cv) : codeAmong pos l = some cv ∨ cv = v := by
  fun_induction TriplesOk l with
  | case1 =>
    simp only [List.nil_append, rawInt, codeAmong] at e
    split at e
    · exact .inr (Option.some.inj e).symm
    · cases e
  | case2 a' t b' u x rest ih =>
    simp only [List.cons_append, codeAmong] at e ⊢
    split at e
    · rename_i hc; rw [if_pos hc]; exact .inl e
    · rename_i hc; rw [if_neg hc]; exact ih h e
  | case3 l h1 h2 => exact h.elim
theorem LamTab.snoc {qual : Str} {ps : Array Value} {tail : List (Addr × Obj)} {a b : Int} {c' : Addr} {oc : Obj} {vs : Array Value} {t : Tok} (G : LamTab qual ps tail) (hd : oc.data = .fields vs) (hv : vs[1]? = some (.str qual t)) :
    LamTab qual (ps ++ #[rawInt a, rawInt b, .ref c']) ((c', oc) :: tail) := by
  have e : (ps ++ #[rawInt a, rawInt b, .ref c']).toList = ps.toList ++ [rawInt a, rawInt b, .ref c'] := by simp
  refine ⟨by rw [e]; exact TriplesOk_snoc _ _ _ _ G.tr, fun pos cv h => ?_⟩
  rw [e] at h
  rcases codeAmong_app _ G.tr h with h | rfl
  · obtain ⟨c1, oc1, vs1, t1, h1, h2, h3, h4⟩ := G.got pos cv h
    exact ⟨c1, oc1, vs1, t1, h1, List.mem_cons_of_mem _ h2, h3, h4⟩
  · exact ⟨c', oc, vs, t, rfl, List.mem_cons_self .., hd, hv⟩
section
variable {M : Model} {A : Around} {E : Value → Shared → Prop} {s : Shared} {h₀ : Heap} {L a c P : Addr} {m mg mb : Str → Option Value} {cn : Str} {cs : Scope} {ccd : Value} {cl : List (Str × Addr)} {news tail codes : List (Addr × Obj)} {g : Obj → List (Addr × Obj) → List (Addr × Obj)}
  {p : Program} {loose : List Str} {mean : ExcName → Option Value} {name qual q0 : Str} {params : Arguments} {body : Expr} {scope : Scope} {ps : Array Value} {pos : Pos} {clos : List (Str × Addr)}
theorem lam_make {Q : Value → Shared → Prop} (F : Fr h₀ L s.heap m) (N : News h₀ L s.heap news) (T : Top p loose mean mg mb h₀) (C : CodeHd h₀ c P) (hcd : ccd = .ref c) (U : UpdT P (tabObj ps) tail news g) (G : LamTab q0 ps codes) (hcs : ∀ p ∈ codes, p ∈ tail) (hq : (envX cn cs L a ccd cl).qual ++ "<lambda>" = q0)
    (hcl : closureFor scope (envX cn cs L a ccd cl) = pure clos) (hdef : defaultsOf params (envX cn cs L a ccd cl) = ([], []))
    (h : ∀ f c' oc vs t ctv ps' cs' tail' h' tk, Fr h₀ L h' m → News h₀ L h' ((f, kla_obj "<lambda>" q0 params body scope clos ((mg "__name__").getD .none) c' ctv) :: g (tabObj ps') tail') → LamTab q0 ps' cs' → (∀ p ∈ cs', p ∈ tail') →
      (∀ p ∈ tail', p ∈ tail ∨ ∀ q ∈ news, q.1 < p.1) → (∃ own, cs' = own ++ codes ∧ tail' = own ++ tail ∧ ∀ p ∈ own, ∀ q ∈ news, q.1 < p.1) → (c', oc) ∈ tail' → oc.data = .fields vs → vs[1]? = some (.str q0 t) → (∀ q ∈ g (tabObj ps') tail', q.1 < f) → Q (.ref f) { s with heap := h', toks := tk }) :
    wpAny M A (eval (.Lambda params body scope pos) (envX cn cs L a ccd cl)) Q E s := by
  obtain ⟨pre, rfl, hg, h1, h2⟩ := U.split
  refine kla_eval hdef ?_
  subst hq
  cases hf : codeAmong pos ps.toList with
  | some cv =>
    obtain ⟨c', oc, vs, t, rfl, hm, hd, hv⟩ := G.got pos cv hf
    refine kla_hit F N T C hcd (List.mem_append_right _ (List.mem_cons_self ..)) G.tr hf hcl fun f ctv h' tk F' N' l => ?_
    refine h f c' oc vs t ctv ps codes tail h' tk F' ?_ G hcs (fun _ hp => .inl hp) ⟨[], rfl, rfl, fun _ hp => nomatch hp⟩ (hcs _ hm) hd hv ?_
    · rw [hg]; exact N'
    · rw [hg]; exact l
  | none =>
    refine kla_nest F N T C hcd (updF_of_pre h2 pre h1) G.tr hf hcl fun f c' oc vs t ctv h' tk F' N' hd hv l1 l2 => ?_
    refine h f c' oc vs t ctv _ ((c', oc) :: codes) ((c', oc) :: tail) h' tk F' ?_ (G.snoc (a := pos.line) (b := pos.col) hd hv) (fun z hz => (List.mem_cons.mp hz).elim (fun e => e ▸ List.mem_cons_self ..) fun hz => List.mem_cons_of_mem _ (hcs z hz)) (fun z hz => ?_) ⟨[(c', oc)], rfl, rfl, fun z hz => by rw [List.mem_singleton.mp hz]; exact l1⟩ (List.mem_cons_self ..) hd hv (fun z hz => ?_)
    · intro z hz
      refine N' z ?_
      rw [hg] at hz
      rcases List.mem_cons.mp hz with rfl | hz
      · exact List.mem_cons_self ..
      · refine List.mem_cons_of_mem _ ?_
        rcases List.mem_append.mp hz with hz | hz
        · exact List.mem_cons_of_mem _ (List.mem_append_left _ hz)
        · rcases List.mem_cons.mp hz with rfl | hz
          · exact List.mem_cons_of_mem _ (List.mem_append_right _ (List.mem_cons_self ..))
          · rcases List.mem_cons.mp hz with rfl | hz
            · exact List.mem_cons_self ..
            · exact List.mem_cons_of_mem _ (List.mem_append_right _ (List.mem_cons_of_mem _ hz))
    · rcases List.mem_cons.mp hz with rfl | hz
      · exact .inr l1
      · exact .inl hz
    · rw [hg] at hz
      have low : ∀ q ∈ pre ++ (P, tabObj ps) :: tail, @LT.lt Nat _ q.1 f := fun q hq => Nat.lt_trans (l1 q hq) l2
      rcases List.mem_append.mp hz with hz | hz
      · exact low z (List.mem_append_left _ hz)
      · rcases List.mem_cons.mp hz with rfl | hz
        · exact low (P, tabObj ps) (List.mem_append_right _ (List.mem_cons_self ..))
        · rcases List.mem_cons.mp hz with rfl | hz
          · exact l2
          · exact low z (List.mem_append_right _ (List.mem_cons_of_mem _ hz))
end
/-- the tail and the codes have grown by objects younger than src -/
def Grown (src : Addr) (cs cs' tail tail' : List (Addr × Obj)) : Prop := ∃ own, cs' = own ++ cs ∧ tail' = own ++ tail ∧ ∀ p ∈ own, @LT.lt Nat _ src p.1
theorem grown_of {src : Addr} {o : Obj} {cs cs' tail tail' news : List (Addr × Obj)} (h : ∃ own, cs' = own ++ cs ∧ tail' = own ++ tail ∧ ∀ p ∈ own, ∀ q ∈ news, @LT.lt Nat _ q.1 p.1) (hm : (src, o) ∈ news) : Grown src cs cs' tail tail' := by
  obtain ⟨own, e, e', l⟩ := h
  exact ⟨own, e, e', fun p hp => l p hp _ hm⟩
theorem Grown.trans {src : Addr} {a b c a' b' c' : List (Addr × Obj)} (x : Grown src a b a' b') (y : Grown src b c b' c') : Grown src a c a' c' := by
  obtain ⟨o1, rfl, rfl, l1⟩ := x
  obtain ⟨o2, rfl, rfl, l2⟩ := y
  exact ⟨o2 ++ o1, (List.append_assoc ..).symm, (List.append_assoc ..).symm, fun p hp => (List.mem_append.mp hp).elim (l2 p) (l1 p)⟩
/-- a call that ends in a FormError, the ledger turned as Post says -/
def SpecRP (w : World) (D : Nat) (f : Addr) (vs : List Value) (news : List (Addr × Obj)) (Post : List (Addr × Obj) → Prop) : Prop :=
  ∀ (loose : List Str) (mean : ExcName → Option Value) (mg mb : Str → Option Value)
    (dp un : Nat) (gd : Option (List Code)) (cn : Str) (cs : Scope) (a : Addr) (ccd : Value) (cl : List (Str × Addr)) (outer : List Env) (A₀ : Around) (base h₀ : Heap) (L : Addr) (m : Str → Option Value) (s : Shared) (Q E : Value → Shared → Prop),
    Below A₀ base outer h₀ → Fr h₀ L s.heap m → (hd.heap_1 w.params).In h₀ → News h₀ L s.heap news → Top topProg loose mean mg mb h₀ → cs.kind = .function → dp + D < recursionLimit → un + 8 * D < cLine →
    (∀ e h' tk' g₂ news', Post news' → Fr h₀ L g₂ m → RaisedM base g₂ (envX cn cs L a ccd cl :: outer) e (.ref 51) news' h' → g₂.UpToSlots h' → E (.ref e) { s with heap := h', toks := tk' }) →
    wpAny (model Challenge.rw_nu0135_01.row.prog w) (ktrTop dp un gd cn cs L a ccd cl outer) (call (.ref f) vs) Q E s
section
variable {w : World} {D : Nat} {f : Addr} {vs : List Value} {news : List (Addr × Obj)} {Post : List (Addr × Obj) → Prop}
  {loose : List Str} {mean : ExcName → Option Value} {mg mb : Str → Option Value}
  {dp un : Nat} {gd : Option (List Code)} {cn : Str} {cs : Scope} {a : Addr} {ccd : Value} {cl : List (Str × Addr)} {outer : List Env} {A₀ : Around} {base h₀ : Heap} {L : Addr} {m : Str → Option Value} {s : Shared} {Q E : Value → Shared → Prop}
theorem specRP_use (C : SpecRP w D f vs news Post) (B : Below A₀ base outer h₀) (F : Fr h₀ L s.heap m) (X : (hd.heap_1 w.params).In h₀) (N : News h₀ L s.heap news) (T : Top topProg loose mean mg mb h₀) (hk : cs.kind = .function) (hd : dp + D < recursionLimit) (hu : un + 8 * D < cLine)
    (ret : ∀ e h' tk' g₂ news', Post news' → Fr h₀ L g₂ m → RaisedM base g₂ (envX cn cs L a ccd cl :: outer) e (.ref 51) news' h' → g₂.UpToSlots h' → E (.ref e) { s with heap := h', toks := tk' }) :
    wpAny (model Challenge.rw_nu0135_01.row.prog w) (ktrTop dp un gd cn cs L a ccd cl outer) (call (.ref f) vs) Q E s := C _ _ _ _ _ _ _ _ _ _ _ _ _ _ _ _ _ _ _ _ _ B F X N T hk hd hu ret
end
section
theorem lay143 : True := by
  k_with "my callWith ref" => (((with_reducible rename Sec 12005 => sc'); (k_here; k_dflt (refine callWith_F0 (by exact FnAt.of (by k_asm) (by k_mem)) ?_; k_whole; try dsimp only [List.nil_append, List.cons_append]))))
  k_with "my call ref" => (((with_reducible rename Sec 12005 => sc'); (k_here; k_dflt (refine specRP_use (by with_reducible assumption) (by k_asm) (by k_asm) (by k_asm) (by k_asm) (by k_asm) (by first | exact rfl | assumption) (by ktr_room) (by ktr_units) ?_; k_whole); intro e' h' tk' g' nw' hP' F' R' U'; (try dsimp only); (try k_fold))))
  k_with "my noteFrame ref" => (((with_reducible rename Sec 12005 => sc'); (k_here; k_dflt (refine caught_M (by assumption) (by assumption) (by assumption) (by assumption) (by assumption) (by assumption) (by k_is) (by decide +kernel) ?_); intro h' g' T1' F' N' B')))
  exact True.intro
theorem refused_P {w : World} {D : Nat} {f : Addr} {news : List (Addr × Obj)} {Post : List (Addr × Obj) → Prop}
    {loose : List Str} {mean : ExcName → Option Value} {mg mb : Str → Option Value}
    {dp un : Nat} {gd : Option (List Code)} {cn : Str} {cs : Scope} {a : Addr} {ccd : Value} {cl : List (Str × Addr)} {outer : List Env} {A₀ : Around} {base h₀ : Heap} {L : Addr} {m : Str → Option Value} {s : Shared} {Q E : Value → Shared → Prop}
    (B : Below A₀ base outer h₀) (F : Fr h₀ L s.heap m) (X : (hd.heap_1 w.params).In h₀) (N : News h₀ L s.heap news) (T : Top topProg loose mean mg mb h₀) (XB : (hd.heap_1 w.params).In base) (TB : Top topProg loose mean mg mb base) (hD : KtsDicts (outer.filterMap (·.frame)) h₀)
    (hk : cs.kind = .function) (hd : dp + (D + 4) < recursionLimit) (hu : un + 8 * (D + 4) < cLine)
    {fd : FuncData} {fc : Value} {fo : Option Addr} {fs : Array (Option Value)} (hfn : (f, (⟨fc, fo, .func fd, fs⟩ : Obj)) ∈ news) (C : SpecRP w D f [] news Post)
    (ret : ∀ h' tk' h₀' news', Post news' → KtsTurn (outer.filterMap (·.frame)) h₀ h₀' → Fr h₀' L h' m → News h₀' L h' news' → Below A₀ base outer h₀' → KtsDicts (outer.filterMap (·.frame)) h₀' → Q (.bool true) { s with heap := h', toks := tk' }) :
    wpAny (model Challenge.rw_nu0135_01.row.prog w) (ktrTop dp un gd cn cs L a ccd cl outer) (call (.ref 506) [.ref f]) Q E s := by
  have sc' := sec 12005
  k_extra "my enterT"
  k_steps
  dsimp only
  k_unfold
  dsimp only
  refine' leaveT_ ?a ?b ?c (fun h₀' ht F0 N0 B0 D0 => ret _ _ _ _ (by assumption) ht F0 N0 B0 D0)
  case a => assumption
  case b => assumption
  case c => assumption
end
theorem refused_same {w : World} {D : Nat} {f : Addr} {news : List (Addr × Obj)}
    {loose : List Str} {mean : ExcName → Option Value} {mg mb : Str → Option Value}
    {dp un : Nat} {gd : Option (List Code)} {cn : Str} {cs : Scope} {a : Addr} {ccd : Value} {cl : List (Str × Addr)} {outer : List Env} {A₀ : Around} {base h₀ : Heap} {L : Addr} {m : Str → Option Value} {s : Shared} {Q E : Value → Shared → Prop}
    (B : Below A₀ base outer h₀) (F : Fr h₀ L s.heap m) (X : (hd.heap_1 w.params).In h₀) (N : News h₀ L s.heap news) (T : Top topProg loose mean mg mb h₀) (XB : (hd.heap_1 w.params).In base) (TB : Top topProg loose mean mg mb base) (hD : KtsDicts (outer.filterMap (·.frame)) h₀)
    (hk : cs.kind = .function) (hd : dp + (D + 4) < recursionLimit) (hu : un + 8 * (D + 4) < cLine)
    {fd : FuncData} {fc : Value} {fo : Option Addr} {fs : Array (Option Value)} (hfn : (f, (⟨fc, fo, .func fd, fs⟩ : Obj)) ∈ news) (C : SpecRP w D f [] news (fun n => n = news))
    (ret : ∀ h' tk' h₀', KtsTurn (outer.filterMap (·.frame)) h₀ h₀' → Fr h₀' L h' m → News h₀' L h' news → Below A₀ base outer h₀' → KtsDicts (outer.filterMap (·.frame)) h₀' → Q (.bool true) { s with heap := h', toks := tk' }) :
    wpAny (model Challenge.rw_nu0135_01.row.prog w) (ktrTop dp un gd cn cs L a ccd cl outer) (call (.ref 506) [.ref f]) Q E s :=
  refused_P B F X N T XB TB hD hk hd hu hfn C fun h' tk' h₀' n' e => by subst e; exact ret h' tk' h₀'

-- P21: contracts of defs that refuse; _law_message_right
/-- facts of order are taken from the ledger when they are asked for -/
theorem lt_at {d a : Addr} {o : Obj} {news : List (Addr × Obj)} (h : ∀ p ∈ news, @LT.lt Nat _ p.1 d) (hm : (a, o) ∈ news) : @LT.lt Nat _ a d := h _ hm
theorem lt_at2 {d x a : Addr} {o : Obj} {news : List (Addr × Obj)} (l : @LT.lt Nat _ d x) (h : ∀ p ∈ news, @LT.lt Nat _ p.1 d) (hm : (a, o) ∈ news) : @LT.lt Nat _ a x := Nat.lt_trans (h _ hm) l
theorem ltS0 {a : Addr} : @LT.lt Nat _ a (a + 1) := Nat.lt_succ_self a
theorem ltS {a b : Addr} (h : @LT.lt Nat _ a b) : @LT.lt Nat _ a (b + 1) := Nat.lt_succ_of_lt h
local macro_rules | `(tactic| k_lt $h:ident) => `(tactic| skip)
theorem lay146 : True := by
  k_with "my lt" => (first | with_reducible assumption | exact lt_at (by with_reducible assumption) (by k_mem) | exact lt_at2 (by with_reducible assumption) (by with_reducible assumption) (by k_mem) | ((with_reducible show @LT.lt Nat _ _ (@HAdd.hAdd Nat Nat Nat _ _ _)); first | with_reducible exact ltS0 | (with_reducible apply ltS; k_extra "my lt")) | fail "lt")
  k_with "my ne" => (((try dsimp only); first | exact neLt (by k_extra "my lt") | exact neGt (by k_extra "my lt") | fail "k_ne"))
  k_with "my all" => (first | with_reducible assumption | exact ne_of_allLt (by with_reducible assumption))
  exact True.intro
/-- a call that comes back, in whose callees a try may have caught -/
def SpecT (w : World) (D : Nat) (f : Addr) (vs : List Value) (news : List (Addr × Obj)) (Ret : Value → List (Addr × Obj) → Prop) : Prop :=
  ∀ (loose : List Str) (mean : ExcName → Option Value) (mg mb : Str → Option Value)
    (dp un : Nat) (gd : Option (List Code)) (cn : Str) (cs : Scope) (a : Addr) (ccd : Value) (cl : List (Str × Addr)) (outer : List Env) (A₀ : Around) (base h₀ : Heap) (L : Addr) (m : Str → Option Value) (s : Shared) (Q E : Value → Shared → Prop),
    Below A₀ base outer h₀ → Fr h₀ L s.heap m → (hd.heap_1 w.params).In h₀ → News h₀ L s.heap news → Top topProg loose mean mg mb h₀ → (hd.heap_1 w.params).In base → Top topProg loose mean mg mb base → KtsDicts (outer.filterMap (·.frame)) h₀ →
    cs.kind = .function → dp + D < recursionLimit → un + 8 * D < cLine →
    (∀ r news' h' tk' h₀', Ret r news' → KtsTurn (outer.filterMap (·.frame)) h₀ h₀' → Fr h₀' L h' m → News h₀' L h' news' → Below A₀ base outer h₀' → KtsDicts (outer.filterMap (·.frame)) h₀' → Q r { s with heap := h', toks := tk' }) →
    wpAny (model Challenge.rw_nu0135_01.row.prog w) (ktrTop dp un gd cn cs L a ccd cl outer) (call (.ref f) vs) Q E s
/-- what such a def gives back: True; the source and the table are turned, the tail has grown -/
def RightRet (src P : Addr) (q : Str) (cs tail : List (Addr × Obj)) (v : Value) (n' : List (Addr × Obj)) : Prop :=
  v = .bool true ∧ ∃ a' b' ta' tb' ps' cs' tail', SrcOk a' b' ∧ LamTab q ps' cs' ∧ Grown src cs cs' tail tail' ∧ n' = (src, srcO a' b' ta' tb') :: (P, tabObj ps') :: tail'
theorem tail_off {tail tail' news : List (Addr × Obj)} {a : Addr} {o : Obj} (h : ∀ p ∈ tail', p ∈ tail ∨ ∀ q ∈ news, @LT.lt Nat _ q.1 p.1) (ht : ∀ p ∈ tail, p.1 ≠ a) (hm : (a, o) ∈ news) : ∀ p ∈ tail', p.1 ≠ a := fun p hp => by
  rcases h p hp with hp | hp
  · exact ht p hp
  · exact Nat.ne_of_gt (hp _ hm)
theorem up_ne {x y : Addr × Obj} {tail : List (Addr × Obj)} {L a : Addr} (h : ∀ p ∈ x :: y :: tail, @LT.lt Nat _ p.1 L) (ha : @LE.le Nat _ L a) : ∀ p ∈ tail, p.1 ≠ a := fun p hp => Nat.ne_of_lt (Nat.lt_of_lt_of_le (h p (List.mem_cons_of_mem _ (List.mem_cons_of_mem _ hp))) ha)
theorem ne_Bs {prog : Program} {w : World} {A : Around} {E : Value → Shared → Prop} {s : Shared} {a : List Int} {t u : Tok} {Q : Value → Shared → Prop} (h : Q (.bool false) s) : wpAny (model prog w) A (compareOp .NotEq (.bytes (byteArr a) t) (.bytes (byteArr a) u)) Q E s :=
  ne_bytes (by rw [bne_self_eq_false]; exact h)
theorem pow2_any {prog : Program} {w : World} {A : Around} {E : Value → Shared → Prop} {s : Shared} {t u : Tok} {i : Int} {Q : Value → Shared → Prop} (h0 : 0 ≤ i) (h1 : i < 8) (h : Q (.int (2 ^ i.toNat) s.toks) { s with toks := s.toks + 1 }) : wpAny (model prog w) A (binaryOp .Pow (.int 2 t) (.int i u)) Q E s :=
  pow_int_small h0 (by omega) (by decide) h
theorem xor_flip {prog : Program} {w : World} {A : Around} {E : Value → Shared → Prop} {s : Shared} {t u : Tok} {v : Int} {k : Nat} {Q : Value → Shared → Prop} (h0 : 0 ≤ v) (h1 : v < 256) (hk : k < 8) (h : 0 ≤ flipBit v k → flipBit v k < 256 → Q (.int (flipBit v k) s.toks) { s with toks := s.toks + 1 }) : wpAny (model prog w) A (binaryOp .BitXor (.int v t) (.int (2 ^ k) u)) Q E s :=
  xor_int (h (flip_is h0 h1 hk).1 (flip_is h0 h1 hk).2.1)
theorem lay149 : True := by
  k_with "my compareOp NotEq bytes bytes" => ((k_here; (with_reducible refine ne_Bs ?_)))
  k_with "my binaryOp Pow int int" => ((k_here; (with_reducible refine pow2_any (by omega) (by omega) ?_)))
  k_with "my binaryOp BitXor int int" => ((k_here; (with_reducible refine xor_flip (by assumption) (by assumption) (by omega) ?_); intro fLo' fHi'))
  k_with "my enterCT" => ((refine wpAny_call ?_; k_dflt (refine code_defCT (by k_asm) (by k_asm) (by k_asm) (by k_asm) (by k_asm) (by assumption) (by exact rfl) (by exact rfl) (by assumption) (by k_is) (by k_is) (by ktr_room) (by first | exact BindsTo.of_eq rfl | exact binds_K (by k_in) rfl (by k_is) rfl rfl rfl) (by exact rfl) (by decide +kernel) ?_ (by exact rfl) (by exact rfl) (by exact rfl); k_whole; intro g' L' h' tk' cells' FG' F' N' Y' B' X' T' D' l1; (have u1' := up_ne (a := L' + 1 ) l1 (Nat.le_add_right _ 1)); (have u2' := up_ne (a := L' + 1 + 1 ) l1 (Nat.le_add_right _ 2)); (have u3' := up_ne (a := L' + 1 + 1 + 1 ) l1 (Nat.le_add_right _ 3)); (have u4' := up_ne (a := L' + 1 + 1 + 1 + 1 ) l1 (Nat.le_add_right _ 4)); (have u5' := up_ne (a := L' + 1 + 1 + 1 + 1 + 1 ) l1 (Nat.le_add_right _ 5)); (have u6' := up_ne (a := L' + 1 + 1 + 1 + 1 + 1 + 1 ) l1 (Nat.le_add_right _ 6)); (try k_lt l1); k_cells Y'; (try simp only [List.cons_append, List.nil_append] at N'); (try dsimp only); (try k_fold))))
  k_with "my updT" => (first | (refine UpdT.here (by with_reducible assumption)) | (refine UpdT.there (by k_ne) (by k_extra "my updT")))
  k_with "my eval Lambda" => ((k_here; k_dflt (refine lam_make (by k_asm) (by k_asm) (by k_asm) (by assumption) (by exact rfl) (by k_extra "my updT") (by assumption) (by assumption) (by exact rfl) (by exact rfl) (by exact rfl) ?_; k_whole); intro f' c' oc' vs' t' ct' ps' cs' tl' h' tk' F' N' G' s1' s2' s3' m1' d1' v1' l1; (try dsimp only at N'); (try dsimp only at l1); (try k_lt l1)))
  k_with "my enterL" => ((refine wpAny_call ?_; k_dflt (refine kla_code (by k_asm) (by k_asm) (by k_asm) (by k_asm) (by k_asm) (by exact rfl) (by exact rfl) (by assumption) (by k_mem) (by exact codeRec_news (by k_asm) (by k_mem) (by assumption) (by assumption)) (by ktr_room) (by exact rfl) (by exact locs rfl) ?_ (by exact rfl) (by exact rfl) (by exact rfl) (by decide); k_whole; intro g' L' h' FG' F' N' B' X' T'; (try dsimp only); (try k_fold))))
  k_with "my refused_body" => ((unfold SpecRP; intro loose mean mg mb dp un gd cn cs a' ccd cl outer A₀ base h₀ L m s Q E B F X N T hk hd hu hret; k_extra "my enterL"; k_steps; all_goals (refine hret _ _ _ _ _ rfl ?_ (raisedM_drop (by assumption) (by intro p hp; k_ownIn)) ?_ <;> assumption)))
  k_with "my refused" => ((refine stop_out ?_; k_dflt (refine refused_same (D := 50) (by k_asm) (by k_asm) (by k_asm) (by k_asm) (by k_asm) (by with_reducible assumption) (by with_reducible assumption) (by with_reducible assumption) (by exact rfl) (by ktr_room) (by ktr_units) (by exact List.mem_cons_self ..) (by k_extra "my refused_body") ?_; k_whole); intro h' tk' h₀' T1' F' N' B' D'; (have X' := Frag.In.keeps (by with_reducible assumption) (Below.stays B')); (have T' := Top.keeps (by with_reducible assumption) (Below.stays B')); (try dsimp only); (try k_fold)))
  k_with "my right_end" => (((with_reducible rename News _ _ _ (_ :: _) => Nz); refine' leaveT_ (news' := (_, srcO _ _ _ _) :: (_, tabObj _) :: _) ?zzA ?zzB ?zzC ?zzD; (case zzB => k_asm); (case zzC => first | exact News.drop 3 Nz | exact News.drop 4 Nz | exact News.drop 5 Nz | exact News.drop 6 Nz | exact News.drop 7 Nz | exact News.drop 8 Nz | exact News.drop 9 Nz | exact News.drop 10 Nz | exact News.drop 11 Nz | exact News.drop 12 Nz | exact News.drop 13 Nz | exact News.drop 14 Nz | exact News.drop 15 Nz | exact News.drop 16 Nz | exact News.drop 17 Nz | exact News.drop 18 Nz | exact News.drop 19 Nz | exact News.drop 20 Nz | exact News.drop 21 Nz | exact News.drop 22 Nz | exact News.drop 23 Nz | exact News.drop 24 Nz); (case zzA => first | exact KtsTurn.trans (by assumption) (by assumption) | exact KtsTurn.trans (by assumption) (KtsTurn.trans (by assumption) (by assumption)))); intro h₀' kT kF kN kB kD)
  k_with "my call ref" => (k_here; (with_reducible show wpAny _ _ (call (Value.ref 207) _) _ _ _); k_dflt (refine specR_use (by k_asm) (by k_asm) (by k_asm) (by k_asm) (by k_asm) (by first | exact rfl | assumption) (by ktr_room) (by ktr_units) (unpack_icmp_bad _ _ (by first | with_reducible assumption | decide | k_extra "my b_siz") (by first | with_reducible assumption | decide | k_extra "my b_siz") (by k_extra "my b_in") (by first | with_reducible assumption | assumption)) ?_); intro e' h' tk' g' F' R' U'; (try dsimp only); (try k_fold))
  k_with "my call ref" => (k_here; (with_reducible show wpAny _ _ (call (Value.ref 207) _) _ _ _); k_dflt (refine specR_use (by k_asm) (by k_asm) (by k_asm) (by k_asm) (by k_asm) (by first | exact rfl | assumption) (by ktr_room) (by ktr_units) (unpack_icmp_short _ _ (by first | with_reducible assumption | decide | k_extra "my b_siz")) ?_); intro e' h' tk' g' F' R' U'; (try dsimp only); (try k_fold))
  exact True.intro
theorem spoilt_le {X : List Int} {i j N : Nat} {f : Int} (hX : X.length ≤ 28) (hN : 57 ≤ N) : (X.take i ++ [f] ++ X.drop j).length ≤ N := by
  rw [List.length_append, List.length_append, List.length_take, List.length_drop]
  exact Nat.le_trans (Nat.add_le_add (Nat.succ_le_succ (Nat.le_trans (Nat.min_le_right _ _) hX)) (Nat.le_trans (Nat.sub_le _ _) hX)) hN
theorem spoilt_le2 {X : List Int} {i j N : Nat} {f : Int} (hX : X.length ≤ 28) (hN : 57 ≤ N) : (X.take i ++ [f]).length + (X.drop j).length ≤ N := by
  rw [← List.length_append]; exact spoilt_le hX hN
theorem spoilt_le3 {X : List Int} {i N : Nat} {f : Int} (hX : X.length ≤ 28) (hN : 57 ≤ N) : (X.take i).length + [f].length ≤ N := by
  rw [List.length_take]
  exact Nat.le_trans (Nat.succ_le_succ (Nat.le_trans (Nat.min_le_right _ _) hX)) (Nat.le_trans (by decide) hN)
theorem spoilt_ge {X : List Int} {d : Int} {f : Int} (hd : 0 ≤ d) (hX : 8 ≤ X.length) : 8 ≤ (X.take (d / 8).toNat ++ [f] ++ X.drop (d / 8 + 1).toNat).length := by
  have h0 : 0 ≤ d / 8 := Int.ediv_nonneg hd (by decide)
  generalize d / 8 = q at h0 ⊢
  rw [toNat_s1 h0, List.length_append, List.length_append, List.length_take, List.length_drop]
  show 8 ≤ min q.toNat X.length + 1 + (X.length - (q.toNat + 1))
  rcases Nat.le_total q.toNat X.length with h | h
  · rw [Nat.min_eq_left h]; omega
  · rw [Nat.min_eq_right h]; omega
section
theorem lay159 : True := by
  k_with "my b_lit" => (((with_reducible rename Sec 12101 => sc'); first | with_reducible exact spoilt_le (by with_reducible assumption) (by decide) | with_reducible exact spoilt_ge (by with_reducible assumption) (by with_reducible assumption) | with_reducible exact spoilt_le2 (by with_reducible assumption) (by decide) | with_reducible exact spoilt_le3 (by with_reducible assumption) (by decide)))
  k_with "my call ref" => (((with_reducible rename Sec 12101 => sc'); (k_here; (with_reducible show wpAny _ _ (call (Value.ref 506) _) _ _ _); refine stop_in ?_)))
  k_with "my exec Return some" => (((with_reducible rename Sec 12101 => sc'); (k_here; (with_reducible show wpAny _ _ (exec (Stmt.Return (some (Expr.BoolOp _ _ _)) _) _) _ _ _); (with_reducible rename News _ _ _ _ => N9'); replace N9' := News.drop 5 N9'; dsimp only [List.drop] at N9'; refine wpAny_Return_some ?_)))
  exact True.intro
abbrev q513 : Str := Str.ofString "_law_message_right.<locals>.<lambda>"
theorem message_right_spec {w : World} {src x d : Addr} {q : MD} {k c r : Int} {p : List Int} {tk tc tr tp ta tb : Tok} {a b : Int} {ps : Array Value} {tail codes : List (Addr × Obj)}
    (hx : (x, instObj 175 d) ∈ tail) (hd' : (d, dictOf (msgDict q (.int k tk) (.int c tc) (.int r tr) (.bytes (byteArr p) tp)) 4) ∈ tail)
    (h0 : 0 ≤ k) (h1 : k < 256) (h2 : 0 ≤ c) (h3 : c < 256) (h4 : 0 ≤ r) (h5 : r < 4294967296) (hp : KBa.In p) (hl : p.length ≤ 20)
    (ok : SrcOk a b) (G : LamTab q513 ps codes) (hcs : ∀ p ∈ codes, p ∈ tail) (hs : @LT.lt Nat _ 508 src) (hs1 : ∀ p ∈ tail, p.1 ≠ src) (hs2 : ∀ p ∈ tail, p.1 ≠ 508) :
    SpecT w 70 513 [.ref src, .ref x] ((src, srcO a b ta tb) :: (508, tabObj ps) :: tail) (RightRet src 508 q513 codes tail) := by
  have ob : KBa.In (msgOct k c r p) := msgOct_in h0 h1 h2 h3 hp
  have bad : ∀ j : Int, j < 8 * ((msgOct k c r p).length : Int) → 0 ≤ j → cfold (wsum ((msgOct k c r p).take (j / 8).toNat ++ [flipBit ((msgOct k c r p).getD (j / 8).toNat 0) (j % 8).toNat] ++ (msgOct k c r p).drop (j / 8 + 1).toNat)) ≠ 65535 := fun j h1' h0' => by
    rw [toNat_s1 (Int.ediv_nonneg h0' (by decide))]
    exact spoilt_sum ob (by omega) (by omega) (msgOct_sum h0 h1 h2 h3 hp)
  have oL : (msgOct k c r p).length ≤ 28 := by rw [msgOct_len]; exact Nat.add_le_add_left hl 8
  have oG : 8 ≤ (msgOct k c r p).length := by rw [msgOct_len]; exact Nat.le_add_right ..
  unfold SpecT
  intro loose mean mg mb dp un gd cn cs a' ccd cl outer A₀ base h₀ L m s Q E B F X N T XB TB D hk hd hu hret
  have sc' := sec 12101
  k_extra "my enterCT"
  have C508 := codeHd_of_K (c := 512) (P := 508) (by assumption) (by kernel_rfl)
  k_steps
  · exfalso; omega
  have bd := bad _ (by assumption) (by assumption)
  clear bad
  k_extra "my refused"
  have C508 := codeHd_of_K (c := 512) (P := 508) (by assumption) (by kernel_rfl)
  have s5 := tail_off (a := 508) (by assumption) hs2 (by k_mem)
  k_steps
  k_extra "my refused"
  k_steps
  k_extra "my right_end"
  exact hret _ _ _ _ _ ⟨rfl, _, _, _, _, _, _, _, by assumption, by assumption, Grown.trans (grown_of (by assumption) (by k_mem)) (grown_of (by assumption) (by k_mem)), rfl⟩ (by assumption) (by assumption) (by assumption) (by assumption) (by assumption)
end

-- P22: ways joined; _law_echo_right
/-- what a joined piece of the walk gives: one value, the frame and the ledger as they were -/
def CutPost {α : Type} (h₀ : Heap) (L : Addr) (m : Str → Option Value) (news : List (Addr × Obj)) (s : Shared) (r0 : α) (r : α) (s' : Shared) : Prop :=
  r = r0 ∧ ∃ h' tk', s' = { s with heap := h', toks := tk' } ∧ Fr h₀ L h' m ∧ News h₀ L h' news
theorem cut_val {α : Type} {M : Model} {A : Around} {E : Value → Shared → Prop} {s : Shared} {h₀ : Heap} {L : Addr} {m : Str → Option Value} {news : List (Addr × Obj)} {x : Sem α} {Q : α → Shared → Prop} (r0 : α)
    (_F : Fr h₀ L s.heap m) (_N : News h₀ L s.heap news) (h1 : wpAny M A x (CutPost h₀ L m news s r0) E s) (h2 : ∀ h' tk', Fr h₀ L h' m → News h₀ L h' news → Q r0 { s with heap := h', toks := tk' }) : wpAny M A x Q E s :=
  wpAny_mono h1 (fun r s' h => by obtain ⟨rfl, h', tk', rfl, F', N'⟩ := h; exact h2 h' tk' F' N') fun _ _ e => e
theorem cut_end {α : Type} {h₀ : Heap} {L : Addr} {m : Str → Option Value} {news : List (Addr × Obj)} {s : Shared} {r0 r : α} {h' : Heap} {tk' : Nat} (e : r = r0) (F : Fr h₀ L h' m) (N : News h₀ L h' news) : CutPost h₀ L m news s r0 r { s with heap := h', toks := tk' } := ⟨e, h', tk', rfl, F, N⟩
def Marker : Prop := True
theorem marker : Marker := True.intro
theorem an0 {v : HF} {k : Int} {b : Bool} (h : k ≠ 8) : answers v k b = false := by unfold answers; rw [decide_eq_false h]; rfl
theorem an1 {v : HF} {k : Int} {b : Bool} (h : b = true) : answers v k b = false := by unfold answers; rw [h]; cases decide (k = 8) <;> rfl
theorem an2 {v : HF} {k : Int} {b : Bool} (h : 3758096384 ≤ v.tgt) : answers v k b = false := by unfold answers; rw [show isGroup v.tgt = true from decide_eq_true h]; cases decide (k = 8) <;> cases b <;> rfl
theorem an4 {v : HF} {b : Bool} (h : b = false) (h2 : ¬ 3758096384 ≤ v.tgt) : oneHost v.src = answers v 8 b := by unfold answers; rw [h, show isGroup v.tgt = false from decide_eq_false h2]; rfl
theorem an5 {v : HF} {k : Int} {b : Bool} (h : b = true) : (!b) = answers v k b := by rw [an1 h, h]; rfl
theorem an6 {v : HF} {k : Int} {b : Bool} (h : ¬ v.tgt / 16777216 < 224) : decide (v.tgt / 16777216 < 224) = answers v k b := by rw [an2 (by omega), decide_eq_false h]
theorem lay167 : True := by
  k_with "my call ref" => (k_here; (with_reducible show wpAny _ _ (call (Value.ref 221) _) _ _ _); k_dflt (refine specR_use (by k_asm) (by k_asm) (by k_asm) (by k_asm) (by k_asm) (by first | exact rfl | assumption) (by ktr_room) (by ktr_units) (echo_message_big _ _ _ _) ?_); intro e' h' tk' g' F' R' U'; (try dsimp only); (try k_fold))
  exact True.intro
section
theorem lay164 : True := by
  k_with "my call ref" => (((with_reducible rename Sec 12201 => sc'); (k_here; (with_reducible show wpAny _ _ (call (Value.ref 506) _) _ _ _); refine stop_in ?_)))
  k_with "my eval BoolOp" => (((with_reducible rename Sec 12201 => sc'); (k_here; (fail_if_success (with_reducible rename Marker => mk)); refine stop_in ?_)))
  k_with "my isTrue BoolOp" => (((with_reducible rename Sec 12201 => sc'); (k_here; (fail_if_success (with_reducible rename Marker => mk)); refine stop_in ?_)))
  exact True.intro
abbrev q541 : Str := Str.ofString "_law_echo_right.<locals>.<lambda>"
theorem echo_right_spec {w : World} {src x d : Addr} {q : HD} {v : HF} {u : HT} {ta tb : Tok} {a b : Int} {all : Bool} {ps : Array Value} {tail codes : List (Addr × Obj)}
    (hx : (x, instObj 274 d) ∈ tail) (hd' : (d, dictOf (hdrOf q v u) 10) ∈ tail) (g0 : 0 ≤ v.tgt)
    (ok : SrcOk a b) (G : LamTab q541 ps codes) (hcs : ∀ p ∈ codes, p ∈ tail) (hs : @LT.lt Nat _ 536 src) (hs1 : ∀ p ∈ tail, p.1 ≠ src) (hs2 : ∀ p ∈ tail, p.1 ≠ 536) :
    SpecT w 70 541 [.ref src, .ref x, .bool all] ((src, srcO a b ta tb) :: (536, tabObj ps) :: tail) (RightRet src 536 q541 codes tail) := by
  unfold SpecT
  intro loose mean mg mb dp un gd cn cs a' ccd cl outer A₀ base h₀ L m s Q E B F X N T XB TB D hk hd hu hret
  have hB : answers v 0 all = false := an0 (by decide)
  have sc' := sec 12201
  k_extra "my enterCT"
  have C536 := codeHd_of_K (c := 540) (P := 536) (by assumption) (by kernel_rfl)
  k_steps
  refine stop_out ?_
  (with_reducible rename News _ _ _ _ => N4)
  replace N4 := News.drop 2 N4
  dsimp only [List.drop] at N4
  refine cut_val (Value.bool (answers v 8 all)) (by k_asm) (by k_asm) ?_ ?_
  · have mk := marker
    k_steps
    all_goals (refine cut_end (congrArg Value.bool ?_) (by k_asm) (cb_drop (by k_asm) (by intro p hp; k_ownIn)))
    · exact an5 (by assumption)
    · exact an4 (by assumption) (by omega)
    · exact an6 (by assumption)
  intro h5 tk5 F5 N5
  k_steps
  refine stop_out ?_
  refine cut_val false (by k_asm) (by k_asm) ?_ ?_
  · have mk := marker
    rcases Bool.eq_false_or_eq_true (answers v 8 all) with hA | hA
    all_goals ((with_reducible rename Fr _ _ _ _ => Fz); rw [hA] at Fz)
    all_goals k_steps
    all_goals (refine cut_end rfl (by rw [hA]; k_asm) (cb_drop (by k_asm) (by intro p hp; k_ownIn)))
  intro h6 tk6 F6 N6
  replace N6 := News.skip2 5 N6
  dsimp only [List.drop] at N6
  k_steps
  refine stop_out ?_
  have mk := marker
  k_steps
  k_extra "my refused"
  have C536 := codeHd_of_K (c := 540) (P := 536) (by assumption) (by kernel_rfl)
  have s5 := tail_off (a := 536) (by assumption) hs2 (by k_mem)
  k_steps
  k_extra "my refused"
  k_steps
  k_extra "my right_end"
  exact hret _ _ _ _ _ ⟨rfl, _, _, _, _, _, _, _, by assumption, by assumption, Grown.trans (grown_of (by assumption) (by k_mem)) (grown_of (by assumption) (by k_mem)), rfl⟩ (by assumption) (by assumption) (by assumption) (by assumption) (by assumption)
end

-- P23: _law_pool: a new source of draws
theorem pool_ok (c y : Int) (b : Bool) : SrcOk ((if -1 - c > c then -1 - c else c) * (if b = true then 1 else 0)) (y % 2147483647) := by
  refine ⟨Int.mul_nonneg (by split <;> omega) (by split <;> omega), Int.emod_nonneg _ (by decide), Int.emod_lt_of_pos _ (by decide)⟩
/-- the first statements of the pool: one cell, an int, is read -/
def CellPost (h₀ : Heap) (L : Addr) (m : Str → Option Value) (x : Str) (news : List (Addr × Obj)) (s : Shared) (f : Flow) (s' : Shared) : Prop :=
  ∃ c t h' tk', f = .next ∧ s' = { s with heap := h', toks := tk' } ∧ Fr h₀ L h' (fun y => if y = x then some (.int c t) else m y) ∧ News h₀ L h' news
theorem cell_cut {M : Model} {A : Around} {E : Value → Shared → Prop} {s : Shared} {h₀ : Heap} {L : Addr} {m : Str → Option Value} {x : Str} {v : Option Value} {news : List (Addr × Obj)} {p : Sem Flow} {Q : Flow → Shared → Prop}
    (_F : Fr h₀ L s.heap (fun y => if y = x then v else m y)) (_N : News h₀ L s.heap news) (h1 : wpAny M A p (CellPost h₀ L m x news s) E s)
    (h2 : ∀ c t h' tk', Fr h₀ L h' (fun y => if y = x then some (.int c t) else m y) → News h₀ L h' news → Q .next { s with heap := h', toks := tk' }) : wpAny M A p Q E s :=
  wpAny_mono h1 (fun r s' h => by obtain ⟨c, t, h', tk', rfl, rfl, F', N'⟩ := h; exact h2 c t h' tk' F' N') fun _ _ e => e
theorem cell_end {h₀ : Heap} {L : Addr} {m : Str → Option Value} {x : Str} {news : List (Addr × Obj)} {s : Shared} {c : Int} {t : Tok} {h' : Heap} {tk' : Nat} (F : Fr h₀ L h' (fun y => if y = x then some (.int c t) else m y)) (N : News h₀ L h' news) : CellPost h₀ L m x news s .next { s with heap := h', toks := tk' } :=
  ⟨c, t, h', tk', rfl, rfl, F, N⟩
theorem fr_over {h₀ : Heap} {L : Addr} {m : Str → Option Value} {x : Str} {a b : Option Value} {h' : Heap} (F : Fr h₀ L h' (fun y => if y = x then a else if y = x then b else m y)) : Fr h₀ L h' (fun y => if y = x then a else m y) := by
  have e : (fun y => if y = x then a else if y = x then b else m y) = fun y => if y = x then a else m y := by
    funext y
    by_cases h : y = x
    · rw [if_pos h, if_pos h]
    · rw [if_neg h, if_neg h, if_neg h]
  rw [← e]; exact F
section
theorem lay168 : True := by
  k_with "my exec If" => (((with_reducible rename Sec 12301 => sc'); (k_here; (fail_if_success (with_reducible rename Marker => mk)); refine stop_in ?_)))
  exact True.intro
theorem pool_spec {w : World} {l : Addr} {vs : List Value} {ns : List Int} {k : Int} {tk : Tok} {news : List (Addr × Obj)} (hi : IntsAre vs ns) (hn : ns.length ≤ 63) (hk0 : 0 ≤ k) (hk1 : k < 3)
    {loose : List Str} {mean : ExcName → Option Value} {mg mb : Str → Option Value}
    {dp un : Nat} {gd : Option (List Code)} {cn : Str} {cs : Scope} {a : Addr} {ccd : Value} {cl : List (Str × Addr)} {outer : List Env} {A₀ : Around} {base h₀ : Heap} {L : Addr} {m : Str → Option Value} {s : Shared} {Q E : Value → Shared → Prop}
    (B : Below A₀ base outer h₀) (F : Fr h₀ L s.heap m) (X : (hd.heap_1 w.params).In h₀) (N : News h₀ L s.heap news) (T : Top topProg loose mean mg mb h₀) (hl : h₀.IsList l vs.toArray) (hk : cs.kind = .function) (hd : dp + 20 < recursionLimit) (hu : un + 8 * 20 < cLine)
    (hret : ∀ r news' h' tk', (∃ x a b ta tb, r = .ref x ∧ news' = (x, srcO a b ta tb) :: news ∧ SrcOk a b ∧ (∀ p ∈ news, p.1 < x)) → Fr h₀ L h' m → News h₀ L h' news' → Q r { s with heap := h', toks := tk' }) :
    wpAny (model Challenge.rw_nu0135_01.row.prog w) (ktrTop dp un gd cn cs L a ccd cl outer) (call (.ref 426) [.ref l, .int k tk]) Q E s := by
  have sc' := sec 12301
  have hlen := hi.length
  k_extra "my enter"
  have hl5 := Fr.lst (by assumption : Fr h₀ L _ m) hl
  k_steps
  refine stop_out ?_
  refine cell_cut (by k_asm) (by k_asm) ?_ ?_
  · have mk := marker
    k_steps
    · exact cell_end (fr_over (by k_asm)) (by k_asm)
    · exact cell_end (by k_asm) (by k_asm)
  intro c t h5 tk5 F5 N5
  k_steps
  all_goals exact hret _ _ _ _ ⟨_, _, _, _, _, rfl, rfl, pool_ok _ _ _, by assumption⟩ (by k_asm) (by k_asm)
theorem pool_use {w : World} {l : Addr} {vs : List Value} {ns : List Int} {k : Int} {tk : Tok} {news : List (Addr × Obj)} (hi : IntsAre vs ns) (hn : ns.length ≤ 63) (hk0 : 0 ≤ k) (hk1 : k < 3)
    {loose : List Str} {mean : ExcName → Option Value} {mg mb : Str → Option Value}
    {dp un : Nat} {gd : Option (List Code)} {cn : Str} {cs : Scope} {a : Addr} {ccd : Value} {cl : List (Str × Addr)} {outer : List Env} {A₀ : Around} {base h₀ : Heap} {L : Addr} {m : Str → Option Value} {s : Shared} {Q E : Value → Shared → Prop}
    (B : Below A₀ base outer h₀) (F : Fr h₀ L s.heap m) (X : (hd.heap_1 w.params).In h₀) (N : News h₀ L s.heap news) (T : Top topProg loose mean mg mb h₀) (hl : h₀.IsList l vs.toArray) (hk : cs.kind = .function) (hd : dp + 20 < recursionLimit) (hu : un + 8 * 20 < cLine)
    (hret : ∀ x a b ta tb h' tk', SrcOk a b → (∀ p ∈ news, @LT.lt Nat _ p.1 x) → Fr h₀ L h' m → News h₀ L h' ((x, srcO a b ta tb) :: news) → Q (.ref x) { s with heap := h', toks := tk' }) :
    wpAny (model Challenge.rw_nu0135_01.row.prog w) (ktrTop dp un gd cn cs L a ccd cl outer) (call (.ref 426) [.ref l, .int k tk]) Q E s :=
  pool_spec hi hn hk0 hk1 B F X N T hl hk hd hu fun r n' h' tk' R F' N' => by
    obtain ⟨x, a, b, ta, tb, rfl, rfl, ok, lt⟩ := R
    exact hret x a b ta tb h' tk' ok lt F' N'
end

-- P24: _law_budget_right: the budget's law, then the walk
/-- what holds between the budget's object (lb, since) and the law's own count (left, waited) at the moment now -/
structure Bud (most every lb since now left waited : Int) : Prop where
  r : refilled most every lb since now = (left, now - waited)
  w0 : 0 ≤ waited
  w1 : waited < every
  l0 : 0 ≤ left
  l1 : left ≤ most
  lw : left = most → waited = 0
  b1 : lb ≤ most
  sn : since ≤ now
theorem bud_start {most every : Int} (h : 0 < most) (h2 : 0 < every) : Bud most every most 0 0 most 0 :=
  ⟨by unfold refilled; rw [if_pos rfl]; rfl, by omega, h2, by omega, by omega, fun _ => rfl, by omega, by omega⟩
/-- a tick -/
theorem bud_tick {most every lb since now left waited : Int} (he : 0 < every) (B : Bud most every lb since now left waited) :
    Bud most every lb since (now + 1) (if (if left < most then waited + 1 else 0) = every then left + 1 else left) (if (if left < most then waited + 1 else 0) = every then 0 else (if left < most then waited + 1 else 0)) := by
  obtain ⟨r, w0, w1, l0, l1, lw, b1, sn⟩ := B
  unfold refilled at r
  by_cases h1 : lb = most
  · rw [if_pos h1] at r
    injection r with e1 e2
    rw [if_neg (show ¬ left < most by omega)]
    rw [if_neg (show ¬ (0 : Int) = every by omega), if_neg (show ¬ (0 : Int) = every by omega)]
    exact ⟨by unfold refilled; rw [if_pos h1, e1]; congr 1; omega, by omega, by omega, by omega, by omega, fun _ => rfl, b1, by omega⟩
  · rw [if_neg h1] at r
    -- the quotient by its two bounds
    have q1 := Int.mul_ediv_add_emod (now - since) every
    have q2 := Int.emod_nonneg (now - since) (show every ≠ 0 by omega)
    have q3 := Int.emod_lt_of_pos (now - since) he
    have p1 := Int.mul_ediv_add_emod (now + 1 - since) every
    have p2 := Int.emod_nonneg (now + 1 - since) (show every ≠ 0 by omega)
    have p3 := Int.emod_lt_of_pos (now + 1 - since) he
    have hstep : ((now + 1 - since) / every = (now - since) / every ∧ (now - since) % every + 1 < every) ∨ ((now + 1 - since) / every = (now - since) / every + 1 ∧ (now - since) % every + 1 = every) := by
      rcases Int.lt_or_le ((now - since) % every + 1) every with h | h
      · left
        refine ⟨?_, h⟩
        rw [show now + 1 - since = (now - since) % every + 1 + every * ((now - since) / every) by omega, Int.add_mul_ediv_left _ _ (show every ≠ 0 by omega), Int.ediv_eq_zero_of_lt (by omega) h]
        omega
      · right
        have h' : (now - since) % every + 1 = every := by omega
        refine ⟨?_, h'⟩
        rw [show now + 1 - since = every + every * ((now - since) / every) by omega, Int.add_mul_ediv_left _ _ (show every ≠ 0 by omega), Int.ediv_self (show every ≠ 0 by omega)]
        omega
    by_cases h2 : most ≤ lb + (now - since) / every
    · rw [if_pos h2] at r
      injection r with e1 e2
      rw [if_neg (show ¬ left < most by omega)]
      rw [if_neg (show ¬ (0 : Int) = every by omega), if_neg (show ¬ (0 : Int) = every by omega)]
      refine ⟨?_, by omega, by omega, by omega, by omega, fun _ => rfl, b1, by omega⟩
      unfold refilled
      rw [if_neg h1, if_pos (by omega), e1]
      congr 1; omega
    · rw [if_neg h2] at r
      injection r with e1 e2
      rw [if_pos (show left < most by omega)]
      have m1 : (now - since) / every * every = every * ((now - since) / every) := Int.mul_comm _ _
      rcases hstep with ⟨s1, s2⟩ | ⟨s1, s2⟩
      · rw [if_neg (show ¬ waited + 1 = every by omega), if_neg (show ¬ waited + 1 = every by omega)]
        refine ⟨?_, by omega, by omega, by omega, by omega, by omega, b1, by omega⟩
        unfold refilled
        rw [if_neg h1, s1, if_neg h2, e1]
        congr 1; omega
      · rw [if_pos (show waited + 1 = every by omega), if_pos (show waited + 1 = every by omega)]
        refine ⟨?_, by omega, by omega, by omega, by omega, by omega, b1, by omega⟩
        unfold refilled
        rw [if_neg h1, s1]
        have m2 : ((now - since) / every + 1) * every = every * ((now - since) / every) + every := by rw [Int.add_mul, m1, Int.one_mul]
        by_cases h3 : most ≤ lb + ((now - since) / every + 1)
        · rw [if_pos h3]
          congr 1 <;> omega
        · rw [if_neg h3, m2]
          congr 1 <;> omega
/-- an error is asked for -/
theorem bud_take {most every lb since now left waited l' s' : Int} (he : 0 < every) (B : Bud most every lb since now left waited) (h : (l', s') = refilled most every lb since now) :
    l' = left ∧ s' = now - waited ∧ (left = 0 → 0 < most → Bud most every l' s' now left waited) ∧ (left ≠ 0 → Bud most every (l' - 1) s' now (left - 1) waited) := by
  obtain ⟨r, w0, w1, l0, l1, lw, b1, sn⟩ := B
  rw [r] at h
  injection h with e1 e2
  subst e1 e2
  have d0 : (now - (now - waited)) / every = 0 := Int.ediv_eq_zero_of_lt (by omega) (by omega)
  refine ⟨rfl, rfl, fun h hm => ⟨?_, w0, w1, l0, l1, lw, l1, by omega⟩, fun h => ⟨?_, w0, w1, by omega, by omega, by omega, by omega, by omega⟩⟩
  · unfold refilled
    rw [if_neg (by omega), d0, if_neg (by omega)]
    congr 1 <;> omega
  · unfold refilled
    rw [if_neg (by omega), d0, if_neg (by omega)]
    congr 1 <;> omega

-- P25: _law_budget_right: the walk
theorem take_use {w : World} {x dx : Addr} {q : MD} {most every left since now : Int} {tm te tl ts tn : Tok} {nw : List (Addr × Obj)} {g : Obj → List (Addr × Obj)}
  {loose : List Str} {mean : ExcName → Option Value} {mg mb : Str → Option Value}
  {dp un : Nat} {gd : Option (List Code)} {cn : Str} {cs : Scope} {a : Addr} {ccd : Value} {cl : List (Str × Addr)} {outer : List Env} {A₀ : Around} {base h₀ : Heap} {L : Addr} {m : Str → Option Value} {s : Shared} {Q E : Value → Shared → Prop}
    (B : Below A₀ base outer h₀) (F : Fr h₀ L s.heap m) (X : (hd.heap_1 w.params).In h₀) (N : News h₀ L s.heap nw) (T : Top topProg loose mean mg mb h₀) (hk : cs.kind = .function) (hd : dp + 20 < recursionLimit) (hu : un + 8 * 20 < cLine)
    (hx : (x, instObj 415 dx) ∈ nw) (U : UpdF dx (dictOf (budDict q (.int most tm) (.int every te) (.int left tl) (.int since ts)) 4) nw g) (hxd : @Ne Nat x dx) (h1 : 0 < every) (h2 : every < 1000000) (h3 : left ≤ most) (h4 : since ≤ now)
    (ret : ∀ l' s' h' tk' tl' ts', (l', s') = refilled most every left since now → Fr h₀ L h' m →
      (l' = 0 → News h₀ L h' (g (dictOf (budDict q (.int most tm) (.int every te) (.int l' tl') (.int s' ts')) 4)) → Q (.bool false) { s with heap := h', toks := tk' }) ∧
      (l' ≠ 0 → News h₀ L h' (g (dictOf (budDict q (.int most tm) (.int every te) (.int (l' - 1) tl') (.int s' ts')) 4)) → Q (.bool true) { s with heap := h', toks := tk' })) :
    wpAny (model Challenge.rw_nu0135_01.row.prog w) (ktrTop dp un gd cn cs L a ccd cl outer) (call (.ref 412) [.ref x, .int now tn]) Q E s := by
  obtain ⟨pre, post, rfl, hg, e1, e2⟩ := U.split
  have hr : ∀ p ∈ pre ++ post, p.1 ≠ dx := fun p hp => (List.mem_append.mp hp).elim (e1 p) (e2 p)
  refine spec_use B F X (fun p hp => N p ?_) T hk hd hu (take_spec (w := w) (q := q) (tm := tm) (te := te) (tl := tl) (ts := ts) (tn := tn) (rest := pre ++ post) hr hxd h1 h2 h3 h4) fun r n' h' tk' R F' N' => ?_
  · rcases List.mem_cons.mp hp with rfl | hp
    · exact hx
    · rcases List.mem_cons.mp hp with rfl | hp
      · exact List.mem_append_right _ (List.mem_cons_self ..)
      · rcases List.mem_append.mp hp with hp | hp
        · exact List.mem_append_left _ hp
        · exact List.mem_append_right _ (List.mem_cons_of_mem _ hp)
  · have back : ∀ o n1, n1 = (x, instObj 415 dx) :: (dx, o) :: (pre ++ post) → News h₀ L h' n1 → News h₀ L h' (g o) := fun o n1 e N1 p hp => by
      subst e
      rw [hg] at hp
      refine N1 p (List.mem_cons_of_mem _ ?_)
      rcases List.mem_append.mp hp with hp | hp
      · exact List.mem_cons_of_mem _ (List.mem_append_left _ hp)
      · rcases List.mem_cons.mp hp with rfl | hp
        · exact List.mem_cons_self ..
        · exact List.mem_cons_of_mem _ (List.mem_append_right _ hp)
    obtain ⟨l', s', e, ⟨hz, rfl, tl', ts', en⟩ | ⟨hz, rfl, tl', ts', en⟩⟩ := R
    · exact (ret l' s' h' tk' tl' ts' e F').1 hz (back _ _ en N')
    · exact (ret l' s' h' tk' tl' ts' e F').2 hz (back _ _ en N')
abbrev sN : Str := Str.ofString "now"
abbrev sL : Str := Str.ofString "left"
abbrev sW : Str := Str.ofString "waited"
abbrev sT : Str := Str.ofString "turn"
abbrev sK : Str := Str.ofString "tick"
abbrev sD : Str := Str.ofString "due"
abbrev bMap (v1 v2 v3 : Option Value) (u m₀ : Str → Option Value) : Str → Option Value := fun z => if z = sN then v1 else if z = sL then v2 else if z = sW then v3 else if z = sT then u z else if z = sK then u z else if z = sD then u z else m₀ z
theorem bMap_of {m m₀ : Str → Option Value} {v1 v2 v3 : Option Value} (h1 : m sN = v1) (h2 : m sL = v2) (h3 : m sW = v3) (ho : ∀ z, z ≠ sN → z ≠ sL → z ≠ sW → z ≠ sT → z ≠ sK → z ≠ sD → m z = m₀ z) : m = bMap v1 v2 v3 m m₀ := by
  funext z
  unfold bMap
  by_cases e1 : z = sN
  · rw [if_pos e1, e1, h1]
  rw [if_neg e1]
  by_cases e2 : z = sL
  · rw [if_pos e2, e2, h2]
  rw [if_neg e2]
  by_cases e3 : z = sW
  · rw [if_pos e3, e3, h3]
  rw [if_neg e3]
  by_cases e4 : z = sT
  · rw [if_pos e4]
  rw [if_neg e4]
  by_cases e5 : z = sK
  · rw [if_pos e5]
  rw [if_neg e5]
  by_cases e6 : z = sD
  · rw [if_pos e6]
  rw [if_neg e6]
  exact ho z e1 e2 e3 e4 e5 e6
theorem News.tick {h₀ h : Heap} {L : Addr} {p0 p1 : Addr × Obj} {rest : List (Addr × Obj)} (N : News h₀ L h (p0 :: p1 :: rest)) : News h₀ L h (p1 :: rest) := fun p hp => N p (List.mem_cons_of_mem _ hp)
theorem News.bud {h₀ h : Heap} {L : Addr} {p0 p1 p2 p3 p4 : Addr × Obj} {rest : List (Addr × Obj)} (N : News h₀ L h (p0 :: p1 :: p2 :: p3 :: p4 :: rest)) : News h₀ L h (p1 :: p2 :: p4 :: rest) := fun p hp => N p (by
  rcases List.mem_cons.mp hp with rfl | hp
  · exact List.mem_cons_of_mem _ (List.mem_cons_self ..)
  · rcases List.mem_cons.mp hp with rfl | hp
    · exact List.mem_cons_of_mem _ (List.mem_cons_of_mem _ (List.mem_cons_self ..))
    · exact List.mem_cons_of_mem _ (List.mem_cons_of_mem _ (List.mem_cons_of_mem _ (List.mem_cons_of_mem _ hp))))
abbrev budLed (x dx : Addr) (q : MD) (most every lb since : Int) (tm te tl ts : Tok) (src : Addr) (a b : Int) (ta tb : Tok) (rest : List (Addr × Obj)) : List (Addr × Obj) :=
  (x, instObj 415 dx) :: (dx, dictOf (budDict q (.int most tm) (.int every te) (.int lb tl) (.int since ts)) 4) :: (src, srcO a b ta tb) :: rest
def Same6 (m m₀ : Str → Option Value) : Prop := ∀ z, z ≠ sN → z ≠ sL → z ≠ sW → z ≠ sT → z ≠ sK → z ≠ sD → m z = m₀ z
theorem same6_bMap (v1 v2 v3 : Option Value) (u m₀ : Str → Option Value) : Same6 (bMap v1 v2 v3 u m₀) m₀ := fun z h1 h2 h3 h4 h5 h6 => by
  unfold bMap
  rw [if_neg h1, if_neg h2, if_neg h3, if_neg h4, if_neg h5, if_neg h6]
def six (x : Str) : Bool := x == sN || x == sL || x == sW || x == sT || x == sK || x == sD
theorem same6_set {x : Str} {v : Option Value} {m m₀ : Str → Option Value} (hx : six x = true) (S : Same6 m m₀) : Same6 (fun y => if y = x then v else m y) m₀ := fun z h1 h2 h3 h4 h5 h6 => by
  have hz : z ≠ x := by
    rintro rfl
    unfold six at hx
    simp [h1, h2, h3, h4, h5, h6] at hx
  show (if z = x then v else m z) = m₀ z
  rw [if_neg hz]
  exact S z h1 h2 h3 h4 h5 h6
def BJ2 (most every lb since : Int) (nx0 : List (Addr × Obj)) (m₀ m : Str → Option Value) (nx : List (Addr × Obj)) : Prop :=
  ∃ now left waited tn tl tw, Bud most every lb since now left waited ∧ m sN = some (.int now tn) ∧ m sL = some (.int left tl) ∧ m sW = some (.int waited tw) ∧ Same6 m m₀ ∧ nx = nx0
def BJ (most every : Int) (x dx : Addr) (q : MD) (tm te : Tok) (src : Addr) (rest : List (Addr × Obj)) (m₀ m : Str → Option Value) (nx : List (Addr × Obj)) : Prop :=
  ∃ now left waited lb since a b tn tl tw tlb tsn ta tb, Bud most every lb since now left waited ∧ SrcOk a b ∧ m sN = some (.int now tn) ∧ m sL = some (.int left tl) ∧ m sW = some (.int waited tw) ∧ Same6 m m₀ ∧ nx = budLed x dx q most every lb since tm te tlb tsn src a b ta tb rest
theorem BJ2.intro' {most every lb since now left waited : Int} {nx0 : List (Addr × Obj)} {m₀ m : Str → Option Value} {tn tl tw : Tok} (h : Bud most every lb since now left waited) (h2 : m sN = some (.int now tn)) (h3 : m sL = some (.int left tl)) (h4 : m sW = some (.int waited tw)) (h5 : Same6 m m₀) : BJ2 most every lb since nx0 m₀ m nx0 :=
  ⟨_, _, _, _, _, _, h, h2, h3, h4, h5, rfl⟩
theorem BJ.intro' {most every now left waited lb since a b : Int} {x dx src : Addr} {q : MD} {tm te tn tl tw tlb tsn ta tb : Tok} {rest : List (Addr × Obj)} {m₀ m : Str → Option Value} (h : Bud most every lb since now left waited) (ok : SrcOk a b) (h2 : m sN = some (.int now tn)) (h3 : m sL = some (.int left tl)) (h4 : m sW = some (.int waited tw)) (h5 : Same6 m m₀) :
    BJ most every x dx q tm te src rest m₀ m (budLed x dx q most every lb since tm te tlb tsn src a b ta tb rest) :=
  ⟨_, _, _, _, _, _, _, _, _, _, _, _, _, _, h, ok, h2, h3, h4, h5, rfl⟩
section
variable {prog : Program} {w : World} {A : Around} {E : Value → Shared → Prop} {s : Shared} {env : Env} {h₀ : Heap} {body : List Stmt} {Q : Flow → Shared → Prop}
theorem allLt_neT {d : Addr} {l : List (Addr × Obj)} (h : AllLt d l) : ∀ p ∈ l, p.1 ≠ d := fun p hp => Nat.ne_of_lt (tb_ltOf h p hp)
theorem bud_no {most every l s now w : Int} (hz : l = 0) (hm : 0 < most) (k1 : l = 0 → 0 < most → Bud most every l s now l w) : Bud most every l s now (l - if decide (0 < l) = true then 1 else 0) w := by
  have := k1 hz hm
  subst hz
  simpa using this
theorem bud_yes {most every l s now w : Int} (hz : l ≠ 0) (h0 : 0 ≤ l) (k2 : l ≠ 0 → Bud most every (l - 1) s now (l - 1) w) : Bud most every (l - 1) s now (l - if decide (0 < l) = true then 1 else 0) w := by
  rw [if_pos (decide_eq_true (by omega))]
  exact k2 hz
theorem off_bud {x dx src I : Addr} {q : MD} {most every lb since a b : Int} {tm te tl ts ta tb : Tok} {rest : List (Addr × Obj)} (i1 : @LT.lt Nat _ x I) (i2 : @LT.lt Nat _ dx I) (i3 : @LT.lt Nat _ src I) (i4 : ∀ p ∈ rest, @LT.lt Nat _ p.1 I) : ∀ p ∈ budLed x dx q most every lb since tm te tl ts src a b ta tb rest, p.1 ≠ I := fun p hp => by
  rcases List.mem_cons.mp hp with rfl | hp
  · exact Nat.ne_of_lt i1
  · rcases List.mem_cons.mp hp with rfl | hp
    · exact Nat.ne_of_lt i2
    · rcases List.mem_cons.mp hp with rfl | hp
      · exact Nat.ne_of_lt i3
      · exact Nat.ne_of_lt (i4 p hp)
theorem same6_step {v1 v2 v3 : Option Value} {u m₁ m₀ : Str → Option Value} (S : Same6 m₁ m₀) : Same6 (bMap v1 v2 v3 u m₁) m₀ := fun z h1 h2 h3 h4 h5 h6 => (same6_bMap v1 v2 v3 u m₁ z h1 h2 h3 h4 h5 h6).trans (S z h1 h2 h3 h4 h5 h6)
theorem tick_in {d : Int} (h : d ∈ [0, 0, 1, 2, 3, 9]) : 0 ≤ d ∧ d < 1000 := (by decide : ∀ d ∈ ([0, 0, 1, 2, 3, 9] : List Int), 0 ≤ d ∧ d < 1000) d h
theorem budget_inner {r : Addr} {b₀ : Int} {t₀ u₀ v₀ tn tl tw : Tok} {m₀ : Str → Option Value} {nx0 : List (Addr × Obj)} {most every lb since now left waited : Int}
    (hh : A.handled = none) (hr : IsRange s.heap r 0 b₀ 1 t₀ u₀ v₀) (hb : 0 ≤ b₀) (hb2 : b₀ < 1000) (F : Fr h₀ env.locals s.heap m₀) (N : News h₀ env.locals s.heap nx0) (v1 : m₀ sN = some (.int now tn)) (v2 : m₀ sL = some (.int left tl)) (v3 : m₀ sW = some (.int waited tw)) (B : Bud most every lb since now left waited)
    (turn : ∀ I : Addr, (∀ p ∈ nx0, p.1 < I) → ∀ (i : Nat) t now left waited tn tl tw u h tk o, Bud most every lb since now left waited → Fr h₀ env.locals h (fun y => if y = sK then some (.int (0 + (i : Int) * 1) t) else bMap (some (.int now tn)) (some (.int left tl)) (some (.int waited tw)) u m₀ y) → News h₀ env.locals h ((I, o) :: nx0) →
      wpAny (model prog w) A (execs body env) (LPost h₀ env.locals I o (BJ2 most every lb since nx0 m₀) { s with heap := h, toks := tk } Q) E { s with heap := h, toks := tk })
    (done : ∀ now left waited tn tl tw u h tk, Bud most every lb since now left waited → Fr h₀ env.locals h (bMap (some (.int now tn)) (some (.int left tl)) (some (.int waited tw)) u m₀) → News h₀ env.locals h nx0 → Q .next { s with heap := h, toks := tk }) :
    wpAny (model prog w) A (pyIter (.ref r)) (fun it s₂ => LoopAtV prog w A h₀ env sK body Q E it s₂) E s := by
  refine iter_rangeJ b₀.toNat (fun _ => BJ2 most every lb since nx0 m₀) hh hr (small_up (by decide) (by decide) (by omega) (by omega) (by decide) (by decide)) (size_one (by omega)) F N ⟨_, _, _, _, _, _, B, v1, v2, v3, fun _ _ _ _ _ _ _ => rfl, rfl⟩ ?_ ?_
  · rintro I hI i t m₁ nx h tk o hin ⟨now, left, waited, tn, tl, tw, B, e1, e2, e3, e4, rfl⟩ _ F₁ N₁
    rw [bMap_of e1 e2 e3 e4] at F₁
    exact turn I hI i t now left waited tn tl tw m₁ h tk o B F₁ N₁
  · rintro m₁ nx h tk ⟨now, left, waited, tn, tl, tw, B, e1, e2, e3, e4, rfl⟩ F₁ N₁
    rw [bMap_of e1 e2 e3 e4] at F₁
    exact done now left waited tn tl tw m₁ h tk B F₁ N₁
theorem budget_outer {r x dx src : Addr} {b₀ : Int} {t₀ u₀ v₀ tn tl tw tm te tlb tsn ta tb : Tok} (n : Nat) {m₀ : Str → Option Value} {q : MD} {rest : List (Addr × Obj)} {most every lb since now left waited a b : Int}
    (hh : A.handled = none) (hr : IsRange s.heap r 0 b₀ 1 t₀ u₀ v₀) (hb : b₀ = (n : Int)) (hb2 : b₀ < 1000) (F : Fr h₀ env.locals s.heap m₀) (N : News h₀ env.locals s.heap (budLed x dx q most every lb since tm te tlb tsn src a b ta tb rest)) (v1 : m₀ sN = some (.int now tn)) (v2 : m₀ sL = some (.int left tl)) (v3 : m₀ sW = some (.int waited tw)) (B : Bud most every lb since now left waited) (ok : SrcOk a b)
    (turn : ∀ I : Addr, @LT.lt Nat _ x I → @LT.lt Nat _ dx I → @LT.lt Nat _ src I → (∀ p ∈ rest, @LT.lt Nat _ p.1 I) → ∀ (i : Nat) t now left waited lb since a b tn tl tw tlb tsn ta tb u h tk o, Bud most every lb since now left waited → SrcOk a b →
      Fr h₀ env.locals h (fun y => if y = sT then some (.int (0 + (i : Int) * 1) t) else bMap (some (.int now tn)) (some (.int left tl)) (some (.int waited tw)) u m₀ y) → News h₀ env.locals h ((I, o) :: budLed x dx q most every lb since tm te tlb tsn src a b ta tb rest) →
      wpAny (model prog w) A (execs body env) (LPost h₀ env.locals I o (BJ most every x dx q tm te src rest m₀) { s with heap := h, toks := tk } Q) E { s with heap := h, toks := tk })
    (done : ∀ lb since a b tlb tsn ta tb m₁ h tk, SrcOk a b → Fr h₀ env.locals h m₁ → News h₀ env.locals h (budLed x dx q most every lb since tm te tlb tsn src a b ta tb rest) → Q .next { s with heap := h, toks := tk }) :
    wpAny (model prog w) A (pyIter (.ref r)) (fun it s₂ => LoopAtV prog w A h₀ env sT body Q E it s₂) E s := by
  refine iter_rangeJ n (fun _ => BJ most every x dx q tm te src rest m₀) hh hr (small_up (by decide) (by decide) (by omega) (by omega) (by decide) (by decide)) (size_one hb) F N ⟨_, _, _, _, _, _, _, _, _, _, _, _, _, _, B, ok, v1, v2, v3, fun _ _ _ _ _ _ _ => rfl, rfl⟩ ?_ ?_
  · rintro I hI i t m₁ nx h tk o hin ⟨now, left, waited, lb, since, a, b, tn, tl, tw, tlb, tsn, ta, tb, B, ok, e1, e2, e3, e4, rfl⟩ _ F₁ N₁
    rw [bMap_of e1 e2 e3 e4] at F₁
    exact turn I (hI _ (List.mem_cons_self ..)) (hI _ (List.mem_cons_of_mem _ (List.mem_cons_self ..))) (hI _ (List.mem_cons_of_mem _ (List.mem_cons_of_mem _ (List.mem_cons_self ..)))) (fun p hp => hI p (List.mem_cons_of_mem _ (List.mem_cons_of_mem _ (List.mem_cons_of_mem _ hp)))) i t now left waited lb since a b tn tl tw tlb tsn ta tb m₁ h tk o B ok F₁ N₁
  · rintro m₁ nx h tk ⟨now, left, waited, lb, since, a, b, tn, tl, tw, tlb, tsn, ta, tb, B, ok, e1, e2, e3, e4, rfl⟩ F₁ N₁
    exact done lb since a b tlb tsn ta tb m₁ h tk ok F₁ N₁
end
theorem bud_tick1 {most every lb since now left waited : Int} (he : 0 < every) (B : Bud most every lb since now left waited) (h1 : left < most) (h2 : waited + 1 = every) : Bud most every lb since (now + 1) (left + 1) 0 := by
  have := bud_tick he B; rw [if_pos h1, if_pos h2, if_pos h2] at this; exact this
theorem bud_tick2 {most every lb since now left waited : Int} (he : 0 < every) (B : Bud most every lb since now left waited) (h1 : left < most) (h2 : ¬ waited + 1 = every) : Bud most every lb since (now + 1) left (waited + 1) := by
  have := bud_tick he B; rw [if_pos h1, if_neg h2, if_neg h2] at this; exact this
theorem bud_tick3 {most every lb since now left waited : Int} (he : 0 < every) (B : Bud most every lb since now left waited) (h1 : ¬ left < most) : Bud most every lb since (now + 1) left 0 := by
  have := bud_tick he B; rw [if_neg h1, if_neg (by omega), if_neg (by omega)] at this; exact this
theorem lay172 : True := by
  k_with "my call ref" => (k_here; (with_reducible show wpAny _ _ (call (Value.ref 415) _) _ _ _); k_dflt (refine spec_use (by k_asm) (by k_asm) (by k_asm) (by k_asm) (by k_asm) (by first | exact rfl | assumption) (by ktr_room) (by ktr_units) (new_budget_spec _ _ _ _) ?_); intro r' n' h' tk' R' F' N'; (obtain ⟨xb', db', qb', tlb', tsb', e1', e2', l1', l2'⟩ := R'; subst e1'; subst e2'; (have l3' := allLt_of l1'); (repeat replace l3' := allLt_tl l3'); (have obd' := allLt_neT l3'); clear l3'); (try dsimp only); (try k_sweep); (try k_fold))
  exact True.intro
section
theorem lay169 : True := by
  k_with "my call ref" => (((with_reducible rename Sec 12503 => sc'); (k_here; (with_reducible show wpAny _ _ (call (Value.ref 412) _) _ _ _); refine stop_in ?_)))
  k_with "my pyIter ref" => (((with_reducible rename Sec 12503 => sc'); (k_here; (with_reducible show wpAny _ _ (pyIter (Value.ref _)) (fun it s₂ => LoopAtV _ _ _ _ _ _ _ _ _ it s₂) _ _); refine stop_in ?_)))
  k_with "my exec For Name Call cons nil" => (((with_reducible rename Sec 12503 => sc'); (k_here; (rename Fr _ _ _ _ => lF'); (with_unfolding_all refine For_invVF lF' (by exact rfl) (by exact rfl) ?_; k_whole))))
  exact True.intro
theorem budget_right_draws {w : World} (src : Addr) : Draws w 50 548 [.ref src] src [] (fun r own => own = [] ∧ r = .bool true) := by
  intro a b ta tb rest ok hne _
  unfold Spec
  intro loose mean mg mb dp un gd cn cs a' ccd cl outer A₀ base h₀ L m s Q E B F X N T hk hd hu hret
  have sc' := sec 12503
  k_extra "my enter"
  k_steps
  refine stop_out ?_
  (rename Fr _ _ _ _ => F'); (rename News _ _ _ _ => N'); (rename IsRange _ _ _ _ _ _ _ _ => R')
  with_unfolding_all refine budget_outer 6 (by rfl) R' (by decide) (by decide) F' (News.bud N') (by rfl) (by rfl) (by rfl) (bud_start (by omega) (by omega)) (by assumption) ?turn ?done
  case done =>
    intro lb since a b tlb tsn ta tb m₁ h tk ok F5 N5
    k_steps
    k_extra "my drawn"
    exact ⟨rfl, rfl⟩
  case turn =>
    clear F' N' R'
    intro I i1 i2 i3 i4 i t now left waited lb since a b tn tl tw tlb tsn ta tb u h tk o B5 ok F5 N5
    have w0 := B5.w0
    have w1 := B5.w1
    have l0 := B5.l0
    have l1 := B5.l1
    have b1 := B5.b1
    have sn := B5.sn
    k_steps
    refine stop_out ?_
    (rename Fr _ _ _ _ => F'); (rename News _ _ _ _ => N'); (rename IsRange _ _ _ _ _ _ _ _ => R')
    have tk5 := tick_in (by assumption)
    with_unfolding_all refine budget_inner (by rfl) R' tk5.1 tk5.2 F' N' (by rfl) (by rfl) (by rfl) B5 ?turn2 ?done2
    case turn2 =>
      clear F' N' R' B5 w0 w1 l0 l1
      intro I2 j1 i2 t2 now left waited tn tl tw u2 h2 tk2 o2 B5 F5 N5
      have w0 := B5.w0
      have w1 := B5.w1
      have l0 := B5.l0
      have l1 := B5.l1
      have j0 := ne_of_lts j1
      k_lt j1
      k_steps
      · refine lpost_next _ (by k_asm) (News.tick (by k_asm)) j0 (BJ2.intro' (bud_tick1 (by omega) B5 (by assumption) (by omega)) (by with_unfolding_all rfl) (by with_unfolding_all rfl) (by with_unfolding_all rfl) ?_)
        repeat (first | exact same6_bMap _ _ _ _ _ | refine same6_set rfl ?_)
      · refine lpost_next _ (by k_asm) (by k_asm) j0 (BJ2.intro' (bud_tick2 (by omega) B5 (by assumption) (by omega)) (by with_unfolding_all rfl) (by with_unfolding_all rfl) (by with_unfolding_all rfl) ?_)
        repeat (first | exact same6_bMap _ _ _ _ _ | refine same6_set rfl ?_)
      · exfalso; omega
      · refine lpost_next _ (by k_asm) (by k_asm) j0 (BJ2.intro' (bud_tick3 (by omega) B5 (by assumption)) (by with_unfolding_all rfl) (by with_unfolding_all rfl) (by with_unfolding_all rfl) ?_)
        repeat (first | exact same6_bMap _ _ _ _ _ | refine same6_set rfl ?_)
    case done2 =>
      clear F' N' R' B5 w0 w1 l0 l1
      intro now left waited tn tl tw u2 h2 tk2 B5 F5 N5
      have w0 := B5.w0
      have w1 := B5.w1
      have l0 := B5.l0
      have l1 := B5.l1
      have sn := B5.sn
      k_steps
      refine stop_out ?_
      k_dflt (refine take_use (by k_asm) (by k_asm) (by k_asm) (by k_asm) (by k_asm) (by exact rfl) (by ktr_room) (by ktr_units) (by k_mem) (by k_updF) (by k_ne) (by omega) (by omega) b1 sn (fun l' s' h5 tk5 tl5 ts5 e5 F6 => ⟨fun hz N6 => ?_, fun hz N6 => ?_⟩))
      all_goals obtain ⟨rfl, rfl, k1, k2⟩ := bud_take (by omega) B5 e5
      all_goals (clear F5 N5)
      · (try dsimp only at N6)
        k_steps
        · exact absurd (by assumption : (false != decide (0 < l')) = true) (by rw [hz]; decide)
        · refine lpost_next _ (by k_asm) (by k_asm) (off_bud i1 i2 i3 i4) (BJ.intro' (bud_no hz (by omega) k1) (by assumption) (by with_unfolding_all rfl) (by with_unfolding_all rfl) (by with_unfolding_all rfl) ?_)
          repeat (first | exact same6_bMap _ _ _ _ _ | refine same6_step ?_ | refine same6_set rfl ?_)
      · (try dsimp only at N6)
        k_steps
        · exact absurd (by assumption : (true != decide (0 < l')) = true) (by rw [decide_eq_true (by omega)]; decide)
        · refine lpost_next _ (by k_asm) (by k_asm) (off_bud i1 i2 i3 i4) (BJ.intro' (bud_yes hz l0 k2) (by assumption) (by with_unfolding_all rfl) (by with_unfolding_all rfl) (by with_unfolding_all rfl) ?_)
          repeat (first | exact same6_bMap _ _ _ _ _ | refine same6_step ?_ | refine same6_set rfl ?_)
end

-- P26: _law_error_right
theorem one_intsP {w : World} {src l : Addr} {vs : List Value} {n : Nat} (P : Int → Prop) (ns : List Int) (hP : ∀ d ∈ ns, P d) (hn : 0 < ns.length) (hn' : ns.length < 1000) (hi : IntsAre vs ns) : Draws w 14 440 [.ref src, .ref l] src [(l, listOf vs.toArray n)] (RetOf Value.int P) :=
  Draws.weaken (one_ints hi hn hn') fun _ _ p => by
    obtain ⟨e, d, t, h1, h2⟩ := p
    exact ⟨e, d, t, h1, hP d h2⟩
abbrev due8 (v : HF) (p : List Int) : List Int := hOct v (20 + v.opt.length + p.length) ++ p.take (Int.toNat 8)
theorem due8_in {v : HF} {p : List Int} (ok : HdrOk v) (hp : KBa.In p) : KBa.In (due8 v p) := in_app (hOct_in ok _) (in_take hp)
theorem ite_pos_toNat (k : Nat) : (if (k : Int) > 0 then (k : Int) else 0).toNat = k := by
  cases k with
  | zero => rfl
  | succ k => rw [if_pos (Int.natCast_pos.mpr (Nat.succ_pos k))]; exact Int.toNat_natCast _
theorem first4 {n : Nat} (h : n ≤ 8) (h4 : n % 4 = 0) : (64 + (20 + (n : Int)) / 4) % 16 * 4 = 20 + n ∧ (64 + (20 + (n : Int)) / 4) / 16 = 4 :=
  (by decide : ∀ n : Fin 9, n.val % 4 = 0 → (64 + (20 + (n.val : Int)) / 4) % 16 * 4 = 20 + n.val ∧ (64 + (20 + (n.val : Int)) / 4) / 16 = 4) ⟨n, Nat.lt_succ_of_le h⟩ h4
theorem due8_le {v : HF} {p : List Int} (h : v.opt.length ≤ 8) : (due8 v p).length ≤ 36 := by
  rw [show (due8 v p).length = 20 + v.opt.length + min 8 p.length from due_len v p]
  exact Nat.add_le_add (Nat.add_le_add_left h 20) (Nat.min_le_left _ _)
section
variable {w : World} {news : List (Addr × Obj)} {x d hx' hd : Addr} {q : MD} {qh : HD} {v : HF} {u : HT} {k c r : Int} {p : List Int} {tk tc tr tp t t2 : Tok} {b : Bool}
theorem error_own_spec (kk cc rr : Int) (ta tb td : Tok) (hk8 : isErr kk = true) (hh : (hx', instObj 274 hd) ∈ news) (hhd : (hd, dictOf (hdrOf qh v u) 10) ∈ news) (ok : HdrOk v) (hp : KBa.In p) (hl : p.length < 1000) :
    Spec w 36 363 [.int kk ta, .int cc tb, .ref hx', .bytes (byteArr p) t, .int rr td] news (RetMsg news (fun _ => .int kk ta) (fun _ => .int cc tb) (fun _ => .int rr td) (fun t => .bytes (byteArr (due8 v p)) t)) := by
  have C := error_message_spec (w := w) (t := t) kk cc rr ta tb td hk8 hh hhd ok hp hl
  rw [due_is] at C
  exact C
/-- what about gives of a told error: the head and the first octets -/
theorem padded_due (hl : p.length < 1000) (l8 : v.opt.length ≤ 8) : ∃ z, KBa.In z ∧ padded (due8 v p) = hOct v (20 + v.opt.length + p.length) ++ (p.take 8 ++ z) ∧ (padded (due8 v p)).length = 20 + v.opt.length + p.length := by
  have e2 : g16 (due8 v p) (Int.toNat 2) = 20 + v.opt.length + p.length := h_g2 (q := p.take 8) (by omega) (by omega)
  refine ⟨List.replicate (if g16 (due8 v p) (Int.toNat 2) - ((due8 v p).length : Int) > 0 then g16 (due8 v p) (Int.toNat 2) - ((due8 v p).length : Int) else 0).toNat 0, in_rep, ?_, ?_⟩
  · exact List.append_assoc ..
  · rw [List.length_append, List.length_replicate, e2]
    have e3 : (due8 v p).length = 20 + v.opt.length + min 8 p.length := due_len v p
    rw [e3, show (20 + (v.opt.length : Int) + p.length) - ((20 + v.opt.length + min 8 p.length : Nat) : Int) = ((p.length - min 8 p.length : Nat) : Int) by have := Nat.min_le_right 8 p.length; omega, ite_pos_toNat, Nat.add_assoc, Nat.add_sub_of_le (Nat.min_le_right 8 p.length)]
theorem about_own_spec (hx : (x, instObj 175 d) ∈ news) (hdm : (d, dictOf (msgDict q (.int k tk) (.int c tc) (.int r tr) (.bytes (byteArr (due8 v p)) tp)) 4) ∈ news) (hk8 : isErr k = true) (ok : HdrOk v) (hp : KBa.In p) (hl : p.length < 900) :
    Spec w 44 370 [.ref x] news (fun r n' => ∃ D x d q u tb, r = .ref D ∧ n' = (D, tupO #[.ref x, .bytes (byteArr (p.take (Int.toNat 8))) tb]) :: (x, instObj 274 d) :: (d, dictOf (hdrOf q v u) 10) :: news ∧
      (∀ p ∈ news, p.1 < d) ∧ d < x ∧ x < D) := by
  have l8 := ok.l8
  have l4 := ok.l4
  obtain ⟨z, hz, e, el⟩ := padded_due (v := v) (p := p) (by omega) l8
  have e3 : (due8 v p).length = 20 + v.opt.length + min 8 p.length := due_len v p
  have e2 : g16 (due8 v p) 2 = 20 + v.opt.length + p.length := h_g2 (q := p.take 8) (by omega) (by omega)
  have pin : KBa.In (padded (due8 v p)) := by rw [e]; exact in_app (hOct_in ok _) (in_app (in_take hp) hz)
  have p0 : (padded (due8 v p)).getD 0 0 = 64 + (20 + (v.opt.length : Int)) / 4 := by rw [e]; exact (h_at v _ _).1
  have psz : szOf (padded (due8 v p)) = 20 + v.opt.length := by show (padded (due8 v p)).getD 0 0 % 16 * 4 = _; rw [p0]; exact (first4 l8 l4).1
  have pg : g16 (padded (due8 v p)) 2 = 20 + v.opt.length + p.length := by rw [e]; exact h_g2 (by omega) (by omega)
  have pfrom : hdrFrom (padded (due8 v p)) (szOf (padded (due8 v p))) = v := by rw [psz, e]; exact h_from ok rfl
  have htk : (20 + (v.opt.length : Int)).toNat = (hOct v (20 + v.opt.length + p.length)).length := by rw [hOct_len]; rfl
  have psum : cfold (wsum ((padded (due8 v p)).take (szOf (padded (due8 v p))).toNat)) = 65535 := by
    rw [psz, htk, e, List.take_left']
    · exact sum_put (a := hFirst v (20 + v.opt.length + p.length)) (by unfold hFirst; simp only [List.length_append, List.length_cons, List.length_nil, w16_len]) (in_app (in_app (hFirst_in ok _) (w16_in _)) (hBehind_in ok))
    · rfl
  have prest : restOf (due8 v p) (20 + ((hdrFrom (padded (due8 v p)) (szOf (padded (due8 v p)))).opt.length : Int)) = p.take (Int.toNat 8) := by
    show ((((padded (due8 v p)).take (g16 (padded (due8 v p)) 2).toNat).drop (szOf (padded (due8 v p))).toNat).take _) = _
    have e5 : (padded (due8 v p)).take (20 + (v.opt.length : Int) + p.length).toNat = padded (due8 v p) := List.take_of_length_le (by rw [el]; exact Nat.le_refl _)
    rw [pfrom, pg, psz, e3, e5, htk, e, List.drop_left']
    · rw [show (if ((20 + v.opt.length + min 8 p.length : Nat) : Int) - (20 + (v.opt.length : Int)) > 0 then ((20 + v.opt.length + min 8 p.length : Nat) : Int) - (20 + (v.opt.length : Int)) else 0).toNat = (p.take 8).length by rw [List.length_take, show ((20 + v.opt.length + min 8 p.length : Nat) : Int) - (20 + (v.opt.length : Int)) = ((min 8 p.length : Nat) : Int) by omega]; exact ite_pos_toNat _]
      rw [List.take_left']
      · rfl
      · rfl
    · rfl
  have C := about_spec (w := w) (o := due8 v p) hx hdm hk8 (due8_in ok hp) (by rw [e3, Nat.add_assoc]; exact Nat.le_add_right ..) (le_lit (due8_le l8) rfl) (by omega) (by omega) pin (by rw [el, Nat.add_assoc]; exact Nat.le_add_right ..) (by rw [p0]; exact (first4 l8 l4).2)
    (by show 20 ≤ szOf (padded (due8 v p)); rw [psz]; exact Int.le_add_of_nonneg_right (Int.natCast_nonneg _)) (by show szOf (padded (due8 v p)) ≤ _; rw [psz, el]; exact Int.ofNat_le.mpr (Nat.le_add_right (20 + v.opt.length) p.length)) (by show szOf (padded (due8 v p)) ≤ _; rw [psz, pg]; exact Int.le_add_of_nonneg_right (Int.natCast_nonneg _)) (by rw [pg, el]; exact Int.le_refl _) psum (by show HdrOk (hdrFrom (padded (due8 v p)) (szOf (padded (due8 v p)))); rw [pfrom]; exact ok)
  rw [prest, pfrom] at C
  exact C
end
theorem fr_map {h₀ h : Heap} {L : Addr} {m m' : Str → Option Value} (F : Fr h₀ L h m) (e : m = m') : Fr h₀ L h m' := e ▸ F
theorem new_hdr3_spec {w : World} {news : List (Addr × Obj)} (a b c : Int) (ta tb tc : Tok) : Spec w 14 274 [.int a ta, .int b tb, .int c tc] news (fun r n' => ∃ x dx q u, r = .ref x ∧ n' = (x, instObj 274 dx) :: (dx, dictOf (hdrOf q ⟨a, b, c, 0, 64, 0, false, false, 0, []⟩ u) 10) :: news ∧ (∀ p ∈ news, p.1 < dx) ∧ dx < x) := by
  unfold Spec
  intro loose mean mg mb dp un gd cn cs a' ccd cl outer A₀ base h₀ L m s Q E B F X N T hk hd hu hret
  k_extra "my enter_cls"
  (with_reducible rename Fr _ L' _ _ => F9)
  replace F9 := fr_map F9 (m' := fun y => List.lookup y [("options", .bytes #[] 503), ("offset", .int 0 502), ("more", .bool false), ("dont", .bool false), ("tos", .int 0 501), ("ttl", .int 64 500), ("ident", .int 0 499), ("protocol", .int c tc), ("target", .int b tb), ("source", .int a ta), ("self", .ref x')]) (by kernel_rfl)
  k_steps
  refine' hret _ _ _ _ ⟨_, _, ⟨_, _, _, _, _, _, _, _, _, _, _, _, _, _, _, _, _, _, _, _⟩, ⟨_, _, _, _, _, _, _, _⟩, rfl, rfl, ?l1, ?l2⟩ ?ff ?nn
  case nn => k_asm
  case ff => k_asm
  case l1 => assumption
  case l2 => assumption
section
variable {w : World} {news : List (Addr × Obj)}
  {loose : List Str} {mean : ExcName → Option Value} {mg mb : Str → Option Value}
  {dp un : Nat} {gd : Option (List Code)} {cn : Str} {cs : Scope} {a : Addr} {ccd : Value} {cl : List (Str × Addr)} {outer : List Env} {A₀ : Around} {base h₀ : Heap} {L : Addr} {m : Str → Option Value} {s : Shared} {Q E : Value → Shared → Prop}
theorem about_use {x d : Addr} {q : MD} {v : HF} {k c r : Int} {p : List Int} {tk tc tr tp : Tok} (B : Below A₀ base outer h₀) (F : Fr h₀ L s.heap m) (X : (hd.heap_1 w.params).In h₀) (N : News h₀ L s.heap news) (T : Top topProg loose mean mg mb h₀) (hkf : cs.kind = .function) (hdp : dp + 44 < recursionLimit) (hun : un + 8 * 44 < cLine)
    (hx : (x, instObj 175 d) ∈ news) (hdm : (d, dictOf (msgDict q (.int k tk) (.int c tc) (.int r tr) (.bytes (byteArr (due8 v p)) tp)) 4) ∈ news) (hk8 : isErr k = true) (ok : HdrOk v) (hp : KBa.In p) (hl : p.length < 900)
    (ret : ∀ D x d q u tb h' tk', (∀ p ∈ news, @LT.lt Nat _ p.1 d) → @LT.lt Nat _ d x → @LT.lt Nat _ x D → Fr h₀ L h' m → News h₀ L h' ((D, tupO #[.ref x, .bytes (byteArr (p.take (Int.toNat 8))) tb]) :: (x, instObj 274 d) :: (d, dictOf (hdrOf q v u) 10) :: news) → Q (.ref D) { s with heap := h', toks := tk' }) :
    wpAny (model Challenge.rw_nu0135_01.row.prog w) (ktrTop dp un gd cn cs L a ccd cl outer) (call (.ref 370) [.ref x]) Q E s :=
  spec_use B F X N T hkf hdp hun (about_own_spec hx hdm hk8 ok hp hl) fun r n' h' tk' R F' N' => by
    obtain ⟨D, x, d, q, u, tb, rfl, rfl, l1, l2, l3⟩ := R
    exact ret D x d q u tb h' tk' l1 l2 l3 F' N'
theorem new_hdr3_use {b1 b2 b3 : Int} {t1 t2 t3 : Tok} (B : Below A₀ base outer h₀) (F : Fr h₀ L s.heap m) (X : (hd.heap_1 w.params).In h₀) (N : News h₀ L s.heap news) (T : Top topProg loose mean mg mb h₀) (hkf : cs.kind = .function) (hdp : dp + 14 < recursionLimit) (hun : un + 8 * 14 < cLine)
    (ret : ∀ x dx q u h' tk', (∀ p ∈ news, @LT.lt Nat _ p.1 dx) → @LT.lt Nat _ dx x → Fr h₀ L h' m → News h₀ L h' ((x, instObj 274 dx) :: (dx, dictOf (hdrOf q ⟨b1, b2, b3, 0, 64, 0, false, false, 0, []⟩ u) 10) :: news) → Q (.ref x) { s with heap := h', toks := tk' }) :
    wpAny (model Challenge.rw_nu0135_01.row.prog w) (ktrTop dp un gd cn cs L a ccd cl outer) (call (.ref 274) [.int b1 t1, .int b2 t2, .int b3 t3]) Q E s :=
  spec_use B F X N T hkf hdp hun (new_hdr3_spec b1 b2 b3 t1 t2 t3) fun r n' h' tk' R F' N' => by
    obtain ⟨x, dx, q, u, rfl, rfl, l1, l2⟩ := R
    exact ret x dx q u h' tk' l1 l2 F' N'
end
theorem may_carrier_spec {w : World} {news : List (Addr × Obj)} {x d : Addr} {q : HD} {v : HF} {u : HT} {k c r : Int} {p : List Int} {t : Tok} {b : Bool} (hx : (x, instObj 274 d) ∈ news) (hd' : (d, dictOf (hdrOf q v u) 10) ∈ news) (hp1 : v.pro = 1) (hk8 : isErr k = true)
    (h0 : 0 ≤ k) (h1 : k < 256) (h2 : 0 ≤ c) (h3 : c < 256) (hp : KBa.In p) (hl : p.length ≤ 1000) : Spec w 24 355 [.ref x, .bytes (byteArr (msgOct k c r p)) t, .bool b] news (Pure news fun _ => .bool false) := by
  have C := may_tell_spec (w := w) (t := t) (b := b) hx hd' (p := msgOct k c r p) (msgOct_in h0 h1 h2 h3 hp) (by rw [msgOct_len]; omega)
  have e : mayTell v (msgOct k c r p) b = false := by
    unfold mayTell carries
    rw [decide_eq_true hp1, show (msgOct k c r p).getD 0 0 = k from rfl, hk8]
    simp
  rw [e] at C
  exact C
/-- a refused lambda that draws -/
theorem refused_draw {w : World} {D : Nat} {f src : Addr} {news : List (Addr × Obj)} {g : Obj → List (Addr × Obj)} {x y : Int} {tx ty : Tok}
    {loose : List Str} {mean : ExcName → Option Value} {mg mb : Str → Option Value}
    {dp un : Nat} {gd : Option (List Code)} {cn : Str} {cs : Scope} {a : Addr} {ccd : Value} {cl : List (Str × Addr)} {outer : List Env} {A₀ : Around} {base h₀ : Heap} {L : Addr} {m : Str → Option Value} {s : Shared} {Q E : Value → Shared → Prop}
    (B : Below A₀ base outer h₀) (F : Fr h₀ L s.heap m) (X : (hd.heap_1 w.params).In h₀) (N : News h₀ L s.heap news) (T : Top topProg loose mean mg mb h₀) (XB : (hd.heap_1 w.params).In base) (TB : Top topProg loose mean mg mb base) (hD : KtsDicts (outer.filterMap (·.frame)) h₀)
    (hk : cs.kind = .function) (hd : dp + (D + 4) < recursionLimit) (hu : un + 8 * (D + 4) < cLine)
    {fd : FuncData} {fc : Value} {fo : Option Addr} {fs : Array (Option Value)} (hfn : (f, (⟨fc, fo, .func fd, fs⟩ : Obj)) ∈ news) (U : UpdF src (srcO x y tx ty) news g) (C : SpecRP w D f [] news (fun n => ∃ x' y' tx' ty', SrcOk x' y' ∧ n = g (srcO x' y' tx' ty')))
    (ret : ∀ x' y' tx' ty' h' tk' h₀', SrcOk x' y' → KtsTurn (outer.filterMap (·.frame)) h₀ h₀' → Fr h₀' L h' m → News h₀' L h' (g (srcO x' y' tx' ty')) → Below A₀ base outer h₀' → KtsDicts (outer.filterMap (·.frame)) h₀' → Q (.bool true) { s with heap := h', toks := tk' }) :
    wpAny (model Challenge.rw_nu0135_01.row.prog w) (ktrTop dp un gd cn cs L a ccd cl outer) (call (.ref 506) [.ref f]) Q E s :=
  refused_P B F X N T XB TB hD hk hd hu hfn C fun h' tk' h₀' n' e => by
    obtain ⟨x', y', tx', ty', ok', rfl⟩ := e
    exact ret x' y' tx' ty' h' tk' h₀' ok'
theorem lay173 : True := by
  k_with "my call ref" => ((k_here; (with_reducible show wpAny _ _ (call (Value.ref 370) _) _ _ _); k_dflt (refine about_use (by k_asm) (by k_asm) (by k_asm) (by k_asm) (by k_asm) (by first | exact rfl | assumption) (by ktr_room) (by ktr_units) (by k_mem) (by with_reducible k_mem) (by assumption) (by assumption) (by k_extra "my b_in") (by k_extra "my b_siz") ?_); intro D' x' d' q' u' t' h' tk' l1' l2' l3' F' N'; (try dsimp only); (try k_sweep); (try k_fold)))
  k_with "my call ref" => (k_here; (with_reducible show wpAny _ _ (call (Value.ref 363) _) _ _ _); k_dflt (refine msg_use (by k_asm) (by k_asm) (by k_asm) (by k_asm) (by k_asm) (by first | exact rfl | assumption) (by ktr_room) (by ktr_units) (error_own_spec _ _ _ _ _ _ (by first | with_reducible assumption | assumption) (by k_mem) (by k_mem) (by first | with_reducible assumption | assumption) (by k_extra "my b_in") (by first | with_reducible assumption | decide | k_extra "my b_siz")) ?_); intro x' d' q' ta' tb' tc' td' h' tk' F' N' l4' l1' l2'; (try k_lt l4'); (try k_lt l1'); (try k_lt2 l2'); (try dsimp only); (try k_sweep); (try k_fold))
  exact True.intro
section
theorem lay174 : True := by
  k_with "my call ref" => (((with_reducible rename Sec 12605 => sc'); (k_here; (with_reducible show wpAny _ _ (call (Value.ref 506) _) _ _ _); refine stop_in ?_)))
  k_with "my call ref" => (((with_reducible rename Sec 12605 => sc'); (k_here; (with_reducible show wpAny _ _ (call (Value.ref 274) [Value.int _ _, Value.int _ _, Value.int _ _]) _ _ _); refine stop_in ?_)))
  k_with "my call ref" => (((with_reducible rename Sec 12605 => sc'); (k_here; (with_reducible show wpAny _ _ (call (Value.ref 355) _) _ _ _); k_dflt (refine pure_use (by k_asm) (by k_asm) (by k_asm) (by k_asm) (by k_asm) (by first | exact rfl | assumption) (by ktr_room) (by ktr_units) (may_carrier_spec (by k_mem) (by k_mem) (by rfl) (by assumption) (by omega) (by omega) (by omega) (by omega) (by k_extra "my b_in") (by k_extra "my b_siz")) ?_); intro t' h' tk' F' N'; (try dsimp only); (try k_sweep); (try k_fold))))
  k_with "my call ref" => (((with_reducible rename Sec 12605 => sc'); (k_here; (with_reducible show wpAny _ _ (call (Value.ref 440) _) _ _ _); k_dflt (refine drawOf_use (by k_asm) (by k_asm) (by k_asm) (by k_asm) (by k_asm) (by first | exact rfl | assumption) (by ktr_room) (by ktr_units) (by k_updF) (by assumption) (by k_extra "my needs") (one_intsP (fun d => isErr d = true ∧ 0 ≤ d ∧ d < 256) [3, 4, 5, 11, 12] (by decide) (by decide) (by decide) (by first | l_intsW | l_ints)) ?_); intro d' t' x' y' tx' ty' h' tk' ok' hm' F' N'; (have he' := hm'.1); (have lo' := hm'.2.1); (have hi' := hm'.2.2); clear hm'; (try dsimp only at N'); (try replace N' := News.tlL N'); (try dsimp only); (try k_sweep); (try k_fold))))
  k_with "my call ref" => (((with_reducible rename Sec 12605 => sc'); (k_here; (with_reducible show wpAny _ _ (call (Value.ref 440) _) _ _ _); k_dflt (refine drawOf_use (by k_asm) (by k_asm) (by k_asm) (by k_asm) (by k_asm) (by first | exact rfl | assumption) (by ktr_room) (by ktr_units) (by k_updF) (by assumption) (by k_extra "my needs") (one_intsP (fun d => 0 ≤ d ∧ d < 4294967296) [0, 576, 2147483648] (by decide) (by decide) (by decide) (by first | l_intsW | l_ints)) ?_); intro d' t' x' y' tx' ty' h' tk' ok' hm' F' N'; (have lo' := hm'.1); (have hi' := hm'.2); clear hm'; (try dsimp only at N'); (try replace N' := News.tlL N'); (try dsimp only); (try k_sweep); (try k_fold))))
  k_with "my call ref" => (((with_reducible rename Sec 12605 => sc'); (k_here; (with_reducible show wpAny _ _ (call (Value.ref 440) _) _ _ _); k_dflt (refine drawOf_use (by k_asm) (by k_asm) (by k_asm) (by k_asm) (by k_asm) (by first | exact rfl | assumption) (by ktr_room) (by ktr_units) (by k_updF) (by assumption) (by k_extra "my needs") (one_intsP (fun d => isErr d = false) [0, 8, 13] (by decide) (by decide) (by decide) (by first | l_intsW | l_ints)) ?_); intro d' t' x' y' tx' ty' h' tk' ok' hm' F' N'; (try dsimp only at N'); (try replace N' := News.tlL N'); (try dsimp only); (try k_sweep); (try k_fold))))
  exact True.intro
abbrev q534 : Str := Str.ofString "_law_error_right.<locals>.<lambda>"
set_option maxHeartbeats 16000000 in
theorem error_right_spec {w : World} {src x d : Addr} {q : HD} {v : HF} {u : HT} {p : List Int} {tp ta tb : Tok} {a b : Int} {all : Bool} {ps : Array Value} {tail codes : List (Addr × Obj)}
    (hx : (x, instObj 274 d) ∈ tail) (hd' : (d, dictOf (hdrOf q v u) 10) ∈ tail) (okh : HdrOk v) (hp : KBa.In p) (hl : p.length ≤ 40)
    (ok : SrcOk a b) (G : LamTab q534 ps codes) (hcs : ∀ p ∈ codes, p ∈ tail) (hs : @LT.lt Nat _ 529 src) (hs1 : ∀ p ∈ tail, p.1 ≠ src) (hs2 : ∀ p ∈ tail, p.1 ≠ 529) :
    SpecT w 70 534 [.ref src, .ref x, .bytes (byteArr p) tp, .bool all] ((src, srcO a b ta tb) :: (529, tabObj ps) :: tail) (RightRet src 529 q534 codes tail) := by
  have l8 := okh.l8
  have dL : (due8 v p).length ≤ 36 := due8_le l8
  unfold SpecT
  intro loose mean mg mb dp un gd cn cs a' ccd cl outer A₀ base h₀ L m s Q E B F X N T XB TB D hk hd hu hret
  have sc' := sec 12605
  k_extra "my enterCT"
  have C529 := codeHd_of_K (c := 533) (P := 529) (by assumption) (by kernel_rfl)
  k_steps
  refine stop_out ?_
  (with_reducible rename News _ _ _ _ => N4)
  replace N4 := News.drop 9 N4
  dsimp only [List.drop] at N4
  k_dflt (refine new_hdr3_use (by k_asm) (by k_asm) (by k_asm) (by k_asm) (by k_asm) (by exact rfl) (by ktr_room) (by ktr_units) ?_)
  intro x5 d5 q5 u5 h5 tk5 l5 l6 F5 N5
  clear N4
  k_steps
  refine stop_out ?_
  have s7 := tail_off (a := src) (by assumption) hs1 (by k_mem)
  have s8 := tail_off (a := 529) (by assumption) hs2 (by k_mem)
  k_dflt (refine refused_draw (D := 50) (src := src) (by k_asm) (by k_asm) (by k_asm) (by k_asm) (by k_asm) (by with_reducible assumption) (by with_reducible assumption) (by with_reducible assumption) (by exact rfl) (by ktr_room) (by ktr_units) (by exact List.mem_cons_self ..) (by k_updF) ?_ (fun x7 y7 tx7 ty7 h7 tk7 h₀7 ok7 T7 F7 N7 B7 D7 => ?_))
  · unfold SpecRP
    intro loose mean mg mb dp un gd cn cs a' ccd cl outer A₀ base h₀ L m s Q E B F X N T hk hd hu hret
    k_extra "my enterL"
    k_steps
    refine hret _ _ _ _ _ ⟨_, _, _, _, by assumption, rfl⟩ ?_ (raisedM_drop (by assumption) (by (try dsimp only); intro p hp; k_ownIn)) ?_ <;> assumption
  have X7 := Frag.In.keeps XB (Below.stays B7)
  have T7' := Top.keeps TB (Below.stays B7)
  (try dsimp only at N7)
  have C529 := codeHd_of_K (c := 533) (P := 529) X7 (by kernel_rfl)
  k_steps
  k_extra "my refused"
  have C529 := codeHd_of_K (c := 533) (P := 529) (by assumption) (by kernel_rfl)
  have s9 := tail_off (a := 529) (by assumption) s8 (by k_mem)
  k_steps
  k_extra "my refused"
  k_steps
  k_extra "my right_end"
  exact hret _ _ _ _ _ ⟨rfl, _, _, _, _, _, _, _, by assumption, by assumption, Grown.trans (Grown.trans (grown_of (by assumption) (by k_mem)) (grown_of (by assumption) (by k_mem))) (grown_of (by assumption) (by k_mem)), rfl⟩ (by assumption) (by assumption) (by assumption) (by assumption) (by assumption)
end

-- P27: the law: the ledger of a turn, calls of the parts
section
variable {h₀ h₀' h' : Heap} {L : Addr} {m : Str → Option Value} {nw : List (Addr × Obj)}
theorem frBack (T1 : KtsTurn [] h₀ h₀') (F : Fr h₀' L h' m) : Fr h₀ L h' m := ⟨F.ns, fun b o e => F.keep b o (T1.other b o e (fun h => nomatch h)), by rw [← T1.size]; exact F.above⟩
theorem newsBack (T1 : KtsTurn [] h₀ h₀') (N : News h₀' L h' nw) : News h₀ L h' nw := fun p hp => ⟨(N p hp).1, (N p hp).2.1, by
  cases q : h₀.get? p.1 with
  | none => rfl
  | some o =>
    have := T1.other _ _ q (fun h => nomatch h)
    rw [(N p hp).2.2] at this
    cases this⟩
end
inductive UpdR (src P : Addr) (os oP : Obj) (rest : List (Addr × Obj)) : List (Addr × Obj) → (Obj → Obj → List (Addr × Obj) → List (Addr × Obj)) → Prop
  | nil : UpdR src P os oP rest rest (fun _ _ r => r)
  | src {nw g} (h : UpdR src P os oP rest nw g) : UpdR src P os oP rest ((src, os) :: nw) (fun o o' r => (src, o) :: g o o' r)
  | tab {nw g} (h : UpdR src P os oP rest nw g) : UpdR src P os oP rest ((P, oP) :: nw) (fun o o' r => (P, o') :: g o o' r)
  | skip {q nw g} (n1 : q.1 ≠ src) (n2 : q.1 ≠ P) (h : UpdR src P os oP rest nw g) : UpdR src P os oP rest (q :: nw) (fun o o' r => q :: g o o' r)
section
variable {src P : Addr} {os oP : Obj} {rest nw : List (Addr × Obj)} {g : Obj → Obj → List (Addr × Obj) → List (Addr × Obj)}
theorem UpdR.sub (U : UpdR src P os oP rest nw g) : ∀ p ∈ rest, p ∈ nw := by
  induction U with
  | nil => exact fun _ h => h
  | src _ ih => exact fun p h => List.mem_cons_of_mem _ (ih p h)
  | tab _ ih => exact fun p h => List.mem_cons_of_mem _ (ih p h)
  | skip _ _ _ ih => exact fun p h => List.mem_cons_of_mem _ (ih p h)
theorem UpdR.mem (U : UpdR src P os oP rest nw g) (o o' : Obj) (r : List (Addr × Obj)) : ∀ p ∈ g o o' r, p = (src, o) ∨ p = (P, o') ∨ p ∈ r ∨ (p ∈ nw ∧ p.1 ≠ src ∧ p.1 ≠ P) := by
  induction U with
  | nil => exact fun p h => .inr (.inr (.inl h))
  | src _ ih =>
    intro p h
    rcases List.mem_cons.mp h with h | h
    · exact .inl h
    · rcases ih p h with h | h | h | ⟨h, a, b⟩
      · exact .inl h
      · exact .inr (.inl h)
      · exact .inr (.inr (.inl h))
      · exact .inr (.inr (.inr ⟨List.mem_cons_of_mem _ h, a, b⟩))
  | tab _ ih =>
    intro p h
    rcases List.mem_cons.mp h with h | h
    · exact .inr (.inl h)
    · rcases ih p h with h | h | h | ⟨h, a, b⟩
      · exact .inl h
      · exact .inr (.inl h)
      · exact .inr (.inr (.inl h))
      · exact .inr (.inr (.inr ⟨List.mem_cons_of_mem _ h, a, b⟩))
  | skip n1 n2 _ ih =>
    intro p h
    rcases List.mem_cons.mp h with h | h
    · subst h; exact .inr (.inr (.inr ⟨List.mem_cons_self .., n1, n2⟩))
    · rcases ih p h with h | h | h | ⟨h, a, b⟩
      · exact .inl h
      · exact .inr (.inl h)
      · exact .inr (.inr (.inl h))
      · exact .inr (.inr (.inr ⟨List.mem_cons_of_mem _ h, a, b⟩))
end
section
variable {w : World} {D : Nat} {f src P : Addr} {vs : List Value} {nw rest : List (Addr × Obj)} {g : Obj → Obj → List (Addr × Obj) → List (Addr × Obj)} {x y : Int} {tx ty : Tok} {q : Str} {ps : Array Value}
  {loose : List Str} {mean : ExcName → Option Value} {mg mb : Str → Option Value}
  {dp un : Nat} {gd : Option (List Code)} {cn : Str} {cs : Scope} {a : Addr} {ccd : Value} {cl : List (Str × Addr)} {A₀ : Around} {base h₀ : Heap} {L : Addr} {m : Str → Option Value} {s : Shared} {Q E : Value → Shared → Prop}
theorem right_use (B : Below A₀ base [] h₀) (F : Fr h₀ L s.heap m) (X : (hd.heap_1 w.params).In h₀) (N : News h₀ L s.heap nw) (T : Top topProg loose mean mg mb h₀) (XB : (hd.heap_1 w.params).In base) (TB : Top topProg loose mean mg mb base) (hk : cs.kind = .function) (hd : dp + D < recursionLimit) (hu : un + 8 * D < cLine)
    (U : UpdR src P (srcO x y tx ty) (tabObj ps) rest nw g) (hsrc : (src, srcO x y tx ty) ∈ nw) (hP : (P, tabObj ps) ∈ nw) (r1 : ∀ p ∈ rest, p.1 ≠ src) (r2 : ∀ p ∈ rest, p.1 ≠ P)
    (C : ∀ tail, (∀ p ∈ nw, p.1 ≠ src → p.1 ≠ P → p ∈ tail) → (∀ p ∈ tail, p.1 ≠ src) → (∀ p ∈ tail, p.1 ≠ P) → (∀ p ∈ rest, p ∈ tail) → SpecT w D f vs ((src, srcO x y tx ty) :: (P, tabObj ps) :: tail) (RightRet src P q rest tail))
    (ret : ∀ x' y' tx' ty' ps' rest' h' tk', SrcOk x' y' → LamTab q ps' rest' → (∃ own, rest' = own ++ rest ∧ ∀ p ∈ own, @LT.lt Nat _ src p.1) → Fr h₀ L h' m → News h₀ L h' (g (srcO x' y' tx' ty') (tabObj ps') rest') → Q (.bool true) { s with heap := h', toks := tk' }) :
    wpAny (model Challenge.rw_nu0135_01.row.prog w) (ktrTop dp un gd cn cs L a ccd cl []) (call (.ref f) vs) Q E s := by
  have hin : ∀ p ∈ nw, p.1 ≠ src → p.1 ≠ P → p ∈ nw.filter (fun p => p.1 != src && p.1 != P) := fun p hp a b => List.mem_filter.mpr ⟨hp, by rw [Bool.and_eq_true]; exact ⟨bne_iff_ne.mpr a, bne_iff_ne.mpr b⟩⟩
  have hout : ∀ p ∈ nw.filter (fun p => p.1 != src && p.1 != P), p ∈ nw ∧ p.1 ≠ src ∧ p.1 ≠ P := fun p hp => by
    obtain ⟨h1, h2⟩ := List.mem_filter.mp hp
    rw [Bool.and_eq_true] at h2
    exact ⟨h1, bne_iff_ne.mp h2.1, bne_iff_ne.mp h2.2⟩
  refine C _ hin (fun p hp => (hout p hp).2.1) (fun p hp => (hout p hp).2.2) (fun p hp => hin p (U.sub p hp) (r1 p hp) (r2 p hp)) _ _ _ _ _ _ _ _ _ _ _ _ _ _ _ _ _ _ _ _ _ B F X (fun p hp => ?_) T XB TB ktsDicts_nil hk hd hu fun r n' h' tk' h₀' R T1 F1 N1 _ _ => ?_
  · rcases List.mem_cons.mp hp with rfl | hp
    · exact N _ hsrc
    · rcases List.mem_cons.mp hp with rfl | hp
      · exact N _ hP
      · exact N _ (hout p hp).1
  · obtain ⟨rfl, x', y', tx', ty', ps', cs', tail', ok', G', ⟨own, rfl, rfl, lo⟩, rfl⟩ := R
    refine ret x' y' tx' ty' ps' (own ++ rest) h' tk' ok' G' ⟨own, rfl, lo⟩ (frBack T1 F1) fun p hp => newsBack T1 N1 p ?_
    rcases U.mem _ _ _ p hp with rfl | rfl | hp | ⟨hp, a, b⟩
    · exact List.mem_cons_self ..
    · exact List.mem_cons_of_mem _ (List.mem_cons_self ..)
    · refine List.mem_cons_of_mem _ (List.mem_cons_of_mem _ ?_)
      rcases List.mem_append.mp hp with hp | hp
      · exact List.mem_append_left _ hp
      · exact List.mem_append_right _ (hin p (U.sub p hp) (r1 p hp) (r2 p hp))
    · exact List.mem_cons_of_mem _ (List.mem_cons_of_mem _ (List.mem_append_right _ (hin p hp a b)))
end
/-- the three tables of the law's turn, and where the rest of the ledger lies -/
structure LawT (p1 p2 p3 : Array Value) (src I : Addr) (rest : List (Addr × Obj)) : Prop where
  g1 : LamTab q513 p1 rest
  g2 : LamTab q534 p2 rest
  g3 : LamTab q541 p3 rest
  h6 : ∀ p ∈ rest, @LT.lt Nat _ 536 p.1
  hs : ∀ p ∈ rest, p.1 ≠ src
  hI : ∀ p ∈ rest, p.1 ≠ I
  s6 : @LT.lt Nat _ 536 src
  sI : @LT.lt Nat _ I src
section
variable {p1 p2 p3 p' : Array Value} {src I : Addr} {rest rest' : List (Addr × Obj)}
theorem LawT.off (T : LawT p1 p2 p3 src I rest) {a : Addr} (h : @LE.le Nat _ a 536) : ∀ p ∈ rest, p.1 ≠ a := fun p hp => Nat.ne_of_gt (Nat.lt_of_le_of_lt h (T.h6 p hp))
theorem LawT.low (T : LawT p1 p2 p3 src I rest) (h : ∃ own, rest' = own ++ rest ∧ ∀ p ∈ own, @LT.lt Nat _ src p.1) : (∀ p ∈ rest, p ∈ rest') ∧ (∀ p ∈ rest', @LT.lt Nat _ 536 p.1) ∧ (∀ p ∈ rest', p.1 ≠ src) ∧ (∀ p ∈ rest', p.1 ≠ I) := by
  obtain ⟨own, rfl, l⟩ := h
  refine ⟨fun p hp => List.mem_append_right _ hp, fun p hp => ?_, fun p hp => ?_, fun p hp => ?_⟩
  · exact (List.mem_append.mp hp).elim (fun h => Nat.lt_trans T.s6 (l p h)) (T.h6 p)
  · exact (List.mem_append.mp hp).elim (fun h => Nat.ne_of_gt (l p h)) (T.hs p)
  · exact (List.mem_append.mp hp).elim (fun h => Nat.ne_of_gt (Nat.lt_trans T.sI (l p h))) (T.hI p)
theorem LawT.up1 (T : LawT p1 p2 p3 src I rest) (G : LamTab q513 p' rest') (h : ∃ own, rest' = own ++ rest ∧ ∀ p ∈ own, @LT.lt Nat _ src p.1) : LawT p' p2 p3 src I rest' :=
  let l := T.low h; ⟨G, T.g2.mono l.1, T.g3.mono l.1, l.2.1, l.2.2.1, l.2.2.2, T.s6, T.sI⟩
theorem LawT.up2 (T : LawT p1 p2 p3 src I rest) (G : LamTab q534 p' rest') (h : ∃ own, rest' = own ++ rest ∧ ∀ p ∈ own, @LT.lt Nat _ src p.1) : LawT p1 p' p3 src I rest' :=
  let l := T.low h; ⟨T.g1.mono l.1, G, T.g3.mono l.1, l.2.1, l.2.2.1, l.2.2.2, T.s6, T.sI⟩
theorem LawT.up3 (T : LawT p1 p2 p3 src I rest) (G : LamTab q541 p' rest') (h : ∃ own, rest' = own ++ rest ∧ ∀ p ∈ own, @LT.lt Nat _ src p.1) : LawT p1 p2 p' src I rest' :=
  let l := T.low h; ⟨T.g1.mono l.1, T.g2.mono l.1, G, l.2.1, l.2.2.1, l.2.2.2, T.s6, T.sI⟩
end

-- P28: the law: its walk
abbrev sS : Str := Str.ofString "script"
abbrev sk : Str := Str.ofString "k"
abbrev lawLed (p1 p2 p3 : Array Value) (rest : List (Addr × Obj)) : List (Addr × Obj) := (536, tabObj p3) :: (529, tabObj p2) :: (508, tabObj p1) :: rest
/-- what holds between the turns of the law's loop -/
def LJ (l : Addr) (m : Str → Option Value) (nx : List (Addr × Obj)) : Prop :=
  m sS = some (.ref l) ∧ ∃ p1 p2 p3 rest, LamTab q513 p1 rest ∧ LamTab q534 p2 rest ∧ LamTab q541 p3 rest ∧ (∀ p ∈ rest, @LT.lt Nat _ 536 p.1) ∧ nx = lawLed p1 p2 p3 rest
theorem law_loop {prog : Program} {w : World} {A : Around} {E : Value → Shared → Prop} {s : Shared} {env : Env} {h₀ : Heap} {body : List Stmt} {Q : Flow → Shared → Prop}
    {r l : Addr} {b₀ : Int} {t₀ u₀ v₀ : Tok} {m₀ : Str → Option Value}
    (hh : A.handled = none) (hr : IsRange s.heap r 0 b₀ 1 t₀ u₀ v₀) (hb : 0 ≤ b₀) (hb2 : b₀ ≤ 3) (F : Fr h₀ env.locals s.heap m₀) (N : News h₀ env.locals s.heap (lawLed #[] #[] #[] [])) (v1 : m₀ sS = some (.ref l))
    (turn : ∀ I : Addr, @LT.lt Nat _ 536 I → ∀ (i : Nat) (t : Tok) (p1 p2 p3 : Array Value) (rest : List (Addr × Obj)) (u : Str → Option Value) (h : Heap) (tk : Nat) (o : Obj), i < 3 → LamTab q513 p1 rest → LamTab q534 p2 rest → LamTab q541 p3 rest → (∀ p ∈ rest, @LT.lt Nat _ 536 p.1) → (∀ p ∈ rest, p.1 ≠ I) →
      Fr h₀ env.locals h (fun y => if y = sk then some (.int (0 + (i : Int) * 1) t) else if y = sS then some (.ref l) else u y) → News h₀ env.locals h ((I, o) :: lawLed p1 p2 p3 rest) →
      wpAny (model prog w) A (execs body env) (LPost h₀ env.locals I o (LJ l) { s with heap := h, toks := tk } Q) E { s with heap := h, toks := tk })
    (done : ∀ m₁ p1 p2 p3 rest h tk, Fr h₀ env.locals h m₁ → News h₀ env.locals h (lawLed p1 p2 p3 rest) → Q .next { s with heap := h, toks := tk }) :
    wpAny (model prog w) A (pyIter (.ref r)) (fun it s₂ => LoopAtV prog w A h₀ env sk body Q E it s₂) E s := by
  refine iter_rangeJ b₀.toNat (fun _ => LJ l) hh hr (small_up (by decide) (by decide) (by omega) (by omega) (by decide) (by decide)) (size_one (by omega)) F N ⟨v1, #[], #[], #[], [], lamTab_nil _ _, lamTab_nil _ _, lamTab_nil _ _, (fun _ h => nomatch h), rfl⟩ ?_ ?_
  · rintro I hI i t m₁ nx h tk o hin ⟨e1, p1, p2, p3, rest, g1, g2, g3, h6, rfl⟩ hoff F₁ N₁
    have em : m₁ = fun y => if y = sS then some (.ref l) else m₁ y := by
      funext y
      by_cases e : y = sS
      · rw [if_pos e, e, e1]
      · rw [if_neg e]
    rw [em] at F₁
    exact turn I (hI _ (List.mem_cons_self ..)) i t p1 p2 p3 rest m₁ h tk o (by omega) g1 g2 g3 h6 (fun p hp => hoff p (List.mem_cons_of_mem _ (List.mem_cons_of_mem _ (List.mem_cons_of_mem _ hp)))) F₁ N₁
  · rintro m₁ nx h tk ⟨_, p1, p2, p3, rest, _, _, _, _, rfl⟩ F₁ N₁
    exact done m₁ p1 p2 p3 rest h tk F₁ N₁
theorem ne_sameB {prog : Program} {w : World} {A : Around} {E : Value → Shared → Prop} {s : Shared} {a : Bool} {Q : Value → Shared → Prop} (h : Q (.bool false) s) : wpAny (model prog w) A (compareOp .NotEq (.bool a) (.bool a)) Q E s :=
  ne_bool (by rw [bne_self_eq_false]; exact h)
theorem law_hI {I : Addr} {p1 p2 p3 : Array Value} {rest : List (Addr × Obj)} (h6 : @LT.lt Nat _ 536 I) (h : ∀ p ∈ rest, p.1 ≠ I) : ∀ p ∈ lawLed p1 p2 p3 rest, p.1 ≠ I := fun p hp => by
  rcases List.mem_cons.mp hp with rfl | hp
  · exact Nat.ne_of_lt h6
  · rcases List.mem_cons.mp hp with rfl | hp
    · exact Nat.ne_of_lt (Nat.lt_trans (show @LT.lt Nat _ 529 536 by decide) h6)
    · rcases List.mem_cons.mp hp with rfl | hp
      · exact Nat.ne_of_lt (Nat.lt_trans (show @LT.lt Nat _ 508 536 by decide) h6)
      · exact h p hp
/-- the payload of a turn: some short octets; the source is turned -/
def PayPost (h₀ : Heap) (L : Addr) (m : Str → Option Value) (g : Obj → List (Addr × Obj)) (s : Shared) (r : Value) (s' : Shared) : Prop :=
  ∃ o t a b ta tb h' tk', r = .bytes (byteArr o) t ∧ KBa.In o ∧ o.length ≤ 30 ∧ SrcOk a b ∧ s' = { s with heap := h', toks := tk' } ∧ Fr h₀ L h' m ∧ News h₀ L h' (g (srcO a b ta tb))
theorem pay_cut {M : Model} {A : Around} {E : Value → Shared → Prop} {s : Shared} {h₀ : Heap} {L src : Addr} {m : Str → Option Value} {nw : List (Addr × Obj)} {g : Obj → List (Addr × Obj)} {os : Obj} {x : Sem Value} {Q : Value → Shared → Prop}
    (_F : Fr h₀ L s.heap m) (_N : News h₀ L s.heap nw) (_U : UpdF src os nw g) (h1 : wpAny M A x (PayPost h₀ L m g s) E s)
    (h2 : ∀ o t a b ta tb h' tk', KBa.In o → o.length ≤ 30 → SrcOk a b → Fr h₀ L h' m → News h₀ L h' (g (srcO a b ta tb)) → Q (.bytes (byteArr o) t) { s with heap := h', toks := tk' }) : wpAny M A x Q E s :=
  wpAny_mono h1 (fun r s' h => by obtain ⟨o, t, a, b, ta, tb, h', tk', rfl, i, l, ok, rfl, F', N'⟩ := h; exact h2 o t a b ta tb h' tk' i l ok F' N') fun _ _ e => e
theorem pay_end {h₀ : Heap} {L : Addr} {m : Str → Option Value} {g : Obj → List (Addr × Obj)} {s : Shared} {o : List Int} {t ta tb : Tok} {a b : Int} {h' : Heap} {tk' : Nat} (i : KBa.In o) (l : o.length ≤ 30) (ok : SrcOk a b) (F : Fr h₀ L h' m) (N : News h₀ L h' (g (srcO a b ta tb))) :
    PayPost h₀ L m g s (.bytes (byteArr o) t) { s with heap := h', toks := tk' } := ⟨o, t, a, b, ta, tb, h', tk', rfl, i, l, ok, rfl, F, N⟩
theorem pay4 {o : List Int} {k : Nat} (i : KBa.In o) (l : o.length ≤ 30) : ∀ d ∈ [o, o, o, o.take k], KBa.In d ∧ d.length ≤ 30 := fun d hd => by
  simp only [List.mem_cons, List.not_mem_nil, or_false] at hd
  rcases hd with rfl | rfl | rfl | rfl
  · exact ⟨i, l⟩
  · exact ⟨i, l⟩
  · exact ⟨i, l⟩
  · exact ⟨in_take i, by rw [List.length_take]; omega⟩
theorem one_bytesP {w : World} {src l : Addr} {vs : List Value} {os : List (List Int)} {n : Nat} (P : List Int → Prop) (hi : BytesAre vs os) (hP : ∀ d ∈ os, P d) (hn : 0 < os.length) (hn' : os.length < 1000) : Draws w 14 440 [.ref src, .ref l] src [(l, listOf vs.toArray n)] (RetOf (fun d t => Value.bytes (byteArr d) t) P) :=
  Draws.weaken (one_bytes hi hn hn') fun _ _ p => by
    obtain ⟨e, d, t, h1, h2⟩ := p
    exact ⟨e, d, t, h1, hP d h2⟩
section
theorem lay181 : True := by
  k_with "my pyIter ref" => (((with_reducible rename Sec 12801 => sc'); (k_here; (with_reducible show wpAny _ _ (pyIter (Value.ref _)) (fun it s₂ => LoopAtV _ _ _ _ _ _ _ _ _ it s₂) _ _); refine stop_in ?_)))
  k_with "my exec For Name Call cons nil" => (((with_reducible rename Sec 12801 => sc'); (k_here; (rename Fr _ _ _ _ => lF'); (with_unfolding_all refine For_invVF lF' (by exact rfl) (by exact rfl) ?_; k_whole))))
  k_with "my call ref" => (((with_reducible rename Sec 12801 => sc'); (k_here; (with_reducible show wpAny _ _ (call (Value.ref 426) _) _ _ _); refine stop_in ?_)))
  k_with "my call ref" => (((with_reducible rename Sec 12801 => sc'); (k_here; (with_reducible show wpAny _ _ (call (Value.ref 513) _) _ _ _); refine stop_in ?_)))
  k_with "my call ref" => (((with_reducible rename Sec 12801 => sc'); (k_here; (with_reducible show wpAny _ _ (call (Value.ref 534) _) _ _ _); refine stop_in ?_)))
  k_with "my call ref" => (((with_reducible rename Sec 12801 => sc'); (k_here; (with_reducible show wpAny _ _ (call (Value.ref 541) _) _ _ _); refine stop_in ?_)))
  k_with "my call ref" => (((with_reducible rename Sec 12801 => sc'); (k_here; (with_reducible show wpAny _ _ (call (Value.ref 440) _) _ _ _); k_dflt (refine drawOf_use (by k_asm) (by k_asm) (by k_asm) (by k_asm) (by k_asm) (by first | exact rfl | assumption) (by ktr_room) (by ktr_units) (by k_updF) (by assumption) (by k_extra "my needs") (one_bytesP (fun d => KBa.In d ∧ d.length ≤ 30) (by ((repeat (with_reducible apply BytesAre.cons)); exact BytesAre.nil)) (pay4 (by assumption) (by assumption)) (by exact Nat.succ_pos _) (by exact Nat.le_of_ble_eq_true rfl)) ?_); intro d' t' x' y' tx' ty' h' tk' ok' hm' F' N'; (have lo' := hm'.1); (have hi' := hm'.2); clear hm'; (try dsimp only at N'); (try replace N' := News.tlL N'); (try dsimp only); (try k_sweep); (try k_fold))))
  k_with "my call ref" => (((with_reducible rename Sec 12801 => sc'); (k_here; (with_reducible show wpAny _ _ (call (Value.ref 440) _) _ _ _); k_dflt (refine drawOf_use (by k_asm) (by k_asm) (by k_asm) (by k_asm) (by k_asm) (by first | exact rfl | assumption) (by ktr_room) (by ktr_units) (by k_updF) (by assumption) (by k_extra "my needs") (one_intsP (fun d => 0 ≤ d ∧ d < 256) [1, 1, 6, 17] (by decide) (by decide) (by decide) (by first | l_intsW | l_ints)) ?_); intro d' t' x' y' tx' ty' h' tk' ok' hm' F' N'; (have lo' := hm'.1); (have hi' := hm'.2); clear hm'; (try dsimp only at N'); (try replace N' := News.tlL N'); (try dsimp only); (try k_sweep); (try k_fold))))
  k_with "my updR" => (((with_reducible rename Sec 12801 => sc'); ((try dsimp only [lawLed]); first | with_reducible exact UpdR.nil | ((with_reducible apply UpdR.src); k_extra "my updR") | ((with_reducible apply UpdR.tab); k_extra "my updR") | ((with_reducible apply UpdR.skip); (dsimp only; first | k_ne | decide); (dsimp only; first | k_ne | decide); k_extra "my updR") | fail "updR")))
  k_with "my eval IfExp" => (((with_reducible rename Sec 12801 => sc'); (k_here; (fail_if_success (with_reducible rename Marker => mk)); refine stop_in ?_)))
  k_with "my compareOp NotEq bool bool" => (((with_reducible rename Sec 12801 => sc'); (k_here; (with_reducible refine ne_sameB ?_))))
  k_with "my call ref" => (k_here; (with_reducible show wpAny _ _ (call (Value.ref 548) _) _ _ _); k_dflt (refine draw_use (by k_asm) (by k_asm) (by k_asm) (by k_asm) (by k_asm) (by first | exact rfl | assumption) (by ktr_room) (by ktr_units) (by k_updF) (by first | with_reducible assumption | assumption) (by k_extra "my needs") (budget_right_draws _) ?_); intro r' x' y' tx' ty' own' h' tk' ok' P' lt' F' N'; k_dflt ((obtain ⟨e1', e2'⟩ := P'; subst e1'; subst e2')); (try dsimp only [List.nil_append, List.cons_append] at N'); (try dsimp only); (try k_sweep); (try k_fold))
  exact True.intro
theorem law_walk.tw15808102522801343710 : True := trivial
theorem law_walk.tw14248864630821999066 : True := trivial
theorem law_walk.tw17503048201020566150 : True := trivial
theorem law_walk.tw5665857595847573660 : True := trivial
theorem law_walk.tw17516156735435868949 : True := trivial
theorem law_walk.tw8625786686279420002 : True := trivial
theorem law_walk.tw7583747637197625299 : True := trivial
theorem law_walk.tw16352332493698178272 : True := trivial
theorem law_walk.tw16424232005314788345 : True := trivial
theorem law_walk.tw3756160188692538100 : True := trivial
theorem law_walk.tw4650864048630087687 : True := trivial
theorem law_walk.tw4370083229036569240 : True := trivial
theorem law_walk.tw15068387895767642262 : True := trivial
theorem law_walk.tw10701399307046395222 : True := trivial
theorem law_walk.tw6400728029846161746 : True := trivial
theorem law_walk.tw8913200853918873487 : True := trivial
theorem law_walk.tw6395076724380272433 : True := trivial
theorem law_walk.tw1151342034297073333 : True := trivial
theorem law_walk.tw1291188863830293922 : True := trivial
theorem law_walk.tw12339468898658440648 : True := trivial
theorem law_walk.tw17853104084820837124 : True := trivial
theorem law_walk.tw10644555465049499542 : True := trivial
theorem law_walk.tw5945251890368040592 : True := trivial
theorem law_walk.tw4234370560274592165 : True := trivial
theorem law_walk.tw17151797450817616718 : True := trivial
theorem law_walk.tw13815495218294476984 : True := trivial
theorem law_walk.tw18224671212723825918 : True := trivial
theorem law_walk.tw3385936075775627244 : True := trivial
theorem law_walk.tw10089813817477584785 : True := trivial
theorem law_walk.tw17577931810382400309 : True := trivial
theorem law_walk.tw3063434237839494313 : True := trivial
theorem law_walk.tw1962610487425886148 : True := trivial
theorem law_walk.tw18326279783551224081 : True := trivial
theorem law_walk.tw15339740527146667515 : True := trivial
theorem law_walk.tw12731889902522729247 : True := trivial
theorem law_walk.tw7783959777113460643 : True := trivial
theorem law_walk.tw6858619185670046997 : True := trivial
theorem law_walk.tw5617465109909234681 : True := trivial
theorem law_walk.tw7840895221415674314 : True := trivial
theorem law_walk.tw3341957500806677513 : True := trivial
theorem law_walk.tw8830698684499257924 : True := trivial
theorem law_walk.tw15166187191399147401 : True := trivial
theorem law_walk.tw13669227089607836025 : True := trivial
theorem law_walk.tw4264378668631844740 : True := trivial
theorem law_walk.tw6326036041313379243 : True := trivial
theorem law_walk.tw15465383760572715868 : True := trivial
theorem law_walk.tw13152884665874386697 : True := trivial
theorem law_walk.tw14413383872799207634 : True := trivial
theorem law_walk.tw2565113396638683165 : True := trivial
theorem law_walk.tw13061922814197243877 : True := trivial
theorem law_walk.tw13632555498916938958 : True := trivial
theorem law_walk.tw2881633161984637734 : True := trivial
theorem law_walk.tw3901379447191726684 : True := trivial
theorem law_walk.tw11982992778822352237 : True := trivial
theorem law_walk.tw2891813122276395325 : True := trivial
theorem law_walk.tw5106595780902882185 : True := trivial
theorem law_walk.tw8585720189463720551 : True := trivial
theorem law_walk.tw16527859942339537161 : True := trivial
theorem law_walk.tw3556739600320475700 : True := trivial
theorem law_walk.tw7085764848552681203 : True := trivial
theorem law_walk.tw7935032364589072374 : True := trivial
theorem law_walk.tw114068836442368448 : True := trivial
theorem law_walk.tw15629570529578067637 : True := trivial
theorem law_walk.tw15364690513992368193 : True := trivial
theorem law_walk.tw14974011525358233248 : True := trivial
theorem law_walk.tw8817104002524506356 : True := trivial
theorem law_walk.tw8911797091718074820 : True := trivial
theorem law_walk.tw1410423312292164055 : True := trivial
theorem law_walk.tw10025827375045193003 : True := trivial
theorem law_walk.tw6781434516922131841 : True := trivial
theorem law_walk.tw3645142685593176355 : True := trivial
theorem law_walk.tw18083422011985357641 : True := trivial
theorem law_walk.tw2290006836762255042 : True := trivial
theorem law_walk.tw12201208723104210844 : True := trivial
theorem law_walk.tw2461725995065076540 : True := trivial
theorem law_walk.tw10575778595181894031 : True := trivial
theorem law_walk.tw9437996820781617458 : True := trivial
theorem law_walk.tw10077540380710871921 : True := trivial
theorem law_walk.tw18419849500374968085 : True := trivial
theorem law_walk.tw2891145553682058488 : True := trivial
theorem law_walk.tw1391093639713574961 : True := trivial
theorem law_walk.tw2552621430300128815 : True := trivial
theorem law_walk.tw14656327984825934345 : True := trivial
theorem law_walk.tw9275676947951765412 : True := trivial
theorem law_walk.tw5489435162092308715 : True := trivial
theorem law_walk.tw18131359920417124385 : True := trivial
theorem law_walk.tw16544933085067678609 : True := trivial
theorem law_walk.tw11695968945485325002 : True := trivial
theorem law_walk.tw14470666120146282729 : True := trivial
theorem law_walk.tw6876844073889826661 : True := trivial
theorem law_walk.tw1506947507783032290 : True := trivial
theorem law_walk.tw17540475224168508509 : True := trivial
theorem law_walk.tw4825969915279202094 : True := trivial
theorem law_walk.tw15608699163130600928 : True := trivial
theorem law_walk.tw16736113708867630118 : True := trivial
theorem law_walk.tw9166629151429394481 : True := trivial
theorem law_walk.tw17213830025686893733 : True := trivial
theorem law_walk.tw13486275484559421317 : True := trivial
theorem law_walk.tw9751572719245382704 : True := trivial
theorem law_walk.tw2992045281244225938 : True := trivial
theorem law_walk.tw4712029355801963649 : True := trivial
theorem law_walk.tw9629949465616303012 : True := trivial
theorem law_walk.tw3661333082589093490 : True := trivial
theorem law_walk.tw14576841033009785450 : True := trivial
theorem law_walk.tw11107084788130492855 : True := trivial
theorem law_walk.tw3072583708981276997 : True := trivial
theorem law_walk.tw1913036947019820295 : True := trivial
theorem law_walk.tw10145663917544633356 : True := trivial
theorem law_walk.tw408965671246964816 : True := trivial
theorem law_walk.tw744953451102037001 : True := trivial
theorem law_walk.tw3503918262955619448 : True := trivial
theorem law_walk.tw9186056918976138657 : True := trivial
theorem law_walk.tw9130924912984840108 : True := trivial
theorem law_walk.tw1420760975202630414 : True := trivial
theorem law_walk.tw10346137634031632238 : True := trivial
theorem law_walk.tw14055614312144957176 : True := trivial
theorem law_walk.tw8501291642466889497 : True := trivial
theorem law_walk.tw7967881594753178663 : True := trivial
theorem law_walk.tw5285187710974808773 : True := trivial
theorem law_walk.tw12960922864970901034 : True := trivial
theorem law_walk.tw14151628125881777859 : True := trivial
theorem law_walk.tw12709367179632773795 : True := trivial
theorem law_walk.tw1034862192768213525 : True := trivial
theorem law_walk.tw15417956146314419576 : True := trivial
theorem law_walk.tw2571282474401314295 : True := trivial
theorem law_walk.tw10639959928510409895 : True := trivial
theorem law_walk.tw6649265716614889171 : True := trivial
theorem law_walk.tw12810192943273396808 : True := trivial
theorem law_walk.tw1349618128346378168 : True := trivial
theorem law_walk.tw5967445458030798337 : True := trivial
theorem law_walk.tw2173232976173397635 : True := trivial
theorem law_walk.tw8872340779992629047 : True := trivial
theorem law_walk.tw2684023103095633660 : True := trivial
theorem law_walk.tw8378071691432599981 : True := trivial
theorem law_walk.tw14933636063808288048 : True := trivial
theorem law_walk.tw7107204000909996950 : True := trivial
theorem law_walk.tw7100947392080961120 : True := trivial
theorem law_walk.tw11225349331227436574 : True := trivial
theorem law_walk.tw17038179071774957488 : True := trivial
theorem law_walk.tw14505901053012614148 : True := trivial
theorem law_walk.tw5346438632509710920 : True := trivial
theorem law_walk.tw8643717505972836825 : True := trivial
theorem law_walk.tw18274630477781228279 : True := trivial
theorem law_walk.tw11142810084088212214 : True := trivial
theorem law_walk.tw77035021383099251 : True := trivial
theorem law_walk.tw3766263908530267476 : True := trivial
theorem law_walk.tw2610553823429803857 : True := trivial
theorem law_walk.tw9483369658182257289 : True := trivial
theorem law_walk.tw6442823786168487660 : True := trivial
theorem law_walk.tw7547403932810918116 : True := trivial
theorem law_walk.tw13294789418573058175 : True := trivial
theorem law_walk.tw3482016092978867209 : True := trivial
theorem law_walk.tw17532403902413084164 : True := trivial
theorem law_walk.tw564151756313833224 : True := trivial
theorem law_walk.tw13658154597968535148 : True := trivial
theorem law_walk.tw9994383796158963881 : True := trivial
theorem law_walk.tw17260160985915537885 : True := trivial
theorem law_walk.tw18202080616877959397 : True := trivial
theorem law_walk.tw5734418796060860671 : True := trivial
theorem law_walk.tw16452647876230661981 : True := trivial
theorem law_walk.tw10639754238789214580 : True := trivial
theorem law_walk.tw3431981061032647749 : True := trivial
theorem law_walk.tw14886465165815767197 : True := trivial
theorem law_walk.tw3515985582248649365 : True := trivial
theorem law_walk.tw13131166574269975942 : True := trivial
theorem law_walk.tw9523152087340033652 : True := trivial
theorem law_walk.tw10410218519925115209 : True := trivial
theorem law_walk.tw17626359151768868061 : True := trivial
theorem law_walk.tw17623468720309768769 : True := trivial
theorem law_walk.tw3183911972864754080 : True := trivial
theorem law_walk.tw1273115386221408021 : True := trivial
theorem law_walk.tw6817066608918758411 : True := trivial
theorem law_walk.tw16478864787684819889 : True := trivial
theorem law_walk.tw4395385074299251700 : True := trivial
theorem law_walk.tw8010708191331470744 : True := trivial
theorem law_walk.tw3397640014722814597 : True := trivial
theorem law_walk.tw13012963976651126157 : True := trivial
theorem law_walk.tw15505191111615268071 : True := trivial
theorem law_walk.tw6445505954462926399 : True := trivial
theorem law_walk.tw17467095279790736570 : True := trivial
theorem law_walk.tw351393988171304625 : True := trivial
theorem law_walk.tw15105356252194471118 : True := trivial
theorem law_walk.tw6735343253640592490 : True := trivial
theorem law_walk.tw2533946477500920620 : True := trivial
theorem law_walk.tw7959148999937488964 : True := trivial
theorem law_walk.tw15612027222607308620 : True := trivial
theorem law_walk.tw3617187102980411362 : True := trivial
theorem law_walk.tw8693389997180322906 : True := trivial
theorem law_walk.tw10895305474805754006 : True := trivial
theorem law_walk.tw7348505673825218498 : True := trivial
theorem law_walk.tw380842840570321484 : True := trivial
theorem law_walk.tw3571322542837286172 : True := trivial
theorem law_walk.tw13535815245345095003 : True := trivial
theorem law_walk.tw15736856550780382072 : True := trivial
theorem law_walk.tw9452348037586664839 : True := trivial
theorem law_walk.tw3789574390143640299 : True := trivial
theorem law_walk.tw5714461824207165854 : True := trivial
theorem law_walk.tw546888889209027854 : True := trivial
theorem law_walk.tw10628030151618537167 : True := trivial
theorem law_walk.tw16314443678151020817 : True := trivial
theorem law_walk.tw12155212933862730691 : True := trivial
theorem law_walk.tw13002647067667376827 : True := trivial
theorem law_walk.tw10480163188608862900 : True := trivial
theorem law_walk.tw15702739590981716756 : True := trivial
theorem law_walk.tw13239012831020974903 : True := trivial
theorem law_walk.tw2683228806543164896 : True := trivial
theorem law_walk.tw118772489925084819 : True := trivial
theorem law_walk.tw11630068813027870184 : True := trivial
theorem law_walk.tw15502360365264503172 : True := trivial
theorem law_walk.tw4280611388464062807 : True := trivial
theorem law_walk.tw3981640346128581809 : True := trivial
theorem law_walk.tw16460119751318372509 : True := trivial
theorem law_walk.tw7544050792922360767 : True := trivial
theorem law_walk.tw282248770605746262 : True := trivial
theorem law_walk.tw5111013765409397190 : True := trivial
theorem law_walk.tw9032874879495944622 : True := trivial
theorem law_walk.tw13745158655786601302 : True := trivial
theorem law_walk.tw15730742052892828963 : True := trivial
theorem law_walk.tw15665304800849761054 : True := trivial
theorem law_walk.tw13303729710185988318 : True := trivial
theorem law_walk.tw6049634886937883345 : True := trivial
theorem law_walk.tw6509880215270199464 : True := trivial
theorem law_walk.tw8480239427897886991 : True := trivial
theorem law_walk.tw860345242450283677 : True := trivial
theorem law_walk.tw16288356565122131320 : True := trivial
theorem law_walk.tw12392573969894312859 : True := trivial
theorem law_walk.tw9033031517808640844 : True := trivial
theorem law_walk.tw408718155922227582 : True := trivial
theorem law_walk.tw15800454764057550145 : True := trivial
theorem law_walk.tw10351194298694868871 : True := trivial
theorem law_walk.tw5384549298661720461 : True := trivial
theorem law_walk.tw10157507484109336835 : True := trivial
theorem law_walk.tw16239419225424659875 : True := trivial
theorem law_walk.tw17994628964845550410 : True := trivial
theorem law_walk.tw7070119327064719344 : True := trivial
theorem law_walk.tw4715142628854536148 : True := trivial
theorem law_walk.tw4301747711573494155 : True := trivial
theorem law_walk.tw14971813819131637940 : True := trivial
theorem law_walk.tw10349880028629904836 : True := trivial
theorem law_walk.tw13045953843222869678 : True := trivial
theorem law_walk.tw18349341294619126761 : True := trivial
theorem law_walk.tw11043336987795527070 : True := trivial
theorem law_walk.tw11934205477223409273 : True := trivial
theorem law_walk.tw13597390773632813406 : True := trivial
theorem law_walk.tw12494027469739420667 : True := trivial
theorem law_walk.tw17785294340455765017 : True := trivial
theorem law_walk.tw11164060815314383135 : True := trivial
theorem law_walk.tw1091560810613593962 : True := trivial
theorem law_walk.tw15647844531929859867 : True := trivial
theorem law_walk.tw17060461453524377851 : True := trivial
theorem law_walk.tw3248996168741035358 : True := trivial
theorem law_walk.tw2956760582631884976 : True := trivial
theorem law_walk.tw2794590637635899929 : True := trivial
theorem law_walk.tw12627331199131324555 : True := trivial
theorem law_walk.tw12582605092441299808 : True := trivial
theorem law_walk.tw3229189241546203836 : True := trivial
theorem law_walk.tw18280739221102298645 : True := trivial
theorem law_walk.tw7634410226565424121 : True := trivial
theorem law_walk.tw6336012815581847770 : True := trivial
theorem law_walk.tw14771489958863429370 : True := trivial
theorem law_walk.tw11543882884557045927 : True := trivial
theorem law_walk.tw9984620941133940510 : True := trivial
theorem law_walk.tw9512795527785568220 : True := trivial
theorem law_walk.tw7102155933189859701 : True := trivial
theorem law_walk.tw687557944460634239 : True := trivial
theorem law_walk.tw14583912446361872688 : True := trivial
theorem law_walk.tw16655610470186158400 : True := trivial
theorem law_walk.tw13732427437597736401 : True := trivial
theorem law_walk.tw804102523834244518 : True := trivial
theorem law_walk.tw9988921452368062052 : True := trivial
theorem law_walk.tw12066832245886349031 : True := trivial
theorem law_walk.tw652925120267005250 : True := trivial
theorem law_walk.tw455531115749641411 : True := trivial
theorem law_walk.tw11592501116013859330 : True := trivial
theorem law_walk.tw15955792830637053814 : True := trivial
theorem law_walk.tw11833324912608759766 : True := trivial
theorem law_walk.tw15637905503817521475 : True := trivial
theorem law_walk.tw17635426524294582585 : True := trivial
theorem law_walk.tw4562229481737148886 : True := trivial
theorem law_walk.tw9499157157656621582 : True := trivial
theorem law_walk.tw5959770353029448891 : True := trivial
theorem law_walk.tw15481486496463984755 : True := trivial
theorem law_walk.tw5473956158163234346 : True := trivial
theorem law_walk.tw8125532106854212182 : True := trivial
theorem law_walk.tw14553445138279101417 : True := trivial
theorem law_walk.tw9046220672855999427 : True := trivial
theorem law_walk.tw16717036865386704701 : True := trivial
theorem law_walk.tw4396025924468024464 : True := trivial
theorem law_walk.tw13422099721287017408 : True := trivial
theorem law_walk.tw18132122536221473472 : True := trivial
theorem law_walk.tw296180040996304996 : True := trivial
theorem law_walk.tw7761158318386415103 : True := trivial
theorem law_walk.tw17568217026667295836 : True := trivial
theorem law_walk.tw13088496971643157351 : True := trivial
theorem law_walk.tw16896177677555761227 : True := trivial
theorem law_walk.tw5711866699771652809 : True := trivial
theorem law_walk.tw9872956177346622876 : True := trivial
theorem law_walk.tw11889892436880215759 : True := trivial
theorem law_walk.tw12580990067054571118 : True := trivial
theorem law_walk.tw7724462708510239296 : True := trivial
theorem law_walk.tw7009013107003880677 : True := trivial
theorem law_walk.tw16786987527147555012 : True := trivial
theorem law_walk.tw3410796797842009060 : True := trivial
theorem law_walk.tw11039640424939347710 : True := trivial
theorem law_walk.tw16555205638712268653 : True := trivial
theorem law_walk.tw13648519344018371485 : True := trivial
theorem law_walk.tw17700758138987353556 : True := trivial
theorem law_walk.tw1258322994186161773 : True := trivial
theorem law_walk.tw14058109858162537207 : True := trivial
theorem law_walk.tw16177133813778340837 : True := trivial
theorem law_walk.tw16299107591147526652 : True := trivial
theorem law_walk.tw649375490138095207 : True := trivial
theorem law_walk.tw7166111205189570138 : True := trivial
theorem law_walk.tw10197584988195932483 : True := trivial
theorem law_walk.tw16448158653895429499 : True := trivial
theorem law_walk.tw6607728920318839029 : True := trivial
theorem law_walk.tw5501580622627630012 : True := trivial
theorem law_walk.tw6400172762246600512 : True := trivial
theorem law_walk.tw8480634766571863564 : True := trivial
theorem law_walk.tw9421641426863037778 : True := trivial
theorem law_walk.tw12108898027212849372 : True := trivial
theorem law_walk.tw9669262220790407631 : True := trivial
theorem law_walk.tw9319935928421143686 : True := trivial
theorem law_walk.tw17330576422823195353 : True := trivial
theorem law_walk.tw12101466091422677741 : True := trivial
theorem law_walk.tw309411868979763249 : True := trivial
theorem law_walk.tw10618763033596195338 : True := trivial
theorem law_walk.tw16188769599606678643 : True := trivial
theorem law_walk.tw7611494997709275607 : True := trivial
theorem law_walk.tw12701836608600397022 : True := trivial
theorem law_walk.tw5796563073557437437 : True := trivial
theorem law_walk.tw583991755219690200 : True := trivial
theorem law_walk.tw8158858908667947657 : True := trivial
theorem law_walk.tw14109506641052798933 : True := trivial
theorem law_walk.tw14284208715777796981 : True := trivial
theorem law_walk.tw4182832439252594905 : True := trivial
theorem law_walk.tw3859728766915173161 : True := trivial
theorem law_walk.tw11867803497363361693 : True := trivial
theorem law_walk.tw11043068461460382700 : True := trivial
theorem law_walk.tw18894516972011198 : True := trivial
theorem law_walk.tw8162407469431441865 : True := trivial
theorem law_walk.tw16537627652793202913 : True := trivial
theorem law_walk.tw16430022226258692450 : True := trivial
theorem law_walk.tw3599762355796292311 : True := trivial
theorem law_walk.tw11474566579329802148 : True := trivial
theorem law_walk.tw17299492534853890397 : True := trivial
theorem law_walk.tw2883566381717434194 : True := trivial
theorem law_walk.tw8031706477840214613 : True := trivial
theorem law_walk.tw3320129492043336941 : True := trivial
theorem law_walk.tw16588903437976998387 : True := trivial
theorem law_walk.tw16621082731844528563 : True := trivial
theorem law_walk.tw5902568441231491975 : True := trivial
theorem law_walk.tw5726713333530599853 : True := trivial
theorem law_walk.tw9980548339221918197 : True := trivial
theorem law_walk.tw1973044255902209449 : True := trivial
theorem law_walk.tw2817620334512229656 : True := trivial
theorem law_walk.tw5239839407906811263 : True := trivial
theorem law_walk.tw2697316533896268862 : True := trivial
theorem law_walk.tw949296245633726331 : True := trivial
theorem law_walk.tw1807287435005278155 : True := trivial
theorem law_walk.tw511266971563236320 : True := trivial
theorem law_walk.tw12009826905505109769 : True := trivial
theorem law_walk.tw357486453476387696 : True := trivial
theorem law_walk.tw12591040065547981619 : True := trivial
theorem law_walk.tw2855530394995187819 : True := trivial
theorem law_walk.tw15582506271344279308 : True := trivial
theorem law_walk.tw13277986600169042562 : True := trivial
theorem law_walk.tw3212577764242795953 : True := trivial
theorem law_walk.tw792757252817062090 : True := trivial
theorem law_walk.tw13814768429321957464 : True := trivial
theorem law_walk.tw10086159654209356469 : True := trivial
theorem law_walk.tw847949811303120769 : True := trivial
theorem law_walk.tw14570258804890327721 : True := trivial
theorem law_walk.tw15453964059296924876 : True := trivial
theorem law_walk.tw16910148942730480082 : True := trivial
theorem law_walk.tw8761125589383238307 : True := trivial
theorem law_walk.tw15734438454389992756 : True := trivial
theorem law_walk.tw2732640648775456016 : True := trivial
theorem law_walk.tw1905900882068680989 : True := trivial
theorem law_walk.tw2100464597564373404 : True := trivial
theorem law_walk.tw8316598923958116987 : True := trivial
theorem law_walk.tw4947676814589303919 : True := trivial
theorem law_walk.tw14924230639997583100 : True := trivial
theorem law_walk.tw18083511110935134784 : True := trivial
theorem law_walk.tw10658639562909679755 : True := trivial
theorem law_walk.tw13374230587393269381 : True := trivial
theorem law_walk.tw17118425190982333173 : True := trivial
theorem law_walk.tw9450998796341231125 : True := trivial
theorem law_walk.tw9095732442746558090 : True := trivial
theorem law_walk.tw11355295328708566764 : True := trivial
theorem law_walk.tw5381454165165104870 : True := trivial
theorem law_walk.tw2191982584930282844 : True := trivial
theorem law_walk.tw3775679006543032292 : True := trivial
theorem law_walk.tw1697928338377447199 : True := trivial
theorem law_walk.tw6542317772984906631 : True := trivial
theorem law_walk.tw5203751740958989323 : True := trivial
theorem law_walk.tw5737706109592288152 : True := trivial
theorem law_walk.tw1472925903206734883 : True := trivial
theorem law_walk.tw8493515630103561255 : True := trivial
theorem law_walk.tw11647040384031862968 : True := trivial
theorem law_walk.tw6647347934556014683 : True := trivial
theorem law_walk.tw16819617538113115028 : True := trivial
theorem law_walk.tw7465007646282115428 : True := trivial
theorem law_walk.tw9446009449886439872 : True := trivial
theorem law_walk.tw11923195694410398313 : True := trivial
theorem law_walk.tw13596305874736225407 : True := trivial
theorem law_walk.tw13907529463265113118 : True := trivial
theorem law_walk.tw16061422359507528412 : True := trivial
theorem law_walk.tw16893689774605216254 : True := trivial
theorem law_walk.tw2157615745846525763 : True := trivial
theorem law_walk.tw18015715687542667119 : True := trivial
theorem law_walk.tw8192776089968869677 : True := trivial
theorem law_walk.tw6308444445224335033 : True := trivial
theorem law_walk.tw17151475802405297598 : True := trivial
theorem law_walk.tw12404348545022869119 : True := trivial
theorem law_walk.tw2627365868590741721 : True := trivial
theorem law_walk.tw7152392621079018176 : True := trivial
theorem law_walk.tw16517879841933767146 : True := trivial
theorem law_walk.tw13796545143518183429 : True := trivial
theorem law_walk.tw14327785045594728570 : True := trivial
theorem law_walk.tw15057813051480901889 : True := trivial
theorem law_walk.tw17186218701907457638 : True := trivial
theorem law_walk.tw14767876607977615399 : True := trivial
theorem law_walk.tw5267109075004283180 : True := trivial
theorem law_walk.tw5593611450203143609 : True := trivial
theorem law_walk.tw8234097925263858792 : True := trivial
theorem law_walk.tw14912282132491425557 : True := trivial
theorem law_walk.tw8065557979128865413 : True := trivial
theorem law_walk.tw5763417355346935721 : True := trivial
theorem law_walk.tw5678853151643781460 : True := trivial
theorem law_walk.tw3638856412277770727 : True := trivial
theorem law_walk.tw5774354148439448019 : True := trivial
theorem law_walk.tw1584486361623878614 : True := trivial
theorem law_walk.tw12504899528406112174 : True := trivial
theorem law_walk.tw9075580402529209749 : True := trivial
theorem law_walk.tw14594578202750778740 : True := trivial
theorem law_walk.tw14933453861952488482 : True := trivial
theorem law_walk.tw17449492887640561248 : True := trivial
theorem law_walk.tw10927720493975237751 : True := trivial
theorem law_walk.tw10647464609575121731 : True := trivial
theorem law_walk.tw5004049897617639706 : True := trivial
theorem law_walk.tw4008942527924284153 : True := trivial
theorem law_walk.tw8753648789720674002 : True := trivial
theorem law_walk.tw8480411965288910782 : True := trivial
theorem law_walk.tw13141938791855318528 : True := trivial
theorem law_walk.tw8219332338532164347 : True := trivial
theorem law_walk.tw15326520172994677331 : True := trivial
theorem law_walk.tw6893076860397145995 : True := trivial
theorem law_walk.tw4785864527425131527 : True := trivial
theorem law_walk.tw12709167099813424004 : True := trivial
theorem law_walk.tw13928359114818421041 : True := trivial
theorem law_walk.tw4929543586258360427 : True := trivial
theorem law_walk.tw5779170204127675202 : True := trivial
theorem law_walk.tw2672495830845699883 : True := trivial
theorem law_walk.tw18335874846033304908 : True := trivial
theorem law_walk.tw4657591597472639979 : True := trivial
theorem law_walk.tw15636980144280758095 : True := trivial
theorem law_walk.tw7640126465536901159 : True := trivial
theorem law_walk.tw17554292419583383468 : True := trivial
theorem law_walk.tw15670682840938126767 : True := trivial
theorem law_walk.tw10383870825954768009 : True := trivial
theorem law_walk.tw9774065109101459460 : True := trivial
theorem law_walk.tw724131221752555423 : True := trivial
theorem law_walk.tw1620338340181563649 : True := trivial
theorem law_walk.tw12874762544442103265 : True := trivial
theorem law_walk.tw224434131489418092 : True := trivial
theorem law_walk.tw3221921463622416975 : True := trivial
theorem law_walk.tw13448336187242820401 : True := trivial
theorem law_walk.tw615761288379671457 : True := trivial
theorem law_walk.tw10095335401649987865 : True := trivial
theorem law_walk.tw14892913809579572863 : True := trivial
theorem law_walk.tw17238711329945602061 : True := trivial
theorem law_walk.tw235898947248173329 : True := trivial
theorem law_walk.tw17823697356111105316 : True := trivial
theorem law_walk.tw2495001387537848334 : True := trivial
theorem law_walk.tw8950740782337231261 : True := trivial
theorem law_walk.tw2982868256983569547 : True := trivial
theorem law_walk.tw17535905661147732878 : True := trivial
theorem law_walk.tw977902512717651210 : True := trivial
theorem law_walk.tw5990301609794445982 : True := trivial
theorem law_walk.tw1680266527557545993 : True := trivial
theorem law_walk.tw16123713770116111771 : True := trivial
theorem law_walk.tw13887795260824410890 : True := trivial
theorem law_walk.tw12798696055825269889 : True := trivial
theorem law_walk.tw7554009859242410475 : True := trivial
theorem law_walk.tw9277896728497727899 : True := trivial
theorem law_walk.tw10041176132709441552 : True := trivial
theorem law_walk.tw14072875309468543705 : True := trivial
theorem law_walk.tw17798860381818213281 : True := trivial
theorem law_walk.tw8209524980812014044 : True := trivial
theorem law_walk.tw17459064837378575475 : True := trivial
theorem law_walk.tw16531553940958404746 : True := trivial
theorem law_walk.tw9175309087135656087 : True := trivial
theorem law_walk.tw6407279749112937241 : True := trivial
theorem law_walk.tw17427764343826140397 : True := trivial
theorem law_walk.tw5874701251743951223 : True := trivial
theorem law_walk.tw9763698464105133803 : True := trivial
theorem law_walk.tw12251902534564192380 : True := trivial
theorem law_walk.tw13259404155784925174 : True := trivial
theorem law_walk.tw15036561009911040737 : True := trivial
theorem law_walk.tw5508588685556369961 : True := trivial
theorem law_walk.tw12642425473201346906 : True := trivial
theorem law_walk.tw1880910813863361412 : True := trivial
theorem law_walk.tw4117861724953224559 : True := trivial
theorem law_walk.tw14992015521955736798 : True := trivial
theorem law_walk.tw16293923098861406699 : True := trivial
theorem law_walk.tw14940420482638819504 : True := trivial
theorem law_walk.tw9562887384487274575 : True := trivial
theorem law_walk.tw14479362093608570418 : True := trivial
theorem law_walk.tw6696238926567795774 : True := trivial
theorem law_walk.tw3691033830168974909 : True := trivial
theorem law_walk.tw10507231385081393450 : True := trivial
theorem law_walk.tw16328373283691547731 : True := trivial
theorem law_walk.tw10089657269976703354 : True := trivial
theorem law_walk.tw9961506034972829209 : True := trivial
theorem law_walk.tw3033935616987808958 : True := trivial
theorem law_walk.tw10244953201985479339 : True := trivial
theorem law_walk.tw9885818699757977590 : True := trivial
theorem law_walk.tw4725632481083999985 : True := trivial
set_option maxHeartbeats 16000000 in
set_option Elab.async true in
theorem law_walk : PySem.Challenge.rw_nu0135_01.Holds := by
  (w_on; o_law; o_head (kmHook hd.heap_1 [2,3,15,17,18,20,21,22,29,31,32,34,35,36,37,38,39,42,49,50,51,54,61,62,63,66,68,69,71,72,73,75,76,78,79,80,82,83,85,86,87,89,90,92,93,94,96,97,99,100,101,103,104,106,107,108,109,111,112,114,115,116,117,119,120,122,123,131,133,134,136,137,138,140,141,143,144,145,147,148,150,151,152,154,155,157,158,159,161,162,164,165,166,168,169,171,172,173,174,175,176,177,180,182,183,185,186,187,189,190,192,193,194,196,197,199,200,201,203,204,206,207,208,210,211,213,214,215,217,218,220,221,229,230,232,233,235,236,237,239,240,242,243,244,246,247,249,250,251,253,254,256,257,258,260,261,263,264,265,267,268,270,271,272,273,274,275,276,279,281,282,284,285,286,288,289,291,292,293,295,296,298,299,300,302,303,305,306,307,309,310,312,313,314,316,317,319,320,321,323,324,326,327,328,330,331,333,334,335,337,338,340,341,342,344,345,347,348,349,351,352,354,355,356,357,359,360,362,363,364,366,367,369,370,371,373,374,376,377,378,380,381,383,384,392,394,395,397,398,399,401,402,404,405,406,408,409,411,412,413,414,415,416,417,420,422,423,425,426,427,429,430,432,433,434,436,437,439,440,441,444,445,446,448,449,451,452,453,456,457,458,460,461,463,464,465,467,468,470,471,472,474,475,477,478,479,481,482,484,485,486,488,489,491,492,493,495,496,498,499,500,502,503,505,506,507,509,510,512,513,514,516,517,519,520,521,523,524,526,527,528,530,531,533,534,535,537,538,540,541,542,544,545,547,548,549,551,552,554,555] (fun _ => by kernel_rfl) [536, 529, 508]); (case hw => w_witness2))
  w_strict (
    k_go0
    all_goals try k_fold
    have sc' := sec 12801
    k_steps
    refine stop_out ?_
    (rename Fr _ _ _ _ => F'); (rename News _ _ _ _ => N'); (rename IsRange _ _ _ _ _ _ _ _ => R')
    with_unfolding_all refine law_loop (by rfl) R' (by omega) (by omega) F' N' (by rfl) ?turn ?done
    case done =>
      clear F' N' R'
      intro m₁ p1 p2 p3 rest h tk F5 N5
      k_steps
    case turn =>
      clear F' N' R'
      intro I i6 i t p1 p2 p3 rest u h tk o i3 g1 g2 g3 h6 hoff F5 N5
      k_steps
      refine stop_out ?_
      k_dflt (refine pool_use (by assumption) (by omega) (by omega) (by omega) (by k_asm) (by k_asm) (by k_asm) (by k_asm) (by k_asm) (by k_asm) (by exact rfl) (by ktr_room) (by ktr_units) ?_)
      intro src a b ta tb h5 tk5 ok5 lt5 F6 N6
      have LT : LawT p1 p2 p3 src I rest := ⟨g1, g2, g3, h6, fun p hp => Nat.ne_of_lt (lt5 p (List.mem_cons_of_mem _ (List.mem_cons_of_mem _ (List.mem_cons_of_mem _ (List.mem_cons_of_mem _ hp))))), hoff, lt5 _ (List.mem_cons_of_mem _ (List.mem_cons_self ..)), lt5 _ (List.mem_cons_self ..)⟩
      have os5 := LT.hs
      k_lt lt5
      clear F5 N5
      k_steps
      refine stop_out ?_
      k_dflt (refine pay_cut (src := src) (by k_asm) (by k_asm) (by k_updF) ?_ ?_)
      · have mk := marker
        k_steps
        all_goals ((with_reducible rename News _ _ _ _ => Nz); refine pay_end ?_ ?_ ?_ (by k_asm) (by exact Nz))
        · exact msgOct_in b1' b2' b3' b4' b8'
        · rw [msgOct_len]; omega
        · assumption
        · assumption
        · omega
        · assumption
      intro o5 t5 a5 b5 ta5 tb5 h5 tk5 i5 l5 ok6 F5 N5
      (try dsimp only at N5)
      k_steps
      refine stop_out ?_
      k_dflt (refine right_use (D := 70) (q := q513) (rest := rest) (src := src) (P := 508) (by k_asm) (by k_asm) (by k_asm) (by k_asm) (by k_asm) (by k_asm) (by k_asm) (by exact rfl) (by ktr_room) (by ktr_units) (by k_extra "my updR") (by k_mem) (by k_mem) LT.hs (LT.off (by decide)) (fun tail hin n1 n2 hr => ?C1) ?R1)
      case C1 => exact message_right_spec (hin _ (by k_mem) (by k_ne) (by k_ne)) (hin _ (by k_mem) (by k_ne) (by k_ne)) b1' b2' b3' b4' b5' b6' b8' (Nat.le_of_lt b7') (by assumption) LT.g1 hr (by k_extra "my lt") n1 n2
      case R1 =>
        intro x7 y7 tx7 ty7 p7 rest7 h7 tk7 ok7 G7 low7 F7 N7
        have LT7 := LT.up1 G7 low7
        have os7 := LT7.hs
        clear LT os5
        (try dsimp only at N7)
        k_steps
        refine stop_out ?_
        k_dflt (refine right_use (D := 70) (q := q534) (rest := rest7) (src := src) (P := 529) (by k_asm) (by k_asm) (by k_asm) (by k_asm) (by k_asm) (by k_asm) (by k_asm) (by exact rfl) (by ktr_room) (by ktr_units) (by k_extra "my updR") (by k_mem) (by k_mem) LT7.hs (LT7.off (by decide)) (fun tail hin n1 n2 hr => ?C2) ?R2)
        case C2 => exact error_right_spec (hin _ (by k_mem) (by k_ne) (by k_ne)) (hin _ (by k_mem) (by k_ne) (by k_ne)) (by assumption) (by assumption) (by omega) (by assumption) LT7.g2 hr (by k_extra "my lt") n1 n2
        case R2 =>
          intro x8 y8 tx8 ty8 p8 rest8 h8 tk8 ok8 G8 low8 F8 N8
          have LT8 := LT7.up2 G8 low8
          have os8 := LT8.hs
          clear LT7 os7
          (try dsimp only at N8)
          k_steps
          refine stop_out ?_
          k_dflt (refine right_use (D := 70) (q := q541) (rest := rest8) (src := src) (P := 536) (by k_asm) (by k_asm) (by k_asm) (by k_asm) (by k_asm) (by k_asm) (by k_asm) (by exact rfl) (by ktr_room) (by ktr_units) (by k_extra "my updR") (by k_mem) (by k_mem) LT8.hs (LT8.off (by decide)) (fun tail hin n1 n2 hr => ?C3) ?R3)
          case C3 => exact echo_right_spec (hin _ (by k_mem) (by k_ne) (by k_ne)) (hin _ (by k_mem) (by k_ne) (by k_ne)) (HdrOk.g0 (by assumption)) (by assumption) LT8.g3 hr (by k_extra "my lt") n1 n2
          case R3 =>
            intro x9 y9 tx9 ty9 p9 rest9 h9 tk9 ok9 G9 low9 F9 N9
            have LT9 := LT8.up3 G9 low9
            have os9 := LT9.hs
            clear LT8 os8
            (try dsimp only at N9)
            k_steps
            (with_reducible rename News _ _ _ _ => Nz)
            exact lpost_next (lawLed p7 p8 p9 rest9) (by k_asm) (by first | exact News.drop 7 Nz | exact News.drop 6 Nz | exact News.drop 8 Nz | exact News.drop 5 Nz | exact News.drop 9 Nz) (law_hI i6 LT9.hI) ⟨by with_unfolding_all rfl, p7, p8, p9, rest9, LT9.g1, LT9.g2, LT9.g3, LT9.h6, rfl⟩)
end

end Mine
theorem PySem.Challenge.cw_nu0135_01_holds : PySem.Challenge.rw_nu0135_01.Holds :=
  Mine.law_walk
