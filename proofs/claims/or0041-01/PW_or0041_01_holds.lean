import PyProof.Rows.All
import Wide.All
import OpenK.AllK
import Wide.FinOn
import PySem.Challenge.RW_or0041_01
set_option Elab.async false

section PartHd
open PySem PySem.W PyProof.Rows
namespace Mine
set_option maxRecDepth 100000 in
set_option maxHeartbeats 8000000 in
open_top hd for PySem.Challenge.rw_or0041_01
end Mine
end PartHd

section PartBase
open PySem PySem.W PyProof.Rows
namespace Mine
noncomputable abbrev LS : List Str := looseW hd.view_39 [Str.ofString "line_spans"]
/-- a call of a def, from any frame: what is asked of the caller -/
abbrev Ask (k : Nat) (w : World) (mean : ExcName → Option Value) (mg mb : Str → Option Value) (f : Addr) (news : List (Addr × Obj)) (vs : List Value)
    (ret : Heap → Addr → (Str → Option Value) → Shared → (Value → Shared → Prop) → Prop) : Prop :=
  ∀ (dp un : Nat) (gd : Option (List Code)) (cn : Str) (cs : Scope) (a : Addr) (ccd : Value) (cl : List (Str × Addr)) (outer : List Env) (A₀ : Around) (base h₀ : Heap) (L : Addr) (m : Str → Option Value) (s : Shared) (Q E : Value → Shared → Prop),
    Below A₀ base outer h₀ → Fr h₀ L s.heap m → (hd.heap_39 w.params).In h₀ → News h₀ L s.heap news → Top hd.view_39 LS mean mg mb h₀ → cs.kind = .function →
    dp + k < recursionLimit → un + 8 * k < cLine → ret h₀ L m s Q →
      wpAny (model PySem.Challenge.rw_or0041_01.row.prog w) (ktrTop dp un gd cn cs L a ccd cl outer) (call (.ref f) vs) Q E s
theorem ask_use {k : Nat} {w : World} {mean : ExcName → Option Value} {mg mb : Str → Option Value} {f : Addr} {news : List (Addr × Obj)} {vs : List Value} {ret : Heap → Addr → (Str → Option Value) → Shared → (Value → Shared → Prop) → Prop}
    {dp un : Nat} {gd : Option (List Code)} {cn : Str} {cs : Scope} {a : Addr} {ccd : Value} {cl : List (Str × Addr)} {outer : List Env} {A₀ : Around} {base h₀ : Heap} {L : Addr} {m : Str → Option Value} {s : Shared} {Q E : Value → Shared → Prop}
    (B : Below A₀ base outer h₀) (F : Fr h₀ L s.heap m) (X : (hd.heap_39 w.params).In h₀) (T : Top hd.view_39 LS mean mg mb h₀) (hk : cs.kind = .function) (hd : dp + k < recursionLimit) (hu : un + 8 * k < cLine) (N : News h₀ L s.heap news)
    (H : Ask k w mean mg mb f news vs ret) (hr : ret h₀ L m s Q) :
    wpAny (model PySem.Challenge.rw_or0041_01.row.prog w) (ktrTop dp un gd cn cs L a ccd cl outer) (call (.ref f) vs) Q E s :=
  H dp un gd cn cs a ccd cl outer A₀ base h₀ L m s Q E B F X N T hk hd hu hr
end Mine
end PartBase

section PartD0
open PySem PySem.W PyProof.Rows
namespace Mine
theorem set_any {prog : Program} {w : World} {A : Around} {E : Value → Shared → Prop} {s : Shared} {h₀ : Heap} {L D : Addr} {m : Str → Option Value} {news news' : List (Addr × Obj)} {vs : List Value} {n : Nat} {k : Int} {t : Tok} {v : Value}
    {Q : Unit → Shared → Prop} (F : Fr h₀ L s.heap m) (N : News h₀ L s.heap news) (U : Upd D (listOf vs.toArray n) (listOf (vs.set k.toNat v).toArray n) news news') (h0 : 0 ≤ k) (h1 : k < vs.length) (hfit : k < 2 ^ 63)
    (h : ∀ h', Fr h₀ L h' m → News h₀ L h' news' → Q () { s with heap := h' }) :
    wpAny (model prog w) A (setItem (.ref D) (.int k t) v) Q E s := by
  obtain ⟨pre, post, rfl, rfl, a, b⟩ := U.split
  have z := N (D, listOf vs.toArray n) (List.mem_append.mpr (.inr (.head _)))
  refine ki_setAt z.1 h0 hfit (by rw [List.size_toArray]; omega) (h _ (F.change (Heap.SameBut.update ..) z.2.1 z.2.2) (ki_turn _ N a b ?_ ?_))
  · show vs.toArray.setIfInBounds k.toNat v = (vs.set k.toNat v).toArray
    apply Array.toList_inj.mp
    simp
  · simp
/-- one place of a written list of two is changed -/
theorem set_two {prog : Program} {w : World} {A : Around} {E : Value → Shared → Prop} {s : Shared} {h₀ : Heap} {L D : Addr} {m : Str → Option Value} {news news' : List (Addr × Obj)} {a b : Value} {n : Nat} {t : Tok} {v : Value}
    {Q : Unit → Shared → Prop} (F : Fr h₀ L s.heap m) (N : News h₀ L s.heap news) (U : Upd D (listOf [a, b].toArray n) (listOf [a, v].toArray n) news news')
    (h : ∀ h', Fr h₀ L h' m → News h₀ L h' news' → Q () { s with heap := h' }) :
    wpAny (model prog w) A (setItem (.ref D) (.int 1 t) v) Q E s :=
  set_any (vs := [a, b]) F N U (by decide) (by show (1 : Int) < 2; decide) (by decide) h
end Mine
end PartD0

section PartD1
open PySem PySem.W PyProof.Rows
namespace Mine
theorem prod_le {a b x y : Int} (hx : 0 ≤ x) (hxa : x ≤ a) (hy : 0 ≤ y) (hyb : y ≤ b) : 0 ≤ x * y ∧ x * y ≤ a * b :=
  ⟨Int.mul_nonneg hx hy, Int.mul_le_mul hxa hyb hy (by omega)⟩
local macro_rules | `(tactic| walk_at "setItem ref int") => `(tactic| (k_here; (with_reducible show wpAny _ _ (setItem (Value.ref _) (Value.int 1 _) _) _ _ _); k_dflt (refine' set_two ?k1 ?k2 ?k3 ?_; (case k1 | k2 => k_asm); (case k3 => exact Upd.head (by assumption)); k_whole); intro h' F' N'; (try k_sweep)))
set_option maxRecDepth 100000 in
set_option maxHeartbeats 8000000 in
theorem draw_tells (w : World) (mean : ExcName → Option Value) (mg mb : Str → Option Value) (tp cl : Addr) (nt : Nat) (at_ lim : Int) (ta tl : Tok) (vs : List Value) (ns : List Int) (nc : Nat) (news : List (Addr × Obj))
   (hI : IntsAre vs ns) (h0 : 0 < ns.length) (h1 : ns.length ≤ 40) (ha : 0 ≤ at_) (hb : at_ ≤ 100) (hl : 0 < lim) (hm : lim ≤ 100)
   (hoff : ∀ p ∈ (cl, listOf vs.toArray nc) :: news, p.1 ≠ tp) :
    Ask 2 w mean mg mb 177 ((tp, listOf [Value.ref cl, Value.int at_ ta].toArray nt) :: (cl, listOf vs.toArray nc) :: news) [.ref tp, .int lim tl]
      (fun h₀ L m s Q => ∀ (r : Int) (t t2 : Tok) (h' : Heap) (tk' : Nat), 0 ≤ r → r < lim → Fr h₀ L h' m →
        News h₀ L h' ((tp, listOf [Value.ref cl, Value.int (at_ + 1) t2].toArray nt) :: (cl, listOf vs.toArray nc) :: news) → Q (.int r t) { s with heap := h', toks := tk' }) := by
  w_top off
  unfold Ask
  k_fill
  intros
  rename_i hret
  refine wpAny_call ?_
  k_dflt cell_enter
  k_steps
  all_goals exact hret _ _ _ _ _ (fmod_lo _ hl) (fmod_hi _ hl) (by k_asm) (by k_asm)
end Mine
end PartD1

section PartD2
open PySem PySem.W PyProof.Rows
namespace Mine
theorem draw_any (w : World) (mean : ExcName → Option Value) (mg mb : Str → Option Value) (tp cl : Addr) (nt : Nat) (at_ lim : Int) (ta tl : Tok) (vs : List Value) (ns : List Int) (nc : Nat) (news : List (Addr × Obj)) (g : Obj → List (Addr × Obj))
   (U : UpdF tp (listOf [Value.ref cl, Value.int at_ ta].toArray nt) news g) (hcl : (cl, listOf vs.toArray nc) ∈ news) (hne : cl ≠ tp)
   (hI : IntsAre vs ns) (h0 : 0 < ns.length) (h1 : ns.length ≤ 40) (ha : 0 ≤ at_) (hb : at_ ≤ 100) (hl : 0 < lim) (hm : lim ≤ 100) :
    Ask 2 w mean mg mb 177 news [.ref tp, .int lim tl]
      (fun h₀ L m s Q => ∀ (r : Int) (t t2 : Tok) (h' : Heap) (tk' : Nat), 0 ≤ r → r < lim → Fr h₀ L h' m →
        News h₀ L h' (g (listOf [Value.ref cl, Value.int (at_ + 1) t2].toArray nt)) → Q (.int r t) { s with heap := h', toks := tk' }) := by
  obtain ⟨pre, post, rfl, hg, a, b⟩ := U.split
  intro dp un gd cn cs a' ccd cl' outer A₀ base h₀ L m s Q E B F X N T hk hd hu hret
  have hin : ∀ p ∈ (cl, listOf vs.toArray nc) :: (pre ++ post), p ∈ pre ++ (tp, listOf [Value.ref cl, Value.int at_ ta].toArray nt) :: post := by
    intro p hp
    rcases List.mem_cons.mp hp with rfl | hp
    · exact hcl
    · rcases List.mem_append.mp hp with h | h
      · exact List.mem_append.mpr (.inl h)
      · exact List.mem_append.mpr (.inr (List.mem_cons_of_mem _ h))
  have hoff : ∀ p ∈ (cl, listOf vs.toArray nc) :: (pre ++ post), p.1 ≠ tp := by
    intro p hp
    rcases List.mem_cons.mp hp with rfl | hp
    · exact hne
    · exact (List.mem_append.mp hp).elim (a p) (b p)
  refine draw_tells w mean mg mb tp cl nt at_ lim ta tl vs ns nc (pre ++ post) hI h0 h1 ha hb hl hm hoff dp un gd cn cs a' ccd cl' outer A₀ base h₀ L m s Q E B F X (cb_drop N fun p hp => ?_) T hk hd hu ?_
  · rcases List.mem_cons.mp hp with rfl | hp
    · exact List.mem_append.mpr (.inr (List.mem_cons_self ..))
    · exact hin p hp
  · intro r t t2 h' tk' hr0 hr1 F' N'
    refine hret r t t2 h' tk' hr0 hr1 F' (cb_drop N' fun p hp => ?_)
    rw [hg] at hp
    rcases List.mem_append.mp hp with h | h
    · exact List.mem_cons_of_mem _ (List.mem_cons_of_mem _ (List.mem_append.mpr (.inl h)))
    · rcases List.mem_cons.mp h with rfl | h
      · exact List.mem_cons_self ..
      · exact List.mem_cons_of_mem _ (List.mem_cons_of_mem _ (List.mem_append.mpr (.inr h)))
end Mine
end PartD2

section PartB1
open PySem PySem.W PySem.Calls PyProof.Rows
namespace Mine
set_option maxRecDepth 100000
open Builtin in
theorem slot_find : Slot "bytes" "find" "bytes.find" :=
  .of (owner := "bytes") (n := "find") (by rw [typeLookup_type, builtinLookup_eq_fast]; kernel_rfl) (by decide +kernel) (by decide +kernel) (by decide +kernel)
    (by first | exact .inl (by decide +kernel) | exact .inr (by decide +kernel)) (by rw [isSubtype_type]; kernel_rfl)
theorem type_find : typeOf (.builtin "bytes.find") = pure (.type "method_descriptor") := by show builtinType _ = _; rw [builtinType_eq_fast]; kernel_rfl
theorem entry_find : entryFor table "bytes.find" = some Builtin.«bytes.find» := entryFor_of_tree (by kernel_rfl)
theorem args_find (a b c d : Value) : argsOk "bytes.find" ⟨[a, b, c, d], []⟩ := by
  unfold argsOk; rw [signature?_of (id := "bytes.find") (n := ['d', 'n', 'i', 'f']) (o := ['s', 'e', 't', 'y', 'b']) (by kernel_rfl) FB.owner_bytes]; kernel_rfl
theorem slot_rstrip : Slot "bytes" "rstrip" "bytes.rstrip" :=
  .of (owner := "bytes") (n := "rstrip") (by rw [typeLookup_type, builtinLookup_eq_fast]; kernel_rfl) (by decide +kernel) (by decide +kernel) (by decide +kernel)
    (by first | exact .inl (by decide +kernel) | exact .inr (by decide +kernel)) (by rw [isSubtype_type]; kernel_rfl)
theorem type_rstrip : typeOf (.builtin "bytes.rstrip") = pure (.type "method_descriptor") := by show builtinType _ = _; rw [builtinType_eq_fast]; kernel_rfl
theorem entry_rstrip : entryFor table "bytes.rstrip" = some Builtin.«bytes.rstrip» := entryFor_of_tree (by kernel_rfl)
theorem args_rstrip (a b : Value) : argsOk "bytes.rstrip" ⟨[a, b], []⟩ := by
  unfold argsOk; rw [signature?_of (id := "bytes.rstrip") (n := ['p', 'i', 'r', 't', 's', 'r']) (o := ['s', 'e', 't', 'y', 'b']) (by kernel_rfl) FB.owner_bytes]; kernel_rfl
theorem ite_to {c : Prop} [Decidable c] {X Y : Prop} (hc : ¬ c) (h : Y) : if c then X else Y := by rw [if_neg hc]; exact h
theorem bound_int {M : Model} {A : Around} {E : Value → Shared → Prop} {s : Shared} {i : Int} {t : Tok} {Q : Option Int → Shared → Prop} (h : Q (some i) s) :
    wpAny M A (Builtin.Bytes.bound? (some (.int i t))) Q E s := by
  unfold Builtin.Bytes.bound?
  refine wpAny_bind (wpAny_specialOf (T := "int") (typeIs_int _ _ _) F.slot_int_index.lookup ?_)
  refine wpAny_ite (ite_to (show ¬ (Option.isNone (some _) = true) from Bool.false_ne_true) ?_)
  exact wpAny_bind (wpAny_of_eq (a := i) rfl (wpAny_pure h))
def findZ (b c : Array UInt8) (i j : Nat) : Int := match Builtin.Bytes.find? b c i j with | some f => f | none => -1
theorem gives_find {b c : Array UInt8} {t u ti tj : Tok} {i j : Nat} (hj : j ≤ b.size) (hc : i + c.size ≤ j) :
    Gives (Builtin.«bytes.find» ⟨[.bytes b t, .bytes c u, .int i ti, .int j tj], []⟩) (.int (findZ b c i j)) := by
  refine .of_wp fun M A E s Q hq => ?_
  show wpAny M A (Builtin.Bytes.searchArgs .bytes "find" _ >>= fun r => _) _ E s
  refine wpAny_bind ?_
  show wpAny M A (Builtin.Bytes.bound? (some (.int (i : Int) ti)) >>= fun r => _) _ E s
  refine wpAny_bind (bound_int ?_)
  show wpAny M A (Builtin.Bytes.bound? (some (.int (j : Int) tj)) >>= fun r => _) _ E s
  refine wpAny_bind (bound_int ?_)
  show wpAny M A (Builtin.Bytes.buffer? _ (.bytes c u) >>= fun r => _) _ E s
  refine wpAny_bind (wpAny_of_eq KBy.buffer_eq ?_)
  refine wpAny_bind (wpAny_pure ?_)
  refine wpAny_bind (wpAny_of_eq (a := b) rfl ?_)
  refine wpAny_pure ?_
  have hw : Builtin.Bytes.window b.size (some (i : Int)) (some (j : Int)) = ((i : Int), (j : Int)) := by
    unfold Builtin.Bytes.window
    simp only [Option.getD_some]
    have h1 : ¬ ((i : Int) < 0) := by omega
    have h2 : ¬ ((j : Int) < 0) := by omega
    rw [if_neg h1, if_neg h2]
    congr 1
    omega
  have hn : ¬ ((j : Int) - (i : Int) < (c.size : Int)) := by omega
  show wpAny M A (match (if (Builtin.Bytes.window b.size (some (i : Int)) (some (j : Int))).2 - (Builtin.Bytes.window b.size (some (i : Int)) (some (j : Int))).1 < (c.size : Int) then none
    else some ((Builtin.Bytes.window b.size (some (i : Int)) (some (j : Int))).1.toNat, (Builtin.Bytes.window b.size (some (i : Int)) (some (j : Int))).2.toNat) : Option (Nat × Nat)).bind (fun x => if false = true then Builtin.Bytes.rfind? b c x.1 x.2 else Builtin.Bytes.find? b c x.1 x.2) with
    | some f => retInt f | none => _) _ E s
  rw [hw]
  simp only [if_neg hn, Int.toNat_natCast, Option.bind_some, Bool.false_eq_true, if_false]
  unfold findZ at hq
  cases hf : Builtin.Bytes.find? b c i j with
  | some f =>
    rw [hf] at hq
    exact wpAny_bind (wpAny_mkInt (wpAny_pure ⟨_, rfl, hq⟩))
  | none =>
    rw [hf] at hq
    refine wpAny_bind (wpAny_rule ?_)
    exact wpAny_bind (wpAny_mkInt (wpAny_pure ⟨_, rfl, hq⟩))
section
variable {prog : Program} {w : World} {A : Around} {E : Value → Shared → Prop} {s : Shared} {b c : Array UInt8} {t u ti tj : Tok}
theorem meth_find {M : Model} {pl : Sem Bool} {Q : Value × List Value → Shared → Prop} (h : Q (.builtin "bytes.find", [.bytes b t]) s) : wpAny M A (getMethod (.bytes b t) "find" pl) Q E s := by
  with_reducible exact KBd.method_of (.bytes b t) (typeIs_bytes _ _ _) slot_find type_find KBd.noRef h
theorem meth_rstrip {M : Model} {pl : Sem Bool} {Q : Value × List Value → Shared → Prop} (h : Q (.builtin "bytes.rstrip", [.bytes b t]) s) : wpAny M A (getMethod (.bytes b t) "rstrip" pl) Q E s := by
  with_reducible exact KBd.method_of (.bytes b t) (typeIs_bytes _ _ _) slot_rstrip type_rstrip KBd.noRef h
theorem call_find {i j : Nat} {Q : Value → Shared → Prop} (hj : j ≤ b.size) (hc : i + c.size ≤ j) (h : ∀ t' k, Q (.int (findZ b c i j) t') { s with toks := k }) :
    wpAny (model prog w) A (call (.builtin "bytes.find") [.bytes b t, .bytes c u, .int i ti, .int j tj]) Q E s :=
  call_gives slot_find (typeIs_bytes _ _ _) entry_find (args_find _ _ _ _) (gives_find hj hc) (h _ _)
end
/-- octets without some of a set at their end -/
def stripEnd (b c : Array UInt8) : Array UInt8 := ((b.toList.reverse.dropWhile c.contains).reverse).toArray
theorem strip_len (l : List UInt8) (p : UInt8 → Bool) (h : (l.reverse.dropWhile p).reverse.length = l.length) : (l.reverse.dropWhile p).reverse = l := by
  have h1 : (l.reverse.dropWhile p).length = l.reverse.length := by simpa using h
  have h2 : l.reverse.dropWhile p = l.reverse := List.IsSuffix.eq_of_length (List.dropWhile_suffix p) h1
  rw [h2, List.reverse_reverse]
theorem gives_rstrip {b c : Array UInt8} {t u : Tok} :
    Gives (Builtin.«bytes.rstrip» ⟨[.bytes b t, .bytes c u], []⟩) (if ((b.toList.reverse.dropWhile c.contains).reverse.length == b.size) = true then .val (.bytes b t) else .bytes (stripEnd b c)) := by
  refine .of_wp fun M A E s Q hq => ?_
  show wpAny M A (Builtin.Bytes.bytesLike _ (.bytes c u) >>= fun r => _) _ E s
  refine wpAny_bind (wpAny_of_eq KBd.like_eq ?_)
  refine wpAny_bind (wpAny_pure ?_)
  refine wpAny_bind (wpAny_of_eq (a := b) rfl ?_)
  show wpAny M A (if ((b.toList.reverse.dropWhile c.contains).reverse.length == b.size) = true then _ else _) _ E s
  by_cases hb : ((b.toList.reverse.dropWhile c.contains).reverse.length == b.size) = true
  · rw [if_pos hb] at hq ⊢
    refine wpAny_bind (wpAny_rule ?_)
    refine wpAny_bind (wpAny_bind (wpAny_typeOf (typeIs_bytes s b t) ?_))
    exact wpAny_pure (wpAny_pure ⟨_, rfl, hq⟩)
  · rw [if_neg hb] at hq ⊢
    exact wpAny_bind (wpAny_mkBytes (wpAny_pure ⟨_, rfl, hq.2⟩) hq.1)
theorem strip_size (b c : Array UInt8) : (stripEnd b c).size ≤ b.size := by
  unfold stripEnd
  rw [List.size_toArray, List.length_reverse]
  have h := (List.dropWhile_suffix c.contains (l := b.toList.reverse)).length_le
  simpa using h
section
variable {prog : Program} {w : World} {A : Around} {E : Value → Shared → Prop} {s : Shared} {b c : Array UInt8} {t u : Tok}
theorem call_rstrip {Q : Value → Shared → Prop} (hz : b.size ≤ 16777216) (h : ∀ t' k, Q (.bytes (stripEnd b c) t') { s with toks := k }) :
    wpAny (model prog w) A (call (.builtin "bytes.rstrip") [.bytes b t, .bytes c u]) Q E s := by
  refine call_gives slot_rstrip (typeIs_bytes _ _ _) entry_rstrip (args_rstrip _ _) gives_rstrip ?_
  by_cases hb : ((b.toList.reverse.dropWhile c.contains).reverse.length == b.size) = true
  · rw [if_pos hb]
    have e : stripEnd b c = b := by
      unfold stripEnd
      rw [strip_len b.toList c.contains (by simpa using hb)]
    have h' := h t s.toks
    rw [e] at h'
    exact h'
  · rw [if_neg hb]
    exact ⟨by rw [sizeLine_eq]; exact Nat.le_trans (strip_size b c) hz, h _ _⟩
/-- a cut of octets, whatever is known of them -/
theorem cut_any {value slice : PySem.Expr} {h₀ : Heap} {L : Addr} {m : PySem.Str → Option Value} {news : List (Addr × Obj)} {l v : Value} {lo hi : Option Int} {Q : Value → Shared → Prop} (hF : Fr h₀ L s.heap m) (hN : News h₀ L s.heap news) (hl : IsPart l lo) (hu : IsPart v hi) (hz : b.size ≤ 16777216)
    (h : ∀ h' t' k, Fr h₀ L h' m → News h₀ L h' news → Q (.bytes (KBy.picked b lo hi) t') { s with heap := h', toks := k })
    (hs : subscripted slice false (.bytes b t) (.ref s.heap.objs.size) = operate [.ref s.heap.objs.size, .bytes b t] (getItem (.bytes b t) (.ref s.heap.objs.size)) := by with_unfolding_all rfl)
    (ht : ∀ r, letTemporaryGo value (.bytes b t) r = pure () := by intro _; with_unfolding_all rfl) :
    wpAny (model prog w) A (subscriptTail value slice (.bytes b t) (.ref s.heap.objs.size)) Q E { s with heap := s.heap.push { cls := .type "slice", data := .fields #[l, v, .none] } } :=
  KBc.slice_K hF hN rfl hl hu (by rw [KBw.ints_length]; exact hz) (fun h' t' k F N _ => h h' t' k F N) hs ht
end
end Mine
namespace Mine
section
variable {prog : Program} {w : World} {A : Around} {E : Value → Shared → Prop} {s : Shared} {b c : Array UInt8} {t u ti tj : Tok}
theorem call_findAt {i j : Nat} {f : Int} {Q : Value → Shared → Prop} (hf : findZ b c i j = f) (hj : j ≤ b.size) (hc : i + c.size ≤ j) (h : ∀ t' k, Q (.int f t') { s with toks := k }) :
    wpAny (model prog w) A (call (.builtin "bytes.find") [.bytes b t, .bytes c u, .int i ti, .int j tj]) Q E s := by
  subst hf
  exact call_find hj hc h
theorem findZ_some {i j f : Nat} (h : Builtin.Bytes.find? b c i j = some f) : findZ b c i j = f := by unfold findZ; rw [h]
theorem byte_at {value slice : PySem.Expr} {i : Int} {ui : Tok} {k : Nat} {Q : Value → Shared → Prop} (hfit : b.size ≤ 16777216) (hi : i = (k : Int)) (h1 : k < b.size) (h : ∀ t' k', Q (.int ((b.getD k 0).toNat : Int) t') { s with toks := k' })
    (hs : subscripted slice false (.bytes b t) (.int i ui) = operate [.bytes b t, .int i ui] (getItem (.bytes b t) (.int i ui)) := by with_unfolding_all rfl)
    (ht : ∀ r, letTemporaryGo value (.bytes b t) r = pure () := by intro _; with_unfolding_all rfl) : wpAny (model prog w) A (subscriptTail value slice (.bytes b t) (.int i ui)) Q E s := by
  subst hi
  have e : b.toList.toArray = b := Array.toArray_toList
  have q := KBy.item_N (prog := prog) (w := w) (A := A) (E := E) (s := s) (value := value) (slice := slice) (t := t) (x := b.toList) (i := (k : Int)) (ui := ui) (Q := Q) (by rw [Array.length_toList]; omega) (by omega) (by rw [Array.length_toList]; omega)
    (by
      have h2 := h s.toks (s.toks + 1)
      have e2 : b.toList.getD (k : Int).toNat 0 = b.getD k 0 := by
        rw [Int.toNat_natCast, List.getD_eq_getElem?_getD, Array.getD_eq_getD_getElem?]
        simp
      rw [e2]
      exact h2) (by rw [e]; exact hs) (by rw [e]; exact ht)
  rw [e] at q
  exact q
end
end Mine
namespace Mine
theorem byte_in {prog : Program} {w : World} {A : Around} {E : Value → Shared → Prop} {s : Shared} {b : Array UInt8} {t : Tok} {value slice : PySem.Expr} {i : Int} {ui : Tok} {Q : Value → Shared → Prop} (hfit : b.size ≤ 16777216) (h0 : 0 ≤ i) (h1 : i < (b.size : Int)) (h : ∀ t' k', Q (.int ((b.getD i.toNat 0).toNat : Int) t') { s with toks := k' })
    (hs : subscripted slice false (.bytes b t) (.int i ui) = operate [.bytes b t, .int i ui] (getItem (.bytes b t) (.int i ui)) := by with_unfolding_all rfl)
    (ht : ∀ r, letTemporaryGo value (.bytes b t) r = pure () := by intro _; with_unfolding_all rfl) : wpAny (model prog w) A (subscriptTail value slice (.bytes b t) (.int i ui)) Q E s :=
  byte_at (k := i.toNat) hfit (by omega) (by omega) h hs ht
end Mine
end PartB1

section PartWh
open PySem PySem.W PySem.Calls PyProof.Rows
namespace Mine
/-- the end of a turn of a while: a state again, new objects laid to the ledger's tail, a lesser measure -/
def DwEnd {σ : Type} (h₀ : Heap) (L : Addr) (s : Shared) (Led : σ → List (Addr × Obj)) (cst : List (Addr × Obj)) (ps : σ → List (Str × Value)) (Facts : List (Addr × Obj) → σ → Prop) (stored : List Str) (m₀ : Str → Option Value) (P : σ → Prop) (μ : σ → Nat) (c : σ) (s₂ : Shared) : Prop :=
  ∃ (c' : σ) (tl' : List (Addr × Obj)) (h' : Heap) (tk : Nat) (m' : Str → Option Value) (news' : List (Addr × Obj)), s₂ = { s with heap := h', toks := tk } ∧ Fr h₀ L h' m' ∧ News h₀ L h' news' ∧ (∀ p ∈ Led c' ++ (tl' ++ cst), p ∈ news') ∧ Facts tl' c' ∧
    (∀ p ∈ ps c', m' p.1 = some p.2) ∧ (∀ z, (∀ p ∈ ps c', z ≠ p.1) → stored.contains z = false → m' z = m₀ z) ∧ P c' ∧ μ c' < μ c
def DwPost {σ : Type} (h₀ : Heap) (L : Addr) (s : Shared) (Led : σ → List (Addr × Obj)) (cst : List (Addr × Obj)) (ps : σ → List (Str × Value)) (Facts : List (Addr × Obj) → σ → Prop) (stored : List Str) (m₀ : Str → Option Value) (P : σ → Prop) (μ : σ → Nat) (Q : Flow → Shared → Prop) (c : σ) (f : Flow) (s₂ : Shared) : Prop :=
  match f with
  | .ret v => Q (.ret v) s₂
  | .brk => Q .next s₂
  | _ => DwEnd h₀ L s Led cst ps Facts stored m₀ P μ c s₂
theorem dw_end {σ : Type} {h₀ : Heap} {L : Addr} {s : Shared} {Led : σ → List (Addr × Obj)} {cst : List (Addr × Obj)} {ps : σ → List (Str × Value)} {Facts : List (Addr × Obj) → σ → Prop} {stored : List Str} {m₀ m' : Str → Option Value} {P : σ → Prop} {μ : σ → Nat} {c : σ} {h' : Heap} {tk : Nat} {news' : List (Addr × Obj)} (c' : σ) (tl' : List (Addr × Obj))
    (F : Fr h₀ L h' m') (N : News h₀ L h' news') (hn : ∀ p ∈ Led c' ++ (tl' ++ cst), p ∈ news') (hf : Facts tl' c') (hk : ∀ p ∈ ps c', m' p.1 = some p.2) (hr : ∀ z, (∀ p ∈ ps c', z ≠ p.1) → stored.contains z = false → m' z = m₀ z) (hp : P c') (hm : μ c' < μ c) :
    DwEnd h₀ L s Led cst ps Facts stored m₀ P μ c { s with heap := h', toks := tk } := ⟨c', tl', h', tk, m', news', rfl, F, N, hn, hf, hk, hr, hp, hm⟩
section
variable {prog : Program} {w : World} {A : Around} {E : Value → Shared → Prop} {Q : Flow → Shared → Prop} {s : Shared} {env : Env} {h₀ : Heap} {L : Addr}
theorem dw_while {σ : Type} {test : Expr} {body : List Stmt} {pos : Pos} {m₀ : Str → Option Value} {news : List (Addr × Obj)} (Led : σ → List (Addr × Obj)) (cst : List (Addr × Obj)) (ps : σ → List (Str × Value)) (Facts : List (Addr × Obj) → σ → Prop) (stored : List Str) (P : σ → Prop) (μ : σ → Nat) (c₀ : σ)
    (F : Fr h₀ L s.heap m₀) (N : News h₀ L s.heap news) (hn : ∀ p ∈ Led c₀ ++ ([] ++ cst), p ∈ news) (hf : Facts [] c₀) (hk : ∀ p ∈ ps c₀, m₀ p.1 = some p.2) (hp : P c₀)
    (turn : ∀ (c : σ) tl (u : Str → Option Value) h tk, Facts tl c → P c → Fr h₀ L h (kstB (fun z => if stored.contains z then u z else m₀ z) (ps c)) → News h₀ L h (Led c ++ (tl ++ cst)) →
      wpAny (model prog w) A (isTrue test env (eval test env)) (fun b s₂ =>
        if b = true then wpAny (model prog w) A (execs body env) (DwPost h₀ L s Led cst ps Facts stored m₀ P μ Q c) E s₂ else Q .next s₂) E { s with heap := h, toks := tk })
    (hE : PassesOwn (model prog w) A env E) :
    wpAny (model prog w) A (exec (.While test body [] pos) env) Q E s := by
  refine While_inv2 (fun n m nx => ∃ (c : σ) (tl : List (Addr × Obj)), nx = Led c ++ (tl ++ cst) ∧ μ c = n ∧ Facts tl c ∧ (∀ p ∈ ps c, m p.1 = some p.2) ∧ (∀ z, (∀ p ∈ ps c, z ≠ p.1) → stored.contains z = false → m z = m₀ z) ∧ P c) F (fun p hp => N p (hn p hp)) ⟨c₀, [], rfl, rfl, hf, hk, fun _ _ _ => rfl, hp⟩ ?_ hE
  rintro n m₁ nx h tk F₁ N₁ ⟨c, tl, hnx, hsz, hf', h1, h2, hp'⟩
  rw [hnx] at N₁
  rw [← hsz]
  refine wpAny_mono (turn c tl m₁ h tk hf' hp' (ksw_fr h1 h2 F₁) N₁) (fun b s₂ p => ?_) fun _ _ x => x
  cases b with
  | false => simpa using p
  | true =>
    simp only [if_true] at p ⊢
    refine wpAny_mono p (fun f s₃ q => ?_) fun _ _ x => x
    have up : DwEnd h₀ L s Led cst ps Facts stored m₀ P μ c s₃ → WhileStep2 h₀ L s (fun n m nx => ∃ (c : σ) (tl : List (Addr × Obj)), nx = Led c ++ (tl ++ cst) ∧ μ c = n ∧ Facts tl c ∧ (∀ p ∈ ps c, m p.1 = some p.2) ∧ (∀ z, (∀ p ∈ ps c, z ≠ p.1) → stored.contains z = false → m z = m₀ z) ∧ P c) Q (μ c) .next s₃ := by
      rintro ⟨c', tl', h', tk', m', news', rfl, F', N', hn', hf9, hk9, hr9, hp9, hm9⟩
      exact ⟨h', tk', m', _, μ c', rfl, F', fun p hp => N' p (hn' p hp), hm9, c', tl', rfl, rfl, hf9, hk9, hr9, hp9⟩
    cases f with
    | ret v => exact q
    | brk => exact q
    | next => exact up q
    | cont => exact up q
end
end Mine
end PartWh

section PartL1
open PySem PySem.W PyProof.Rows
namespace Mine
/-- what line_spans tells of octets from a place to an end, each line with its feed -/
inductive Spans (d : Array UInt8) (e : Nat) : Nat → List (Nat × Nat × Nat) → Prop
  | done {b : Nat} : e ≤ b → Spans d e b []
  | line {b f : Nat} {r : List (Nat × Nat × Nat)} : b < e → b ≤ f → f < e → Builtin.Bytes.find? d #[10] b e = some f → Spans d e (f + 1) r →
      Spans d e b ((b, (if b < f ∧ d.getD (f - 1) 0 = 13 then f - 1 else f), f + 1) :: r)
theorem spans_len {d : Array UInt8} {e b : Nat} {sp : List (Nat × Nat × Nat)} (h : Spans d e b sp) : sp.length ≤ e - b := by
  induction h with
  | done h => exact Nat.zero_le _
  | line h1 h2 h3 _ _ ih =>
    rw [List.length_cons]
    omega
def spanD (p : Nat × Nat × Nat) : Dat := .tuple [.int p.1, .int p.2.1, .int p.2.2]
structure LsSt where
  b : Nat
  t : Tok
  vs : List Value
  n : Nat
  dn : List (Nat × Nat × Nat)
  rs : List (Nat × Nat × Nat)
theorem dat_int {news : List (Addr × Obj)} {x y : Int} {t : Tok} (h : x = y) : DatIn news (Value.int x t) (Dat.int y) := by subst h; exact .int _ _
abbrev lsLed (l9 : Addr) : LsSt → List (Addr × Obj) := fun c => [(l9, listOf c.vs.toArray c.n)]
abbrev lsPs : LsSt → List (Str × Value) := fun c => [("begin", .int c.b c.t)]
abbrev lsFa (l9 : Addr) : List (Addr × Obj) → LsSt → Prop := fun tl c => DatAll tl c.vs (c.dn.map spanD) ∧ ∀ p ∈ tl, l9 < p.1
abbrev lsSto : List Str := ["feed", "last", "begin"]
abbrev lsP (d : Array UInt8) (e : Nat) (sp : List (Nat × Nat × Nat)) : LsSt → Prop := fun c => Spans d e c.b c.rs ∧ c.dn ++ c.rs = sp
abbrev lsMu (e : Nat) : LsSt → Nat := fun c => e - c.b
theorem ls_end {h₀ h' : Heap} {L l9 D : Addr} {s : Shared} {tk n b f e : Nat} {t tb tx ty tz : Tok} {m' m₀ : Str → Option Value} {vs : List Value} {dn r sp : List (Nat × Nat × Nat)} {d : Array UInt8} {x y : Int} {tl news : List (Addr × Obj)} {la : Nat}
    (F : Fr h₀ L h' m') (N : News h₀ L h' ((D, { cls := .type "tuple", data := .seq [Value.int b tb, Value.int x tx, Value.int y ty].toArray }) :: (l9, listOf (vs.toArray.push (.ref D)) (n + 1)) :: (tl ++ news)))
    (hD : DatAll tl vs (dn.map spanD)) (hO : ∀ p ∈ tl, l9 < p.1) (hlt : l9 < D) (hx : x = (la : Int)) (hy : y = ((f + 1 : Nat) : Int)) (hS : Spans d e (f + 1) r) (hE : dn ++ (b, la, f + 1) :: r = sp)
    (hk : m' "begin" = some (.int y tz)) (hr : ∀ z, (∀ p ∈ [(Str.ofString "begin", Value.int ((f + 1 : Nat) : Int) tz)], z ≠ p.1) → lsSto.contains z = false → m' z = m₀ z) (hf : f < e) (hb : b ≤ f) :
    DwEnd h₀ L s (lsLed l9) news lsPs (lsFa l9) lsSto m₀ (lsP d e sp) (lsMu e) ⟨b, t, vs, n, dn, (b, la, f + 1) :: r⟩ { s with heap := h', toks := tk } := by
  subst hx hy
  refine dw_end ⟨f + 1, tz, vs ++ [.ref D], n + 1, dn ++ [(b, la, f + 1)], r⟩ ((D, { cls := .type "tuple", data := .seq [Value.int b tb, Value.int (la : Int) tx, Value.int ((f + 1 : Nat) : Int) ty].toArray }) :: tl) F N ?_ ⟨?_, ?_⟩ ?_ hr ⟨hS, ?_⟩ ?_
  · intro p hp
    simp only [lsLed, List.cons_append, List.nil_append, List.mem_cons, List.mem_append] at hp ⊢
    rcases hp with h | h | h | h
    · refine .inr (.inl ?_)
      rw [h]
      congr 2
      simp
    · exact .inl h
    · exact .inr (.inr (.inl h))
    · exact .inr (.inr (.inr h))
  · rw [List.map_append]
    exact DatAll.append (DatAll.mono (fun p hp => List.mem_cons_of_mem _ hp) hD) (.cons (.tuple (List.mem_cons_self ..) (.cons (.int _ _) (.cons (.int _ _) (.cons (.int _ _) .nil)))) .nil)
  · intro p hp
    rcases List.mem_cons.mp hp with rfl | hp
    · exact hlt
    · exact hO p hp
  · intro p hp
    rw [List.mem_singleton.mp hp]
    exact hk
  · show (dn ++ [(b, la, f + 1)]) ++ r = sp
    rw [← hE, List.append_assoc]
    rfl
  · show e - (f + 1) < e - b
    omega
local macro_rules | `(tactic| cell_enter) => `(tactic| (refine' code_def ?k1 ?k2 ?k3 ?k4 ?k5 ?kA ?kF ?kK ?k6 ?k7 ?k8 ?k9 ?kB ?_ ?c2 ?c3 ?c4 ?c5; (case kA | kF => exact rfl); (case kK => assumption); (case k1 | k2 | k3 | k4 | k5 => k_asm); (case k6 | k7 => k_is); (case k8 => ktr_room); (case k9 => first | exact BindsTo.of_eq rfl | exact binds_K (by k_in) rfl (by k_is) rfl rfl rfl); (case c5 => decide); (case kB => exact locs rfl); (case c2 | c3 | c4 => exact rfl); k_whole; intro g' L' h' FG' F' N' B' X' T'; (try dsimp only); (try k_lift B'); (try k_fold)))
local macro_rules | `(tactic| walk_at "getMethod bytes") => `(tactic| (k_here; (with_reducible refine meth_find ?_)))
local macro_rules | `(tactic| walk_at "call builtin:bytes.find") => `(tactic| (k_here; (with_reducible refine' call_findAt ?k0 ?k1 ?k2 ?_); (case k0 | k1 => assumption); (case k2 => (show _ + 1 ≤ _; omega)); intro _ _))
local macro_rules | `(tactic| walk_at "subscriptTail") => `(tactic| (k_here; (with_reducible show wpAny _ _ (subscriptTail _ _ (Value.bytes _ _) (Value.int _ _)) _ _ _); k_dflt (refine' byte_in ?k0 ?k1 ?k2 ?_; (case k0 | k1 | k2 => omega); k_whole); intro _ _))
local macro_rules | `(tactic| k_all) => `(tactic| assumption)
set_option maxRecDepth 100000 in
set_option maxHeartbeats 8000000 in
theorem spans_tells (w : World) (mean : ExcName → Option Value) (mg mb : Str → Option Value) (d : Array UInt8) (at_ e : Nat) (td ta te : Tok) (news : List (Addr × Obj)) (sp : List (Nat × Nat × Nat))
   (hs : Spans d e at_ sp) (he : e ≤ d.size) (hz : d.size ≤ 100000) :
    Ask 2 w mean mg mb 41 news [.bytes d td, .int at_ ta, .int e te]
      (fun h₀ L m s Q => ∀ (r : Addr) (vs : List Value) (n : Nat) (tl : List (Addr × Obj)) (h' : Heap) (tk' : Nat), Fr h₀ L h' m → News h₀ L h' ((r, listOf vs.toArray n) :: (tl ++ news)) → DatAll tl vs (sp.map spanD) →
        (∀ p ∈ news, p.1 < r) → (∀ p ∈ tl, r < p.1) → Q (.ref r) { s with heap := h', toks := tk' }) := by
  w_top off
  unfold Ask
  k_fill
  intros
  rename_i hret
  refine wpAny_call ?_
  k_dflt cell_enter
  repeat' ((fail_if_success (with_reducible show wpAny _ _ (exec (Stmt.While _ _ _ _) _) _ _ _)); first | (k_unfold; (try dsimp only)) | (k_end; wrow_close) | walk1 | (dsimp only; walk1) | (leave1; walk_say "STEP leave1"; try dsimp only) | fail "no step")
  rename Fr _ _ _ _ => lF
  rename News _ _ _ _ => lN
  rename ∀ p ∈ news, p.1 < _ => hlt
  have hmn : ¬ ((d.size : Int) < (e : Int)) := by omega
  simp only [if_neg hmn] at lF
  rename_i l9 _ _ _
  refine dw_while (lsLed l9) news lsPs (lsFa l9) lsSto (lsP d e sp) (lsMu e) ⟨at_, ta, [], 0, [], sp⟩ lF lN (fun _ hp => hp) ⟨.nil, fun _ hp => nomatch hp⟩ (by kst_all) ⟨hs, rfl⟩ ?_ ?_
  · clear lF lN
    rintro ⟨b, t, vs, n, dn, rs⟩ tl u h tk ⟨hD, hO⟩ ⟨hS, hE⟩ F' N'
    dsimp only [kstB] at hD hO hS hE F' N'
    simp only [List.cons_append, List.nil_append] at N'
    have hall : ∀ p ∈ tl ++ news, p.1 ≠ l9 := fun p hp => (List.mem_append.mp hp).elim (fun h => Nat.ne_of_gt (hO p h)) fun h => Nat.ne_of_lt (hlt p h)
    have hvl : vs.length = dn.length := by rw [hD.length, List.length_map]
    cases hS with
    | done hge =>
      (show wpAny _ _ _ _ _ _); k_fold
      k_steps
      all_goals exact hret l9 vs n tl _ _ (by k_asm) (by k_asm) (by rw [List.append_nil] at hE; rw [← hE]; exact hD) hlt hO
    | @line _ f r hbe hbf hfe hfz hS =>
      have hfi := findZ_some hfz
      have hsz : vs.toArray.size ≤ sizeLine := by
        have h1 := spans_len hs
        have h2 := congrArg List.length hE
        rw [List.length_append] at h2
        rw [List.size_toArray, hvl, sizeLine_eq]
        omega
      (show wpAny _ _ _ _ _ _); k_fold
      k_steps
      all_goals (rename News _ _ _ _ => nE; dsimp only [DwPost]; refine ls_end (by assumption) nE hD hO (by refine ltN ?_; omega) ?_ (by omega) hS hE rfl (by ksw_same) hfe hbf)
      · rename (b : Int) < f => q1
        rename _ = (13 : Int) => q2
        have e1 : ((f : Int) - 1).toNat = f - 1 := by omega
        rw [e1] at q2
        have q3 : d.getD (f - 1) 0 = 13 := UInt8.toNat_inj.mp (by show _ = 13; omega)
        rw [if_pos ⟨by omega, q3⟩]
        omega
      · rename _ ≠ (13 : Int) => q2
        have e1 : ((f : Int) - 1).toNat = f - 1 := by omega
        rw [e1] at q2
        rw [if_neg (fun q => q2 (by rw [q.2]; rfl))]
      · rw [if_neg (fun q => by omega)]
  · k_steps
end Mine
end PartL1

section PartW2
open PySem PySem.W PyProof.Rows
namespace Mine
def wayOf (line bd : Array UInt8) : PySem.Str :=
  if (KBy.picked line none (some ((#[45, 45] ++ bd).size : Int))).toList != (#[45, 45] ++ bd).toList then Str.ofString ""
  else if (stripEnd (KBy.picked line (some ((#[45, 45] ++ bd).size : Int)) none) #[32, 9]).toList == (#[] : Array UInt8).toList then Str.ofString "next"
  else if (stripEnd (KBy.picked line (some ((#[45, 45] ++ bd).size : Int)) none) #[32, 9]).toList == (#[45, 45] : Array UInt8).toList then Str.ofString "last" else Str.ofString ""
local macro_rules | `(tactic| walk_at "getMethod bytes") => `(tactic| (k_here; (with_reducible refine meth_rstrip ?_)))
local macro_rules | `(tactic| walk_at "call builtin:bytes.rstrip") => `(tactic| (k_here; (with_reducible refine' call_rstrip ?k0 ?_); (case k0 => omega); intro _ _))
local macro_rules | `(tactic| walk_at "binaryOp Add bytes bytes") => `(tactic| (k_here; (with_reducible show wpAny _ _ (binaryOp Operator.Add (Value.bytes _ _) (Value.bytes _ _)) _ _ _); (refine' KBy.add_bytes ?k0 ?_); (case k0 => (simp only [List.size_toArray, List.length_cons, List.length_nil]; omega)); intro _ _))
local macro_rules | `(tactic| walk_at "subscriptTail") => `(tactic| (k_here; (with_reducible show wpAny _ _ (subscriptTail _ (Expr.Slice _ _ none _) (Value.bytes _ _) (Value.ref _)) _ _ _); (with_reducible rename Fr _ _ _ _ => F'); (with_reducible rename News _ _ _ _ => N'); (refine cut_any (s := ⟨_, _, _, _, _⟩) F' N' (by constructor) (by constructor) (by omega) ?_); intro _ _ _ _ _))
local macro_rules | `(tactic| walk_at "call builtin:len") => `(tactic| (k_here; (with_reducible show wpAny _ _ (call (Value.builtin "len") [Value.bytes _ _]) _ _ _); (refine' len_bytes ?k0 ?_); (case k0 => omega)))
set_option maxRecDepth 100000 in
set_option maxHeartbeats 8000000 in
theorem way_tells (w : World) (mean : ExcName → Option Value) (mg mb : Str → Option Value) (line bd : Array UInt8) (tl tb : Tok) (news : List (Addr × Obj))
   (hl : line.size ≤ 100000) (hb : bd.size ≤ 100) :
    Ask 2 w mean mg mb 109 news [.bytes line tl, .bytes bd tb]
      (fun h₀ L m s Q => ∀ (t : Tok) (h' : Heap) (tk' : Nat), Fr h₀ L h' m → News h₀ L h' news → Q (.str (wayOf line bd) t) { s with heap := h', toks := tk' }) := by
  w_top off
  unfold Ask
  k_fill
  intros
  rename_i hret
  have hms : (#[45, 45] ++ bd).size ≤ 200 := by rw [Array.size_append]; show 2 + bd.size ≤ 200; omega
  have hp1 := Nat.le_trans (KBc.size_picked_le line none (some ((#[45, 45] ++ bd).size : Int))) hl
  have hp2 := Nat.le_trans (KBc.size_picked_le line (some ((#[45, 45] ++ bd).size : Int)) none) hl
  refine wpAny_call ?_
  k_dflt cell_enter
  k_steps
  all_goals (refine cb_retS (x := wayOf line bd) hret ?_ (by k_asm) (by k_asm); unfold wayOf)
  · rw [if_pos (by assumption)]
  · rw [if_neg (ne_true_of_eq_false (by assumption)), if_pos (by assumption)]
  · rw [if_neg (ne_true_of_eq_false (by assumption)), if_neg (ne_true_of_eq_false (by assumption)), if_pos (by assumption)]
  · rw [if_neg (ne_true_of_eq_false (by assumption)), if_neg (ne_true_of_eq_false (by assumption)), if_neg (ne_true_of_eq_false (by assumption))]
end Mine
end PartW2

section PartTr
open PySem PySem.W PySem.Calls PyProof.Rows
namespace Mine
/-- the end of a turn of a for over a list of the ledger's -/
def DtEnd {σ : Type} (h₀ : Heap) (L : Addr) (s : Shared) (Led : σ → List (Addr × Obj)) (cst : List (Addr × Obj)) (ps : σ → List (Str × Value)) (Facts : List (Addr × Obj) → σ → Prop) (stored : List Str) (m₀ : Str → Option Value) (P : Nat → σ → Prop) (own : List (Addr × Obj)) (i : Nat) (s₂ : Shared) : Prop :=
  ∃ (c' : σ) (tl' : List (Addr × Obj)) (h' : Heap) (tk : Nat) (m' : Str → Option Value) (news' : List (Addr × Obj)), s₂ = { s with heap := h', toks := tk } ∧ Fr h₀ L h' m' ∧ News h₀ L h' news' ∧ (∀ p ∈ Led c' ++ (tl' ++ cst), p ∈ news') ∧ (∀ p ∈ own, p ∈ news') ∧ OwnOff own ((Led c' ++ (tl' ++ cst)).map (·.1)) ∧ Facts tl' c' ∧
    (∀ p ∈ ps c', m' p.1 = some p.2) ∧ (∀ z, (∀ p ∈ ps c', z ≠ p.1) → stored.contains z = false → m' z = m₀ z) ∧ P i c'
def DtPost {σ : Type} (h₀ : Heap) (L : Addr) (s : Shared) (Led : σ → List (Addr × Obj)) (cst : List (Addr × Obj)) (ps : σ → List (Str × Value)) (Facts : List (Addr × Obj) → σ → Prop) (stored : List Str) (m₀ : Str → Option Value) (P : Nat → σ → Prop) (own : List (Addr × Obj)) (Q : Flow → Shared → Prop) (i : Nat) (f : Flow) (s₂ : Shared) : Prop :=
  match f with
  | .ret v => Q (.ret v) s₂
  | .brk => Q .next s₂
  | _ => DtEnd h₀ L s Led cst ps Facts stored m₀ P own i s₂
theorem dt_end {σ : Type} {h₀ : Heap} {L : Addr} {s : Shared} {Led : σ → List (Addr × Obj)} {cst : List (Addr × Obj)} {ps : σ → List (Str × Value)} {Facts : List (Addr × Obj) → σ → Prop} {stored : List Str} {m₀ m' : Str → Option Value} {P : Nat → σ → Prop} {own : List (Addr × Obj)} {i : Nat} {h' : Heap} {tk : Nat} {news' : List (Addr × Obj)} (c' : σ) (tl' : List (Addr × Obj))
    (F : Fr h₀ L h' m') (N : News h₀ L h' news') (hn : ∀ p ∈ Led c' ++ (tl' ++ cst), p ∈ news') (ho : ∀ p ∈ own, p ∈ news') (ha : OwnOff own ((Led c' ++ (tl' ++ cst)).map (·.1))) (hf : Facts tl' c') (hk : ∀ p ∈ ps c', m' p.1 = some p.2) (hr : ∀ z, (∀ p ∈ ps c', z ≠ p.1) → stored.contains z = false → m' z = m₀ z) (hp : P i c') :
    DtEnd h₀ L s Led cst ps Facts stored m₀ P own i { s with heap := h', toks := tk } := ⟨c', tl', h', tk, m', news', rfl, F, N, hn, ho, ha, hf, hk, hr, hp⟩
section
variable {prog : Program} {w : World} {A : Around} {E : Value → Shared → Prop} {Q : Flow → Shared → Prop} {s : Shared} {env : Env} {h₀ : Heap} {target : Expr} {body : List Stmt}
theorem dt_list {σ : Type} {l : Addr} {vs : List Value} {nn : Nat} {m₀ : Str → Option Value} {news : List (Addr × Obj)} (Led : σ → List (Addr × Obj)) (cst : List (Addr × Obj)) (ps : σ → List (Str × Value)) (Facts : List (Addr × Obj) → σ → Prop) (stored : List Str) (P : Nat → σ → Prop) (c₀ : σ)
    (hh : A.handled = none) (hl : (l, listOf vs.toArray nn) ∈ cst) (F : Fr h₀ env.locals s.heap m₀) (N : News h₀ env.locals s.heap news) (hn : ∀ p ∈ Led c₀ ++ ([] ++ cst), p ∈ news) (hf : Facts [] c₀) (hk : ∀ p ∈ ps c₀, m₀ p.1 = some p.2) (hp : P 0 c₀)
    (turn : ∀ (c : σ) tl i v (u : Str → Option Value) h tk own, vs[i]? = some v → OwnOff own ((Led c ++ (tl ++ cst)).map (·.1)) → Facts tl c → P i c → Fr h₀ env.locals h (kstB (fun z => if stored.contains z then u z else m₀ z) (ps c)) → News h₀ env.locals h (Led c ++ (tl ++ (cst ++ own))) →
      wpAny (model prog w) A (assign target env v) (fun _ s₃ => wpAny (model prog w) A (execs body env) (DtPost h₀ env.locals { s with heap := h, toks := tk } Led cst ps Facts stored m₀ P own Q (i + 1)) E s₃) E { s with heap := h, toks := tk })
    (done : ∀ (c : σ) tl (u : Str → Option Value) h tk, Facts tl c → P vs.length c → Fr h₀ env.locals h (kstB (fun z => if stored.contains z then u z else m₀ z) (ps c)) → News h₀ env.locals h (Led c ++ (tl ++ cst)) → Q .next { s with heap := h, toks := tk }) :
    wpAny (model prog w) A (pyIter (.ref l)) (fun it s₂ => TurnsAt prog w A h₀ env target body Q E it s₂) E s := by
  have hlN := N _ (hn _ (List.mem_append.mpr (.inr hl)))
  have hol : s.heap.get? l = some (listOf vs.toArray nn) := hlN.1
  have hls : s.heap.IsList l vs.toArray := ⟨_, hol, rfl, nn, rfl⟩
  have hne : l ≠ s.heap.objs.size := Nat.ne_of_lt (Heap.lt_size hol)
  have hlen : vs.toArray.size = vs.length := List.size_toArray
  refine wpAny_pyIter_list hls ?_
  have W := Walks.list (prog := prog) (w := w) hh s.heap.objs.size l hne vs.toArray
  rw [hlen] at W
  refine ⟨s.heap.objs.size, _, _, vs.length, _, _, _, m₀, Led c₀ ++ ([] ++ cst), (fun i m nx => ∃ (c : σ) (tl : List (Addr × Obj)), nx = Led c ++ (tl ++ cst) ∧ Facts tl c ∧ (∀ p ∈ ps c, m p.1 = some p.2) ∧ (∀ z, (∀ p ∈ ps c, z ≠ p.1) → stored.contains z = false → m z = m₀ z) ∧ P i c), rfl,
    KTurns.ofWalks W fun i v s Q E st q => letGo_listiter st.1 q, ?_, ?_, ?_, ⟨⟨_, Heap.get?_push_size _ rfl, rfl, rfl⟩, hls.at fun o e => Heap.get?_push_of_some _ e⟩, F.push _, (fun p hp => ⟨Heap.get?_push_of_some _ (N p (hn p hp)).1, (N p (hn p hp)).2⟩), ⟨c₀, [], rfl, hf, hk, fun _ _ _ => rfl, hp⟩, ?_, ?_⟩
  · intro hm
    rcases List.mem_cons.mp hm with e | hm
    · exact absurd F.ns.lt (e ▸ Nat.lt_irrefl _)
    · exact hlN.2.1 (List.mem_singleton.mp hm).symm
  · intro b hb
    rw [List.mem_singleton.mp hb]
    exact next_is_new F
  · intro p hp hI
    exact absurd (Heap.lt_size (N p (hn p hp)).1) ((List.mem_singleton.mp hI) ▸ Nat.lt_irrefl _)
  · rintro i v m₁ news₁ h₁ tk₁ own hin hP ⟨c, tl, rfl, hf', h1, h2, hp'⟩ hoff hown hget hall hst F₁ N₁
    have hv : vs[i]? = some v := by simpa using hP
    obtain ⟨⟨oI, hoI, _⟩, _⟩ := id hst
    have hI0 : h₀.get? s.heap.objs.size = none := next_is_new F
    have hIown : (s.heap.objs.size, oI) ∈ own.filter fun p => decide (p.1 = s.heap.objs.size) := List.mem_filter.mpr ⟨hall _ (List.mem_cons_self ..) hI0 _ hoI, by simp⟩
    have hsep : OwnOff (own.filter fun p => decide (p.1 = s.heap.objs.size)) ((Led c ++ (tl ++ cst)).map (·.1)) := by
      intro p hp b hb e
      obtain ⟨q, hq, rfl⟩ := List.mem_map.mp hb
      have e1 : p.1 = s.heap.objs.size := by simpa using (List.mem_filter.mp hp).2
      exact hoff q hq (List.mem_singleton.mpr (e ▸ e1))
    have N₂ : News h₀ env.locals h₁ (Led c ++ (tl ++ (cst ++ own.filter fun p => decide (p.1 = s.heap.objs.size)))) := by
      intro p hp
      rw [← List.append_assoc, ← List.append_assoc] at hp
      rcases List.mem_append.mp hp with h | h
      · exact N₁ p (List.mem_append.mpr (.inr (by rw [← List.append_assoc]; exact h)))
      · exact N₁ p (List.mem_append.mpr (.inl (List.mem_filter.mp h).1))
    have hlo : h₁.get? l = some (listOf vs.toArray nn) := (N₁ _ (List.mem_append.mpr (.inr (List.mem_append.mpr (.inr (List.mem_append.mpr (.inr hl))))))).1
    refine wpAny_mono (turn c tl i v m₁ h₁ tk₁ _ hv hsep hf' hp' (ksw_fr h1 h2 F₁) N₂) (fun _ s₃ q => wpAny_mono q (fun f s₄ z => ?_) fun _ _ x => x) fun _ _ x => x
    have up : DtEnd h₀ env.locals { s with heap := h₁, toks := tk₁ } Led cst ps Facts stored m₀ P (own.filter fun p => decide (p.1 = s.heap.objs.size)) (i + 1) s₄ →
        LoopStepU h₀ env.locals [s.heap.objs.size] own (fun m nx => ∃ (c : σ) (tl : List (Addr × Obj)), nx = Led c ++ (tl ++ cst) ∧ Facts tl c ∧ (∀ p ∈ ps c, m p.1 = some p.2) ∧ (∀ z, (∀ p ∈ ps c, z ≠ p.1) → stored.contains z = false → m z = m₀ z) ∧ P (i + 1) c) { s with heap := h₁, toks := tk₁ } .next s₄ := by
      rintro ⟨c', tl', h', tk, m', news', e, F', N', hn', ho', ha', hf9, hk9, hr9, hp9⟩
      refine ⟨rfl, h', tk, m', _, e, F', fun p hp => ?_, fun p hp hq => ?_, c', tl', rfl, hf9, hk9, hr9, hp9⟩
      · rcases List.mem_append.mp hp with h | h
        · by_cases hI : p.1 = s.heap.objs.size
          · exact N' p (ho' p (List.mem_filter.mpr ⟨h, by simpa using hI⟩))
          · have e1 : p.1 = l := by
              rcases List.mem_cons.mp (hown p h) with e2 | e2
              · exact absurd e2 hI
              · exact List.mem_singleton.mp e2
            have e3 : h₁.get? p.1 = some p.2 := hget p h
            rw [e1, hlo] at e3
            have e4 : p = (l, listOf vs.toArray nn) := Prod.ext e1 (Option.some.inj e3).symm
            rw [e4]
            exact N' _ (hn' _ (List.mem_append.mpr (.inr (List.mem_append.mpr (.inr hl)))))
        · exact N' p (hn' p h)
      · exact ha' _ hIown p.1 (List.mem_map.mpr ⟨p, hp, rfl⟩) (List.mem_singleton.mp hq).symm
    cases f with
    | ret v => exact .ret z
    | brk => exact .brk z
    | next => exact .next (up z)
    | cont => exact .cont (up z)
  · rintro h' tk m' news' F' N' _ ⟨c, tl, rfl, hf', h1, h2, hp'⟩
    exact done c tl m' h' tk hf' hp' (ksw_fr h1 h2 F') N'
end
end Mine
end PartTr

section PartP1
open PySem PySem.W PyProof.Rows
namespace Mine
def psRun (wf : Nat × Nat × Nat → PySem.Str) (e : Int) : List (Nat × Nat × Nat) → Int → Int → List (Int × Int) → List (Int × Int)
  | [], g, _, fd => if 0 ≤ g then fd ++ [(g, e)] else fd
  | p :: r, g, bf, fd =>
    if wf p = Str.ofString "" then psRun wf e r g p.2.1 fd
    else if wf p = Str.ofString "last" then (if 0 ≤ g then fd ++ [(g, if bf > g then bf else g)] else fd)
    else psRun wf e r p.2.2 p.2.1 (if 0 ≤ g then fd ++ [(g, if bf > g then bf else g)] else fd)
def pairD (p : Int × Int) : Dat := .tuple [.int p.1, .int p.2]
abbrev wfOf (d bd : Array UInt8) (p : Nat × Nat × Nat) : PySem.Str := wayOf (KBy.picked d (some p.1) (some p.2.1)) bd
structure PsSt where
  g : Int
  bf : Int
  tg : Tok
  tb : Tok
  vs : List Value
  n : Nat
  fd : List (Int × Int)
abbrev psLed (l9 : Addr) : PsSt → List (Addr × Obj) := fun c => [(l9, listOf c.vs.toArray c.n)]
abbrev psPs : PsSt → List (Str × Value) := fun c => [("begun", .int c.g c.tg), ("before", .int c.bf c.tb)]
abbrev psFa (l9 : Addr) : List (Addr × Obj) → PsSt → Prop := fun tl c => DatAll tl c.vs (c.fd.map pairD) ∧ ∀ p ∈ tl, l9 < p.1
abbrev psSto : List Str := ["first", "last", "behind", "way", "begun", "before"]
abbrev psP (wf : Nat × Nat × Nat → PySem.Str) (e : Int) (sp : List (Nat × Nat × Nat)) (all : List (Int × Int)) : Nat → PsSt → Prop := fun i c => psRun wf e (sp.drop i) c.g c.bf c.fd = all ∧ c.fd.length ≤ i
theorem ps_end {h₀ h' : Heap} {L l9 : Addr} {s : Shared} {tk n i : Nat} {m' m₀ : PySem.Str → Option Value} {vs : List Value} {fd all : List (Int × Int)} {g bf e : Int} {tg tb : Tok} {tl cst own : List (Addr × Obj)} {wf : Nat × Nat × Nat → PySem.Str} {sp : List (Nat × Nat × Nat)}
    (F : Fr h₀ L h' m') (N : News h₀ L h' ((l9, listOf vs.toArray n) :: (tl ++ (cst ++ own)))) (hoff : OwnOff own (l9 :: (tl ++ cst).map (·.1))) (hD : DatAll tl vs (fd.map pairD)) (hO : ∀ p ∈ tl, l9 < p.1)
    (hk1 : m' "begun" = some (.int g tg)) (hk2 : m' "before" = some (.int bf tb)) (hr : ∀ z, (∀ p ∈ [(Str.ofString "begun", Value.int g tg), (Str.ofString "before", Value.int bf tb)], z ≠ p.1) → psSto.contains z = false → m' z = m₀ z)
    (hrun : psRun wf e (sp.drop i) g bf fd = all) (hl : fd.length ≤ i) :
    DtEnd h₀ L s (psLed l9) cst psPs (psFa l9) psSto m₀ (psP wf e sp all) own i { s with heap := h', toks := tk } := by
  refine dt_end ⟨g, bf, tg, tb, vs, n, fd⟩ tl F N ?_ ?_ hoff ⟨hD, hO⟩ ?_ hr ⟨hrun, hl⟩
  · intro p hp
    rcases List.mem_append.mp hp with h | h
    · exact List.mem_cons.mpr (.inl (List.mem_singleton.mp h))
    · rcases List.mem_append.mp h with h | h
      · exact List.mem_cons_of_mem _ (List.mem_append.mpr (.inl h))
      · exact List.mem_cons_of_mem _ (List.mem_append.mpr (.inr (List.mem_append.mpr (.inl h))))
  · intro p hp
    exact List.mem_cons_of_mem _ (List.mem_append.mpr (.inr (List.mem_append.mpr (.inr hp))))
  · intro p hp
    rcases List.mem_cons.mp hp with rfl | hp
    · exact hk1
    · rw [List.mem_singleton.mp hp]
      exact hk2
theorem pair_more {D : Addr} {g x : Int} {tg tx : Tok} {tl : List (Addr × Obj)} {vs : List Value} {fd : List (Int × Int)} (hD : DatAll tl vs (fd.map pairD)) :
    DatAll ((D, ({ cls := .type "tuple", data := .seq [Value.int g tg, Value.int x tx].toArray } : Obj)) :: tl) (vs ++ [.ref D]) ((fd ++ [(g, x)]).map pairD) := by
  rw [List.map_append]
  exact DatAll.append (DatAll.mono (fun p hp => List.mem_cons_of_mem _ hp) hD) (.cons (.tuple (List.mem_cons_self ..) (.cons (.int _ _) (.cons (.int _ _) .nil))) .nil)
theorem ps_more {h₀ h' : Heap} {L l9 D : Addr} {n : Nat} {vs : List Value} {o : Obj} {R : List (Addr × Obj)} (N : News h₀ L h' ((D, o) :: (l9, listOf (vs.toArray.push (Value.ref D)) (n + 1)) :: R)) :
    News h₀ L h' ((l9, listOf (vs ++ [Value.ref D]).toArray (n + 1)) :: ((D, o) :: R)) := by
  intro p hp
  rw [show vs.toArray.push (Value.ref D) = (vs ++ [Value.ref D]).toArray from List.push_toArray ..] at N
  refine N p ?_
  rcases List.mem_cons.mp hp with h | h
  · exact List.mem_cons_of_mem _ (List.mem_cons.mpr (.inl h))
  · rcases List.mem_cons.mp h with h | h
    · exact List.mem_cons.mpr (.inl h)
    · exact List.mem_cons_of_mem _ (List.mem_cons_of_mem _ h)
theorem off_more {own tl cst : List (Addr × Obj)} {l9 D : Addr} {o : Obj} (hoff : OwnOff own (l9 :: (tl ++ cst).map (·.1))) (hlt : AllLt D (tl ++ (cst ++ own))) : OwnOff own (l9 :: (((D, o) :: tl) ++ cst).map (·.1)) := by
  intro p hp b hb
  rcases List.mem_cons.mp hb with rfl | hb
  · exact hoff p hp _ (List.mem_cons_self ..)
  · rw [List.cons_append, List.map_cons] at hb
    rcases List.mem_cons.mp hb with rfl | hb
    · exact Nat.ne_of_lt (kst_ltOf hlt p (List.mem_append.mpr (.inr (List.mem_append.mpr (.inr hp)))))
    · exact hoff p hp _ (List.mem_cons_of_mem _ hb)
theorem above_more {tl : List (Addr × Obj)} {l9 D : Addr} {o : Obj} (hO : ∀ p ∈ tl, l9 < p.1) (h : l9 < D) : ∀ p ∈ (D, o) :: tl, l9 < p.1 := by
  intro p hp
  rcases List.mem_cons.mp hp with rfl | hp
  · exact h
  · exact hO p hp
theorem news_cut {h₀ h' : Heap} {L : Addr} {x : Addr × Obj} {R tl cst own news : List (Addr × Obj)} (N : News h₀ L h' (x :: R)) (hR : R = tl ++ (cst ++ own)) (hc : ∀ p ∈ news, p ∈ cst) : News h₀ L h' (x :: (tl ++ news)) := by
  intro p hp
  refine N p ?_
  rcases List.mem_cons.mp hp with h | h
  · exact List.mem_cons.mpr (.inl h)
  · refine List.mem_cons_of_mem _ ?_
    rw [hR]
    rcases List.mem_append.mp h with h | h
    · exact List.mem_append.mpr (.inl h)
    · exact List.mem_append.mpr (.inr (List.mem_append.mpr (.inl (hc p h))))
theorem news_cutA {h₀ h' : Heap} {L : Addr} {x y : Addr × Obj} {R tl cst own news : List (Addr × Obj)} (N : News h₀ L h' (x :: y :: R)) (hR : R = tl ++ (cst ++ own)) (hc : ∀ p ∈ news, p ∈ cst) : News h₀ L h' (x :: ((y :: tl) ++ news)) :=
  news_cut (tl := y :: tl) (cst := cst) (own := own) N (by rw [hR]; rfl) hc
local macro_rules | `(tactic| walk_at "DtPost") => `(tactic| (dsimp only [DtPost]))
local macro_rules | `(tactic| walk_at "call ref") => `(tactic| (k_here; (with_reducible show wpAny _ _ (call (Value.ref 41) _) _ _ _); k_dflt (refine' ask_use ?k1 ?k2 ?k3 ?k4 ?k5 ?k6 ?k7 ?k8 (spans_tells _ _ _ _ _ _ _ _ _ _ _ _ ?h1 ?h2 ?h3) ?_; (case k1 | k2 | k3 | k4 => k_asm); (case k5 => first | exact rfl | assumption); (case k6 => ktr_room); (case k7 => ktr_units); (case k8 => k_asm); (case h1 | h2 | h3 => assumption)); intro r' vs' n' tl' h' tk' F' N' hD' hlt' hO'))
local macro_rules | `(tactic| walk_at "call ref") => `(tactic| (k_here; (with_reducible show wpAny _ _ (call (Value.ref 109) _) _ _ _); k_dflt (refine' ask_use ?k1 ?k2 ?k3 ?k4 ?k5 ?k6 ?k7 ?k8 (way_tells _ _ _ _ _ _ _ _ _ ?h1 ?h2) ?_; (case k1 | k2 | k3 | k4 => k_asm); (case k5 => first | exact rfl | assumption); (case k6 => ktr_room); (case k7 => ktr_units); (case k8 => k_asm); (case h1 => exact Nat.le_trans (KBc.size_picked_le _ _ _) (by assumption)); (case h2 => assumption)); intro t' h' tk' F' N'))
local macro_rules | `(tactic| walk_at "subscriptTail") => `(tactic| (k_here; (with_reducible show wpAny _ _ (subscriptTail _ (Expr.Slice _ _ none _) (Value.bytes _ _) (Value.ref _)) _ _ _); (with_reducible rename Fr _ _ _ _ => F'); (with_reducible rename News _ _ _ _ => N'); (refine cut_any (s := ⟨_, _, _, _, _⟩) F' N' (by constructor) (by constructor) (by omega) ?_); intro _ _ _ _ _))
local macro_rules | `(tactic| k_all) => `(tactic| assumption)
set_option maxRecDepth 100000 in
set_option maxHeartbeats 8000000 in

theorem parts_tells (w : World) (mean : ExcName → Option Value) (mg mb : Str → Option Value) (d bd : Array UInt8) (at_ e : Nat) (td ta te tb : Tok) (news : List (Addr × Obj)) (sp : List (Nat × Nat × Nat))
   (hs : Spans d e at_ sp) (he : e ≤ d.size) (hz : d.size ≤ 100000) (hb : bd.size ≤ 100) :
    Ask 4 w mean mg mb 116 news [.bytes d td, .int at_ ta, .int e te, .bytes bd tb]
      (fun h₀ L m s Q => ∀ (r : Addr) (vs : List Value) (n : Nat) (tl : List (Addr × Obj)) (h' : Heap) (tk' : Nat), Fr h₀ L h' m → News h₀ L h' ((r, listOf vs.toArray n) :: (tl ++ news)) → DatAll tl vs ((psRun (wfOf d bd) e sp (-1) at_ []).map pairD) →
        (∀ p ∈ news, p.1 < r) → (∀ p ∈ tl, r < p.1) → Q (.ref r) { s with heap := h', toks := tk' }) := by
  w_top off
  unfold Ask
  k_fill
  intros
  rename_i hret
  refine wpAny_call ?_
  k_dflt cell_enter
  repeat' ((fail_if_success (with_reducible show wpAny _ _ (exec (Stmt.For _ _ _ _ _) _) _ _ _)); first | (k_unfold; (try dsimp only)) | (k_end; wrow_close) | walk1 | (dsimp only; walk1) | (leave1; walk_say "STEP leave1"; try dsimp only) | fail "no step")
  rename Fr _ _ _ _ => lF
  rename ∀ p ∈ news, p.1 < _ => hlt
  rename News _ _ _ _ => lN
  rename_i l9 _ _ _ _
  (with_unfolding_all refine' For_turns lF ?_)
  k_steps
  rename DatAll _ _ _ => hD2
  rename ∀ p ∈ _ :: news, Prod.fst p < _ => hlt2
  rename ∀ p ∈ _, _ < Prod.fst p => hO2
  rename_i r9 svs sn stl _ _ F2 N2
  have hlen2 := hD2.length
  rw [List.length_map] at hlen2
  have h19 : l9 < r9 := hlt2 _ (List.mem_cons_self ..)
  refine dt_list (psLed l9) ((r9, listOf svs.toArray sn) :: (stl ++ news)) psPs (psFa l9) psSto (psP (wfOf d bd) e sp (psRun (wfOf d bd) e sp (-1) at_ [])) ⟨-1, at_, _, _, [], 0, []⟩ rfl (List.mem_cons_self ..) F2 N2 ?_ ⟨.nil, fun _ hp => nomatch hp⟩ (by kst_all) ⟨rfl, Nat.le_refl _⟩ ?_ ?_
  · intro p hp
    simp only [List.cons_append, List.nil_append, List.mem_cons, List.mem_append] at hp ⊢
    rcases hp with h | h | h | h
    · exact .inr (.inr (.inl h))
    · exact .inl h
    · exact .inr (.inl h)
    · exact .inr (.inr (.inr h))
  · clear lF lN F2 N2
    rintro ⟨g, bf, tg, tb2, vs, n, fd⟩ tl i v u h tk own hv hoff ⟨hD, hO⟩ ⟨hR, hlen⟩ F' N'
    dsimp only [kstB] at hD hO hR hlen F' N' hoff
    have hi : i < sp.length := by rw [← hlen2]; exact (List.getElem?_eq_some_iff.mp hv).1
    obtain ⟨v', hv', hDv⟩ := hD2.get (k := i) (by rw [List.length_map]; exact hi)
    rw [hv] at hv'
    obtain rfl := Option.some.inj hv'
    rw [List.getElem_map] at hDv
    have hdr : sp.drop i = sp[i] :: sp.drop (i + 1) := List.drop_eq_getElem_cons hi
    rw [hdr] at hR
    generalize sp[i] = p at hDv hR hdr
    obtain ⟨p1, p2, p3⟩ := p
    dsimp only [spanD] at hDv
    cases hDv with
    | @tuple ta9 vs9 n9 _ hmem hAll =>
    cases hAll with
    | cons h1 hAll =>
    cases hAll with
    | cons h2 hAll =>
    cases hAll with
    | cons h3 hAll =>
    cases hAll
    cases h1 with
    | int _ t1 =>
    cases h2 with
    | int _ t2 =>
    cases h3 with
    | int _ t3 =>
    obtain ⟨R, hRdef⟩ : ∃ R, R = tl ++ ((r9, listOf svs.toArray sn) :: (stl ++ news) ++ own) := ⟨_, rfl⟩
    rw [← hRdef] at N'
    simp only [psLed, List.cons_append, List.nil_append] at N'
    have hmR : (ta9, ({ cls := .type "tuple", data := .seq [Value.int p1 t1, Value.int p2 t2, Value.int p3 t3].toArray n9 } : Obj)) ∈ R := by
      rw [hRdef]
      exact List.mem_append.mpr (.inr (List.mem_append.mpr (.inl (List.mem_cons_of_mem _ (List.mem_append.mpr (.inl hmem))))))
    have hallR : ∀ q ∈ R, q.1 ≠ l9 := by
      intro q hq
      rw [hRdef] at hq
      rcases List.mem_append.mp hq with h | h
      · exact Nat.ne_of_gt (hO q h)
      · rcases List.mem_append.mp h with h | h
        · rcases List.mem_cons.mp h with rfl | h
          · exact Nat.ne_of_gt h19
          · rcases List.mem_append.mp h with h | h
            · exact Nat.ne_of_gt (Nat.lt_trans h19 (hO2 q h))
            · exact Nat.ne_of_lt (hlt q h)
        · exact hoff q h _ (List.mem_cons_self ..)
    have hsz : vs.toArray.size ≤ sizeLine := by
      have q1 := spans_len hs
      have q2 := hD.length
      rw [List.length_map] at q2
      rw [List.size_toArray, q2, sizeLine_eq]
      omega
    have hTup : IsTup h ta9 [Value.int p1 t1, Value.int p2 t2, Value.int p3 t3].toArray := ⟨_, (N' _ (List.mem_cons_of_mem _ hmR)).1, rfl, n9, rfl⟩
    (show wpAny _ _ _ _ _ _); k_fold
    have hcn : ∀ p ∈ news, p ∈ (r9, listOf svs.toArray sn) :: (stl ++ news) := fun p hp => List.mem_cons_of_mem _ (List.mem_append.mpr (.inr hp))
    k_steps
    · rename News _ _ _ _ => nE
      rename _ ∧ AllLt _ _ => hfr
      rename (0 : Int) ≤ g => q0
      rename (_ != _) = true => q1
      rename (_ == _) = true => q2
      have hfin : fd ++ [(g, if bf > g then bf else g)] = psRun (wfOf d bd) e sp (-1) at_ [] := by
        rw [← hR, psRun, if_neg (bne_iff_ne.mp q1), if_pos (eq_of_beq q2), if_pos q0]
      refine hret l9 _ _ _ _ _ (by k_asm) (news_cutA (ps_more nE) hRdef hcn) (hfin ▸ pair_more hD) hlt (above_more hO hfr.1)
    · rename News _ _ _ _ => nE
      rename _ ∧ AllLt _ _ => hfr
      rename (0 : Int) ≤ g => q0
      rename (_ != _) = true => q1
      rename (_ == _) = false => q2
      rw [psRun, if_neg (bne_iff_ne.mp q1), if_neg (ne_of_beq_false q2), if_pos q0] at hR
      subst hRdef
      refine ps_end (tl := (_, _) :: tl) (by k_asm) (ps_more nE) (off_more hoff hfr.2) (pair_more hD) (above_more hO hfr.1) rfl rfl (by ksw_same) hR (by rw [List.length_append]; show fd.length + 1 ≤ i + 1; omega)
    · rename News _ _ _ _ => nE
      rename ¬ (0 : Int) ≤ g => q0
      rename (_ != _) = true => q1
      rename (_ == _) = true => q2
      have hfin : fd = psRun (wfOf d bd) e sp (-1) at_ [] := by
        rw [← hR, psRun, if_neg (bne_iff_ne.mp q1), if_pos (eq_of_beq q2), if_neg q0]
      refine hret l9 _ _ _ _ _ (by k_asm) (news_cut nE hRdef hcn) (hfin ▸ hD) hlt hO
    · rename News _ _ _ _ => nE
      rename ¬ (0 : Int) ≤ g => q0
      rename (_ != _) = true => q1
      rename (_ == _) = false => q2
      rw [psRun, if_neg (bne_iff_ne.mp q1), if_neg (ne_of_beq_false q2), if_neg q0] at hR
      subst hRdef
      refine ps_end (by k_asm) nE hoff hD hO rfl rfl (by ksw_same) hR (by omega)
    · rename News _ _ _ _ => nE
      rename (_ != _) = false => q1
      rw [psRun, if_pos (by simpa using q1)] at hR
      subst hRdef
      refine ps_end (by k_asm) nE hoff hD hO rfl rfl (by ksw_same) hR (by omega)
  · clear lF lN F2 N2
    rintro ⟨g, bf, tg, tb2, vs, n, fd⟩ tl u h tk ⟨hD, hO⟩ ⟨hR, hlen⟩ F' N'
    dsimp only [kstB] at hD hO hR hlen F' N'
    rw [hlen2, List.drop_length] at hR
    obtain ⟨R, hRdef⟩ : ∃ R, R = tl ++ ((r9, listOf svs.toArray sn) :: (stl ++ news) ++ []) := ⟨_, rfl⟩
    rw [show tl ++ (r9, listOf svs.toArray sn) :: (stl ++ news) = R by rw [hRdef, List.append_nil]] at N'
    simp only [psLed, List.cons_append, List.nil_append] at N'
    have hallR : ∀ q ∈ R, q.1 ≠ l9 := by
      intro q hq
      rw [hRdef, List.append_nil] at hq
      rcases List.mem_append.mp hq with h | h
      · exact Nat.ne_of_gt (hO q h)
      · rcases List.mem_cons.mp h with rfl | h
        · exact Nat.ne_of_gt h19
        · rcases List.mem_append.mp h with h | h
          · exact Nat.ne_of_gt (Nat.lt_trans h19 (hO2 q h))
          · exact Nat.ne_of_lt (hlt q h)
    have hsz : vs.toArray.size ≤ sizeLine := by
      have q1 := spans_len hs
      have q2 := hD.length
      rw [List.length_map] at q2
      rw [List.size_toArray, q2, sizeLine_eq]
      omega
    have hcn : ∀ p ∈ news, p ∈ (r9, listOf svs.toArray sn) :: (stl ++ news) := fun p hp => List.mem_cons_of_mem _ (List.mem_append.mpr (.inr hp))
    k_steps
    · rename News _ _ _ _ => nE
      rename _ ∧ AllLt _ _ => hfr
      rename (0 : Int) ≤ g => q0
      rw [psRun, if_pos q0] at hR
      refine hret l9 _ _ _ _ _ (by k_asm) (news_cutA (ps_more nE) hRdef hcn) (hR ▸ pair_more hD) hlt (above_more hO hfr.1)
    · rename News _ _ _ _ => nE
      rename ¬ (0 : Int) ≤ g => q0
      rw [psRun, if_neg q0] at hR
      refine hret l9 _ _ _ _ _ (by k_asm) (news_cut nE hRdef hcn) (hR ▸ hD) hlt hO
end Mine
end PartP1

section PartLc
open PySem PySem.W PySem.Calls PyProof.Rows PyProof.Rows.LCg PyProof.Rows.LCt
namespace Mine
section
variable {prog : Program} {w : World} {A : Around} {E : Value → Shared → Prop} {s : Shared} {h₀ : Heap} {L : Addr} {m : Str → Option Value} {env : Env}
/-- an iterator's state stands as long as its object does -/
def Stands (I : Addr) (St : Nat → Heap → Prop) : Prop := (∀ i h, St i h → ∃ o, h.get? I = some o) ∧ ∀ i h h' o, St i h → h.get? I = some o → h'.get? I = some o → St i h'
theorem str_stands {I : Addr} {T : String} {x : Str} {t : Tok} : Stands I (fun i h => h.IsStrIter I T x t i) :=
  ⟨fun _ _ st => by obtain ⟨o, e, _⟩ := st; exact ⟨o, e⟩, fun i h h' o st e e' => by obtain ⟨o', q, r⟩ := st; rw [e] at q; cases q; exact ⟨o, e', r⟩⟩
theorem iter_str2 {xs : Str} {t : Tok} {Q : Value → Shared → Prop} (hh : A.handled = none)
    (hQ : ∀ (o : Obj) (St : Nat → Heap → Prop), Walks prog w A s.heap.objs.size [s.heap.objs.size] [s.heap.objs.size] xs.cps.size (SignAt xs) St → Stands s.heap.objs.size St → St 0 (s.heap.push o) → Q (.ref s.heap.objs.size) { s with heap := s.heap.push o }) :
    wpAny (model prog w) A (pyIter (.str xs t)) Q E s := by
  cases ha : xs.cps.all (· < 128)
  · exact wpAny_pyIter_wide ha (hQ _ _ (Walks.strWide hh _ xs t) str_stands ⟨_, Heap.get?_push_size _ rfl, rfl, rfl⟩)
  · exact wpAny_pyIter_ascii ha (hQ _ _ (Walks.strAscii hh _ xs t) str_stands ⟨_, Heap.get?_push_size _ rfl, rfl, rfl⟩)
/-- a text as a comprehension's source: what is to be shown of the turns -/
def SrcS (prog : Program) (w : World) (A : Around) (h₀ : Heap) (L : Addr) (m : Str → Option Value) (env : Env) (elt : Expr) (x : Str) (scope : Scope) (cl : List (Str × Addr)) (Fin : Shared → List Value → List (Addr × Obj) → Prop) (xv : Value) (s₁ : Shared) : Prop :=
  ∃ xs t news, xv = .str xs t ∧ A.handled = none ∧ Fr h₀ L s₁.heap m ∧ News h₀ L s₁.heap news ∧ xs.cps.size ≤ sizeLine ∧
      ∀ s₂ : Shared, (∃ h, s₂ = { s₁ with heap := h }) → CompRest prog w A h₀ L m env elt x scope cl s₂ (fun _ => True) (SignAt xs) (Fin s₂) xs.cps.size 0 [] news
def SrcST (prog : Program) (w : World) (A : Around) (h₀ : Heap) (L : Addr) (m : Str → Option Value) (env : Env) (ct elt : Expr) (x : Str) (scope : Scope) (cl : List (Str × Addr)) (Fin : Shared → List Value → List (Addr × Obj) → Prop) (xv : Value) (s₁ : Shared) : Prop :=
  ∃ xs t news, xv = .str xs t ∧ A.handled = none ∧ Fr h₀ L s₁.heap m ∧ News h₀ L s₁.heap news ∧ xs.cps.size ≤ sizeLine ∧
      ∀ s₂ : Shared, (∃ h, s₂ = { s₁ with heap := h }) → CompRestT prog w A h₀ L m env ct elt x scope cl s₂ (fun _ => True) (SignAt xs) (Fin s₂) xs.cps.size 0 [] news
theorem srcS {elt : Expr} {x : Str} {scope : Scope} {cl : List (Str × Addr)} {Fin : Shared → List Value → List (Addr × Obj) → Prop} {xs : Str} {t : Tok} {s₁ : Shared} {news : List (Addr × Obj)} (hh : A.handled = none) (F : Fr h₀ L s₁.heap m) (N : News h₀ L s₁.heap news) (hsz : xs.cps.size ≤ sizeLine)
    (h : ∀ g, CompRest prog w A h₀ L m env elt x scope cl { s₁ with heap := g } (fun _ => True) (SignAt xs) (Fin { s₁ with heap := g }) xs.cps.size 0 [] news) : SrcS prog w A h₀ L m env elt x scope cl Fin (.str xs t) s₁ :=
  ⟨xs, t, news, rfl, hh, F, N, hsz, fun _ ⟨g, e⟩ => e ▸ h g⟩
theorem srcST {ct elt : Expr} {x : Str} {scope : Scope} {cl : List (Str × Addr)} {Fin : Shared → List Value → List (Addr × Obj) → Prop} {xs : Str} {t : Tok} {s₁ : Shared} {news : List (Addr × Obj)} (hh : A.handled = none) (F : Fr h₀ L s₁.heap m) (N : News h₀ L s₁.heap news) (hsz : xs.cps.size ≤ sizeLine)
    (h : ∀ g, CompRestT prog w A h₀ L m env ct elt x scope cl { s₁ with heap := g } (fun _ => True) (SignAt xs) (Fin { s₁ with heap := g }) xs.cps.size 0 [] news) : SrcST prog w A h₀ L m env ct elt x scope cl Fin (.str xs t) s₁ :=
  ⟨xs, t, news, rfl, hh, F, N, hsz, fun _ ⟨g, e⟩ => e ▸ h g⟩
/-- a list comprehension over a text's signs -/
theorem listcomp_S {elt iter : Expr} {x : Str} {px : Pos} {scope : Scope} {cl : List (Str × Addr)} {pos : Pos} {Q : Value → Shared → Prop} (_F₀ : Fr h₀ L s.heap m)
    (hclos : closureFor scope env = pure cl) (hcell : ∀ y ∈ scope.names, y.2 ≠ .cell) (hkind : scope.kind = .function)
    (hnames : ∀ y ∈ scope.names, y.2 = .local → scope.names.lookup y.1 = some .local) (hx : scope.names.lookup x = some .local)
    (h : wpAny (model prog w) A (eval iter env) (SrcS prog w A h₀ L m env elt x scope cl (fun s₂ => FinE h₀ L m s₂ Q)) E s)
    (hs : ∀ x, foldedSetIterable iter env x = pure x := by intro _; rfl) :
    wpAny (model prog w) A (eval (.ListComp elt [⟨.Name x px, iter, [], 0⟩] scope pos) env) Q E s := by
  rw [eval_ListComp]
  refine wpAny_comprehension_free (use := none) rfl hs hclos hkind hnames (wpAny_mono h (fun xv s₁ h₁ => ?_) fun _ _ e => e)
  obtain ⟨xs, t, news, rfl, hh, F, N, hsz, R⟩ := h₁
  refine iter_str2 hh fun o St W hSt hst => ?_
  refine block_U (s₂ := { s₁ with heap := s₁.heap.push o }) (S := fun _ => True) W hsz hSt.1 (fun i h h' o nw st e e' _ _ _ => hSt.2 i h h' o st e e') hcell hkind hx hst (fun b hb => ?_) (F.push o) (fun p hp => ⟨Heap.get?_push_of_some _ (N p hp).1, (N p hp).2⟩) (Nat.ne_of_lt F.ns.lt) (next_is_new F) (fun p hp => Nat.ne_of_lt (Heap.lt_size (N p hp).1)) trivial (R _ ⟨_, rfl⟩) ?_
  · rw [List.mem_singleton.mp hb]
    show s₁.heap.objs.size < (s₁.heap.push _).objs.size
    rw [Heap.size_push]; exact Nat.lt_succ_self _
  · intro D C h tk m' ys news' F' N' o1 hn hC₀ hD₀ hCL hDL hCD offC fin
    refine ⟨m', hn, fun h'' hs'' => fin D h'' tk (F'.change hs'' hCL hC₀) (fun p hp => ?_) o1⟩
    refine ⟨hs''.extBut _ _ ?_ (N' p hp).1, (N' p hp).2⟩
    rcases List.mem_cons.mp hp with rfl | hp
    · exact Ne.symm hCD
    · exact offC p hp
/-- the same with one test -/
theorem listcomp_ST {ct elt iter : Expr} {x : Str} {px : Pos} {scope : Scope} {cl : List (Str × Addr)} {pos : Pos} {Q : Value → Shared → Prop} (_F₀ : Fr h₀ L s.heap m)
    (hclos : closureFor scope env = pure cl) (hcell : ∀ y ∈ scope.names, y.2 ≠ .cell) (hkind : scope.kind = .function)
    (hnames : ∀ y ∈ scope.names, y.2 = .local → scope.names.lookup y.1 = some .local) (hx : scope.names.lookup x = some .local)
    (h : wpAny (model prog w) A (eval iter env) (SrcST prog w A h₀ L m env ct elt x scope cl (fun s₂ => FinE h₀ L m s₂ Q)) E s)
    (hs : ∀ x, foldedSetIterable iter env x = pure x := by intro _; rfl) :
    wpAny (model prog w) A (eval (.ListComp elt [⟨.Name x px, iter, [ct], 0⟩] scope pos) env) Q E s := by
  rw [eval_ListComp]
  refine wpAny_comprehension_free (use := none) rfl hs hclos hkind hnames (wpAny_mono h (fun xv s₁ h₁ => ?_) fun _ _ e => e)
  obtain ⟨xs, t, news, rfl, hh, F, N, hsz, R⟩ := h₁
  refine iter_str2 hh fun o St W hSt hst => ?_
  refine block_T (s₂ := { s₁ with heap := s₁.heap.push o }) (S := fun _ => True) W hsz hSt.1 (fun i h h' o nw st e e' _ _ _ => hSt.2 i h h' o st e e') hcell hkind hx hst (fun b hb => ?_) (F.push o) (fun p hp => ⟨Heap.get?_push_of_some _ (N p hp).1, (N p hp).2⟩) (Nat.ne_of_lt F.ns.lt) (next_is_new F) (fun p hp => Nat.ne_of_lt (Heap.lt_size (N p hp).1)) trivial (R _ ⟨_, rfl⟩) ?_
  · rw [List.mem_singleton.mp hb]
    show s₁.heap.objs.size < (s₁.heap.push _).objs.size
    rw [Heap.size_push]; exact Nat.lt_succ_self _
  · intro D C h tk m' ys news' F' N' o1 hn hC₀ hD₀ hCL hDL hCD offC fin
    refine ⟨m', hn, fun h'' hs'' => fin D h'' tk (F'.change hs'' hCL hC₀) (fun p hp => ?_) o1⟩
    refine ⟨hs''.extBut _ _ ?_ (N' p hp).1, (N' p hp).2⟩
    rcases List.mem_cons.mp hp with rfl | hp
    · exact Ne.symm hCD
    · exact offC p hp
end
end Mine
end PartLc

section PartT1
open PySem PySem.W PyProof.Rows
namespace Mine
local macro_rules | `(tactic| walk_at "eval ListComp") => `(tactic| (k_here; k_dflt (refine listcomp_S (by k_asm) (by with_unfolding_all rfl) (by decide) (by rfl) (by decide) (by rfl) ?_)))
set_option maxRecDepth 100000 in
set_option maxHeartbeats 8000000 in
theorem code_tells (w : World) (mean : ExcName → Option Value) (mg mb : Str → Option Value) (c : Int) (tc : Tok) (news : List (Addr × Obj)) (h0 : 0 ≤ c) (h1 : c < 1000) :
    Ask 2 w mean mg mb 28 news [.int c tc]
      (fun h₀ L m s Q => ∀ (r : Int) (t : Tok) (h' : Heap) (tk' : Nat), 0 ≤ r → r < 2000 → Fr h₀ L h' m → News h₀ L h' news → Q (.int r t) { s with heap := h', toks := tk' }) := by
  w_top off
  unfold Ask
  k_fill
  intros
  rename_i hret
  refine wpAny_call ?_
  k_dflt cell_enter
  k_steps
  all_goals exact hret _ _ _ _ (by omega) (by omega) (by k_asm) (by k_asm)
local macro_rules | `(tactic| walk_at "call ref") => `(tactic| (k_here; (with_reducible show wpAny _ _ (call (Value.ref 28) _) _ _ _); k_dflt (refine' ask_use ?k1 ?k2 ?k3 ?k4 ?k5 ?k6 ?k7 ?k8 (code_tells _ _ _ _ _ _ _ ?h1 ?h2) ?_; (case k1 | k2 | k3 | k4 => k_asm); (case k5 => first | exact rfl | assumption); (case k6 => ktr_room); (case k7 => ktr_units); (case k8 => k_asm); (case h1 | h2 => omega)); intro r' t' h' tk' hlo' hhi' F' N'))
local macro_rules | `(tactic| walk_at "call builtin:str.join") => `(tactic| (k_here; (with_reducible show wpAny _ _ (call (Value.builtin "str.join") [Value.str _ _, Value.ref _]) _ _ _); (refine join_listC (News.isList (by k_asm) (by k_mem)) (by assumption) (by decide +kernel) (by assumption) ?_); intro _ _))
theorem ones_sum : ∀ {zs : List Str}, (∀ z ∈ zs, PySem.Str.length z = 1) → (zs.map (·.length)).sum = zs.length
  | [], _ => rfl
  | z :: r, h => by
    rw [List.map_cons, List.sum_cons, h z (List.mem_cons_self ..), ones_sum fun y hy => h y (List.mem_cons_of_mem _ hy), List.length_cons]
    omega
set_option maxRecDepth 100000 in
set_option maxHeartbeats 8000000 in
theorem lower_tells (w : World) (mean : ExcName → Option Value) (mg mb : Str → Option Value) (xs : Str) (tx : Tok) (news : List (Addr × Obj))
   (hx : ∀ (i : Nat) (c : Nat), xs.cps[i]? = some c → c < 1000) (hz : xs.cps.size ≤ 1000) :
    Ask 4 w mean mg mb 33 news [.str xs tx]
      (fun h₀ L m s Q => ∀ (y : Str) (t : Tok) (h' : Heap) (tk' : Nat), Fr h₀ L h' m → News h₀ L h' news → Q (.str y t) { s with heap := h', toks := tk' }) := by
  w_top off
  unfold Ask
  k_fill
  intros
  rename_i hret
  refine wpAny_call ?_
  k_dflt cell_enter
  k_steps
  refine srcS rfl (by k_asm) (by k_asm) (by rw [sizeLine_eq]; omega) ?_
  intro g
  suffices key : ∀ (j i : Nat) (ys : List Value) (zs : List Str), i + j = xs.cps.size → StrsAre ys zs → (∀ z ∈ zs, PySem.Str.length z = 1) → zs.length = i → LCg.CompRest _ _ _ _ _ _ _ _ _ _ _ _ (fun _ => True) (SignAt xs) _ j i ys _ from key xs.cps.size 0 [] [] (Nat.zero_add _) .nil (fun _ h => nomatch h) rfl
  intro j
  induction j with
  | zero =>
    intro i ys zs hi hs h1 hl
    refine LCg.CompRest.zero ?_
    intro D h tk F N off
    have hsT : StrsAre ys.toArray.toList zs := hs
    have hok : (zs.map (·.length)).sum + zs.length * 64 ≤ 16777216 := by rw [ones_sum h1]; omega
    k_steps
    rename News _ _ _ _ => nE
    exact hret _ _ _ _ (by k_asm) (cb_drop nE fun p hp => List.mem_cons_of_mem _ hp)
  | succ j ih =>
    intro i ys zs hi hs h1 hl
    refine LCg.CompRest.succ ?_
    intro v I oI C oC D m₂ h tk E' hv hC hxv F N off ne
    obtain ⟨c, u, hc, rfl⟩ := hv
    have hc1 := hx i c hc
    (show wpAny _ _ _ _ _ _); k_fold
    k_steps
    refine LCg.CompEnd.intro (by k_asm) (by k_asm) news (fun _ h => h) off trivial ?_
    refine ih (i + 1) _ _ (by omega) (kct_snoc hs) (fun z hz => ?_) (by rw [List.length_append, hl]; rfl)
    rcases List.mem_append.mp hz with hz | hz
    · exact h1 z hz
    · rw [List.mem_singleton.mp hz]
      rfl
end Mine
end PartT1

section PartT2
open PySem PySem.W PyProof.Rows
namespace Mine
local macro_rules | `(tactic| walk_at "a line of no use 0") => `(tactic| fail)
local macro_rules | `(tactic| k_room) => `(tactic| ktr_room)
local macro_rules | `(tactic| walk_at "call ref") => `(tactic| (k_here; (with_reducible show wpAny _ _ (call (Value.ref 33) _) _ _ _); k_dflt (refine' ask_use ?k1 ?k2 ?k3 ?k4 ?k5 ?k6 ?k7 ?k8 (lower_tells _ _ _ _ _ _ _ ?h1 ?h2) ?_; (case k1 | k2 | k3 | k4 => k_asm); (case k5 => first | exact rfl | assumption); (case k6 => ktr_room); (case k7 => ktr_units); (case k8 => k_asm); (case h1 | h2 => assumption)); intro y' t' h' tk' F' N'))
theorem iter_none {prog : Program} {w : World} {A : Around} {E : Value → Shared → Prop} {Q : Flow → Shared → Prop} {s : Shared} {env : Env} {h₀ : Heap} {target : Expr} {body : List Stmt} {l : Addr} {nn : Nat} {m₀ : Str → Option Value} {news : List (Addr × Obj)}
    (hh : A.handled = none) (F : Fr h₀ env.locals s.heap m₀) (N : News h₀ env.locals s.heap news) (hl : (l, listOf [].toArray nn) ∈ news)
    (done : ∀ h tk, Fr h₀ env.locals h m₀ → News h₀ env.locals h news → Q .next { s with heap := h, toks := tk }) :
    wpAny (model prog w) A (pyIter (.ref l)) (fun it s₂ => TurnsAt prog w A h₀ env target body Q E it s₂) E s := by
  refine dt_list (σ := Unit) (fun _ => []) news (fun _ => []) (fun tl _ => tl = []) [] (fun _ _ => True) () hh hl F N (fun _ hp => hp) rfl (fun _ hp => nomatch hp) trivial ?_ ?_
  · rintro c tl i v u h tk own hv
    exact absurd hv (by simp)
  · rintro c tl u h tk hf hp F' N'
    subst hf
    exact done h tk F' N'
local macro_rules | `(tactic| walk_at "exec For Name Name cons nil") => `(tactic| (k_here; (rename Fr _ _ _ _ => lF'); (with_unfolding_all refine' For_turns lF' ?_)))
local macro_rules | `(tactic| walk_at "pyIter ref") => `(tactic| (k_here; k_dflt (refine' iter_none ?k1 ?k2 ?k3 ?k4 ?_; (case k1 => exact rfl); (case k2 | k3 => k_asm); (case k4 => k_mem)); intro h' tk' F' N'))
theorem cte_small : ∀ (i : Nat) (c : Nat), (Str.ofString "content-transfer-encoding").cps[i]? = some c → c < 1000 := by
  intro i c h
  have h2 : ∀ c ∈ (Str.ofString "content-transfer-encoding").cps.toList, c < 1000 := by decide +kernel
  refine h2 c ?_
  rw [← Array.getElem?_toList] at h
  exact List.mem_of_getElem? h
theorem cte_size : (Str.ofString "content-transfer-encoding").cps.size ≤ 1000 := by decide +kernel
set_option maxRecDepth 100000 in
set_option maxHeartbeats 8000000 in
theorem enc_tells (w : World) (mean : ExcName → Option Value) (mg mb : Str → Option Value) (l : Addr) (n : Nat) (news : List (Addr × Obj)) (hm : (l, listOf [].toArray n) ∈ news) :
    Ask 8 w mean mg mb 102 news [.ref l]
      (fun h₀ L m s Q => ∀ (y : Str) (t : Tok) (h' : Heap) (tk' : Nat), Fr h₀ L h' m → News h₀ L h' news → Q (.str y t) { s with heap := h', toks := tk' }) := by
  w_top off
  unfold Ask
  k_fill
  intros
  rename_i hret
  have hc1 := cte_small
  have hc2 := cte_size
  refine wpAny_call ?_
  k_dflt cell_enter
  k_steps
  all_goals exact hret _ _ _ _ (by k_asm) (by k_asm)
end Mine
end PartT2

section PartLB
open PySem PySem.W PyProof.Rows
namespace Mine
noncomputable def lawStmt : Stmt := PySem.Challenge.pw_or0041_01.main.body.getLastD (.Pass default)
noncomputable def lawBody : List Stmt := match lawStmt with
  | .FunctionDef _ _ b _ _ _ _ _ _ _ => b
  | _ => []
noncomputable def lawScope : Scope := match lawStmt with
  | .FunctionDef _ _ _ _ _ _ sc _ _ _ => sc
  | _ => { kind := .function, names := [], isGenerator := false, isCoroutine := false }
theorem fr_known {h₀ h : Heap} {L : Addr} {m : PySem.Str → Option Value} {ps : List (PySem.Str × Value)} (F : Fr h₀ L h m) (hk : ∀ p ∈ ps, m p.1 = some p.2) : Fr h₀ L h (kstB m ps) := by
  have e : kstB m ps = m := funext fun y => kstB_eq hk fun _ => rfl
  rw [e]
  exact F
end Mine
end PartLB

section PartSp
open PySem PySem.W PyProof.Rows
namespace Mine
def Then (M : Model) (A : Around) (b : List Stmt) (env : Env) (Q : Flow → Shared → Prop) (E : Value → Shared → Prop) : Flow → Shared → Prop
  | .next, s => wpAny M A (execs b env) Q E s
  | .ret v, s => Q (.ret v) s
  | .brk, s => Q .brk s
  | .cont, s => Q .cont s
theorem execs_split {M : Model} {A : Around} {env : Env} {Q : Flow → Shared → Prop} {E : Value → Shared → Prop} : ∀ (a b : List Stmt) {s : Shared}, wpAny M A (execs a env) (Then M A b env Q E) E s → wpAny M A (execs (a ++ b) env) Q E s := by
  intro a b s h Γ p hΓ
  have key : ∀ (a : List Stmt) p s, Sem.wp M Γ (execs a env) (fun f _ s' => Then M A b env Q E f s') (fun e _ s' => E e s') p s → Sem.wp M Γ (execs (a ++ b) env) (fun f _ s' => Q f s') (fun e _ s' => E e s') p s := by
    intro a
    induction a with
    | nil =>
      intro p s h
      exact (show wpAny M A (execs b env) Q E s from h) Γ p hΓ
    | cons x a ih =>
      intro p s h
      rw [List.cons_append, execs_cons, Sem.wp_bind']
      rw [execs_cons, Sem.wp_bind'] at h
      refine Sem.wp_mono M Γ _ (fun f p' s' h' => ?_) (fun _ _ _ h' => h') _ _ h
      cases f <;> first | exact ih _ _ h' | exact h'
  exact key a p s (h Γ p hΓ)
end Mine
end PartSp

section PartQ1
open PySem PySem.W PyProof.Rows
namespace Mine
local macro_rules | `(tactic| walk_at "call ref") => `(tactic| (k_here; (with_reducible show wpAny _ _ (call (Value.ref 177) _) _ _ _); k_dflt (refine' ask_use ?k1 ?k2 ?k3 ?k4 ?k5 ?k6 ?k7 ?k8 (draw_tells _ _ _ _ _ _ _ _ _ _ _ _ _ _ _ ?h1 ?h2 ?h3 ?h4 ?h5 ?h6 ?h7 ?h8) ?_; (case k1 | k2 | k3 | k4 => k_asm); (case k5 => first | exact rfl | assumption); (case k6 => ktr_room); (case k7 => ktr_units); (case k8 => k_asm); (case h1 | h2 | h3 => assumption); (case h4 | h5 => omega); (case h6 | h7 => decide); (case h8 => assumption)); intro r' t' t2' h' tk' hlo' hhi' F' N'; (have hs' : r' = 0 ∨ r' = 1 ∨ r' = 2 ∨ r' = 3 ∨ r' = 4 ∨ r' = 5 ∨ r' = 6 := by omega); (rcases hs' with hs' | hs' | hs' | hs' | hs' | hs' | hs' <;> subst hs')))
/-- the seven ways of the law's draw: the boundary's text, and the mark that the law reckons with -/
inductive Way : Option Str → Option (Array UInt8) → Prop
  | w0 : Way (some (Str.ofString "q")) (some #[45, 45, 113])
  | w1 : Way (some (Str.ofString "")) none
  | w2 : Way none none
  | w3 : Way (some (Str.ofString "q r")) (some #[45, 45, 113, 32, 114])
  | w4 : Way (some (Str.ofString "ét")) (some #[45, 45, 233, 116])
  | w5 : Way (some (Str.ofString "€")) none
  | w6 : Way (some (Str.ofString "qĀ")) none
def markV (t : Tok) : Option (Array UInt8) → Value
  | some b => .bytes b t
  | none => .none
def paramsD : Option Str → List (PyData × PyData)
  | some x => [(.str (Str.ofString "boundary"), .str x)]
  | none => []
def strV (t : Tok) : Option Str → Value
  | some x => .str x t
  | none => .none
noncomputable def parStmt : Stmt := PySem.Challenge.pw_or0041_01.main.body.dropLast.getLastD (.Pass default)
noncomputable def parBody : List Stmt := match parStmt with
  | .FunctionDef _ _ b _ _ _ _ _ _ _ => b
  | _ => []
noncomputable def parScope : Scope := match parStmt with
  | .FunctionDef _ _ _ _ _ _ sc _ _ _ => sc
  | _ => { kind := .function, names := [], isGenerator := false, isCoroutine := false }
set_option maxRecDepth 100000 in
set_option maxHeartbeats 8000000 in

theorem par_ret (w : World) (mean : ExcName → Option Value) (mg mb : Str → Option Value) (dp un : Nat) (gd : Option (List Code)) (nm : Str) (a : Addr) (ccd : Value) (outer : List Env) (h₀ : Heap) (L : Addr) (m : Str → Option Value) (s : Shared) (Q : Flow → Shared → Prop) (E : Value → Shared → Prop)
    (X : (hd.heap_39 w.params).In h₀) (T : Top hd.view_39 LS mean mg mb h₀)
    (tb tm tr : Tok) (tx : Option Str) (mk : Option (Array UInt8)) (r : Int) (news : List (Addr × Obj)) (F : Fr h₀ L s.heap m) (N : News h₀ L s.heap news)
    (h1 : m "boundary" = some (strV tb tx)) (h2 : m "mark" = some (markV tm mk)) (h3 : m "way" = some (.int r tr))
    (hret : ∀ (q pm : Addr) (o : Obj) (kvs : List (Str × Value)) (t : Tok) (h' : Heap) (tk' : Nat) m', Fr h₀ L h' m' → News h₀ L h' ((q, { cls := .type "tuple", data := .seq [Value.ref pm, markV t (if r = 1 then none else mk)].toArray }) :: (pm, o) :: news) →
      (pm == sysModules) = false → o.IsDictOf (strKind PySem.Challenge.rw_or0041_01.row.prog w) kvs → PyProof.V.FlatPairs PyData.str kvs (paramsD tx) → (∀ p ∈ news, p.1 < pm) → @LT.lt Nat _ pm q → Q (.ret (.ref q)) { s with heap := h', toks := tk' }) :
    wpAny (model PySem.Challenge.rw_or0041_01.row.prog w) (ktrTop dp un gd nm parScope L a ccd [] outer) (execs (parBody.drop 3) (envOf nm parScope L a ccd)) Q E s := by
  w_top off
  revert X hret
  k_fill
  intro X hret
  conv in (occs := *) parScope => all_goals whnf
  conv in List.drop 3 _ => whnf
  have F2 := fr_known (ps := [("boundary", strV tb tx), ("mark", markV tm mk), ("way", .int r tr)]) F (List.forall_mem_cons.mpr ⟨h1, List.forall_mem_cons.mpr ⟨h2, List.forall_mem_cons.mpr ⟨h3, fun _ h => nomatch h⟩⟩⟩)
  clear F
  dsimp only [kstB] at F2
  rcases tx with _ | x <;> dsimp only [strV] at F2
  all_goals k_steps
  all_goals rename _ ∧ AllLt _ _ => hlt
  · rename r ≠ 1 => q
    rw [if_neg q] at hret
    exact hret _ _ _ _ tm _ _ _ (by k_asm) (by k_asm) (by assumption) (by assumption) (by assumption) (by assumption) hlt.1
  · rename r = 1 => q
    rw [if_pos q] at hret
    exact hret _ _ _ _ 0 _ _ _ (by k_asm) (by k_asm) (by assumption) (by assumption) (by assumption) (by assumption) hlt.1
  · rename r ≠ 1 => q
    rw [if_neg q] at hret
    exact hret _ _ _ _ tm _ _ _ (by k_asm) (by k_asm) (by assumption) (by assumption) (by assumption) (by assumption) hlt.1
  · rename r = 1 => q
    rw [if_pos q] at hret
    exact hret _ _ _ _ 0 _ _ _ (by k_asm) (by k_asm) (by assumption) (by assumption) (by assumption) (by assumption) hlt.1
theorem params_news {h₀ h : Heap} {L : Addr} {a b x y : Addr × Obj} {r : List (Addr × Obj)} (N : News h₀ L h (a :: b :: x :: y :: r)) : News h₀ L h (a :: b :: r) := by
  refine cb_drop N fun p hp => ?_
  simp only [List.mem_cons] at hp ⊢
  rcases hp with h | h | h
  · exact .inl h
  · exact .inr (.inl h)
  · exact .inr (.inr (.inr (.inr h)))
set_option maxRecDepth 100000 in
set_option maxHeartbeats 8000000 in
theorem params_tells (w : World) (mean : ExcName → Option Value) (mg mb : Str → Option Value) (tp cl : Addr) (nt : Nat) (at_ : Int) (ta : Tok) (vs : List Value) (ns : List Int) (nc : Nat) (news : List (Addr × Obj))
   (hI : IntsAre vs ns) (h0 : 0 < ns.length) (h1 : ns.length ≤ 40) (ha : 0 ≤ at_) (hb : at_ ≤ 90)
   (hoff : ∀ p ∈ (cl, listOf vs.toArray nc) :: news, p.1 ≠ tp) :
    Ask 4 w mean mg mb 184 ((tp, listOf [Value.ref cl, Value.int at_ ta].toArray nt) :: (cl, listOf vs.toArray nc) :: news) [.ref tp]
      (fun h₀ L m s Q => ∀ (tx : Option Str) (mk : Option (Array UInt8)) (r pm : Addr) (o : Obj) (kvs : List (Str × Value)) (t t2 : Tok) (h' : Heap) (tk' : Nat), Way tx mk → Fr h₀ L h' m →
        News h₀ L h' ((r, { cls := .type "tuple", data := .seq [Value.ref pm, markV t mk].toArray }) :: (pm, o) :: (tp, listOf [Value.ref cl, Value.int (at_ + 1) t2].toArray nt) :: (cl, listOf vs.toArray nc) :: news) →
        (pm == sysModules) = false → o.IsDictOf (strKind PySem.Challenge.rw_or0041_01.row.prog w) kvs → PyProof.V.FlatPairs PyData.str kvs (paramsD tx) → (∀ p ∈ (tp, listOf [Value.ref cl, Value.int (at_ + 1) t2].toArray nt) :: (cl, listOf vs.toArray nc) :: news, p.1 < pm) → @LT.lt Nat _ pm r →
        Q (.ref r) { s with heap := h', toks := tk' }) := by
  w_top off
  unfold Ask
  k_fill
  intros
  rename_i hret
  refine wpAny_call ?_
  k_dflt cell_enter
  show wpAny _ _ (execs (parBody.take 3 ++ parBody.drop 3) _) _ _ _
  refine execs_split _ _ ?_
  conv in List.take 3 _ => whnf
  k_steps
  all_goals (try dsimp only)
  all_goals refine wpAny_execs_nil ?_
  all_goals rename Fr _ _ _ _ => lF
  all_goals rename News _ _ _ _ => lN
  all_goals show wpAny _ _ (execs (parBody.drop 3) _) _ _ _
  · refine' par_ret _ _ _ _ _ _ _ _ _ _ _ _ _ _ _ _ _ ?x0 ?y0 _ _ _ (some (Str.ofString "q")) (some #[45, 45, 113]) 0 _ lF lN rfl rfl rfl ?z0
    case x0 => k_asm
    case y0 => k_asm
    case z0 =>
      intro q pm o kvs t h' tk' m' F' N' e1 e2 e3 e4 e5
      k_steps
      exact hret _ _ _ _ _ _ t _ _ _ Way.w0 (by k_asm) (params_news (by k_asm)) e1 e2 e3 (fun p hp => e4 p (List.mem_cons_of_mem _ (List.mem_cons_of_mem _ hp))) e5
  · refine' par_ret _ _ _ _ _ _ _ _ _ _ _ _ _ _ _ _ _ ?x1 ?y1 _ _ _ (some (Str.ofString "")) (some #[45, 45]) 1 _ lF lN rfl rfl rfl ?z1
    case x1 => k_asm
    case y1 => k_asm
    case z1 =>
      intro q pm o kvs t h' tk' m' F' N' e1 e2 e3 e4 e5
      k_steps
      exact hret _ _ _ _ _ _ t _ _ _ Way.w1 (by k_asm) (params_news (by k_asm)) e1 e2 e3 (fun p hp => e4 p (List.mem_cons_of_mem _ (List.mem_cons_of_mem _ hp))) e5
  · refine' par_ret _ _ _ _ _ _ _ _ _ _ _ _ _ _ _ _ _ ?x2 ?y2 0 0 _ (none) (none) 2 _ lF lN rfl rfl rfl ?z2
    case x2 => k_asm
    case y2 => k_asm
    case z2 =>
      intro q pm o kvs t h' tk' m' F' N' e1 e2 e3 e4 e5
      k_steps
      exact hret _ _ _ _ _ _ t _ _ _ Way.w2 (by k_asm) (params_news (by k_asm)) e1 e2 e3 (fun p hp => e4 p (List.mem_cons_of_mem _ (List.mem_cons_of_mem _ hp))) e5
  · refine' par_ret _ _ _ _ _ _ _ _ _ _ _ _ _ _ _ _ _ ?x3 ?y3 _ _ _ (some (Str.ofString "q r")) (some #[45, 45, 113, 32, 114]) 3 _ lF lN rfl rfl rfl ?z3
    case x3 => k_asm
    case y3 => k_asm
    case z3 =>
      intro q pm o kvs t h' tk' m' F' N' e1 e2 e3 e4 e5
      k_steps
      exact hret _ _ _ _ _ _ t _ _ _ Way.w3 (by k_asm) (params_news (by k_asm)) e1 e2 e3 (fun p hp => e4 p (List.mem_cons_of_mem _ (List.mem_cons_of_mem _ hp))) e5
  · refine' par_ret _ _ _ _ _ _ _ _ _ _ _ _ _ _ _ _ _ ?x4 ?y4 _ _ _ (some (Str.ofString "ét")) (some #[45, 45, 233, 116]) 4 _ lF lN rfl rfl rfl ?z4
    case x4 => k_asm
    case y4 => k_asm
    case z4 =>
      intro q pm o kvs t h' tk' m' F' N' e1 e2 e3 e4 e5
      k_steps
      exact hret _ _ _ _ _ _ t _ _ _ Way.w4 (by k_asm) (params_news (by k_asm)) e1 e2 e3 (fun p hp => e4 p (List.mem_cons_of_mem _ (List.mem_cons_of_mem _ hp))) e5
  · refine' par_ret _ _ _ _ _ _ _ _ _ _ _ _ _ _ _ _ _ ?x5 ?y5 _ 0 _ (some (Str.ofString "€")) (none) 5 _ lF lN rfl rfl rfl ?z5
    case x5 => k_asm
    case y5 => k_asm
    case z5 =>
      intro q pm o kvs t h' tk' m' F' N' e1 e2 e3 e4 e5
      k_steps
      exact hret _ _ _ _ _ _ t _ _ _ Way.w5 (by k_asm) (params_news (by k_asm)) e1 e2 e3 (fun p hp => e4 p (List.mem_cons_of_mem _ (List.mem_cons_of_mem _ hp))) e5
  · refine' par_ret _ _ _ _ _ _ _ _ _ _ _ _ _ _ _ _ _ ?x6 ?y6 _ 0 _ (some (Str.ofString "qĀ")) (none) 6 _ lF lN rfl rfl rfl ?z6
    case x6 => k_asm
    case y6 => k_asm
    case z6 =>
      intro q pm o kvs t h' tk' m' F' N' e1 e2 e3 e4 e5
      k_steps
      exact hret _ _ _ _ _ _ t _ _ _ Way.w6 (by k_asm) (params_news (by k_asm)) e1 e2 e3 (fun p hp => e4 p (List.mem_cons_of_mem _ (List.mem_cons_of_mem _ hp))) e5
end Mine
end PartQ1

section PartK1
open PySem PySem.W PyProof.Rows
namespace Mine
theorem flat_bound {v : Value} {tx : Option Str} (h : PyProof.V.Flat v ((PySem.Spec.lookup (PyData.str (Str.ofString "boundary")) (paramsD tx)).getD (.str (Str.ofString "")))) : ∃ t, v = .str (tx.getD (Str.ofString "")) t := by
  cases tx with
  | none => exact PyProof.V.Flat.str_inv h
  | some y => exact PyProof.V.Flat.str_inv h
/-- the text's code points below 256, of the first i -/
def lowT (x : Str) (i : Nat) : List Int := ((x.cps.toList.take i).filter (· < 256)).map fun c => ((c : Nat) : Int)
def lowC (x : Str) : List Int := (x.cps.toList.filter (· < 256)).map fun c => ((c : Nat) : Int)
theorem lowT_all {x : Str} {i : Nat} (h : i = x.cps.size) : lowT x i = lowC x := by
  unfold lowT lowC
  rw [List.take_of_length_le (by rw [Array.length_toList, h]; exact Nat.le_refl _)]
theorem lowT_yes {x : Str} {i c : Nat} {ys : List Value} {t : Tok} (hc : x.cps[i]? = some c) (h : c < 256) (hs : IntsAre ys (lowT x i)) : IntsAre (ys ++ [.int (c : Int) t]) (lowT x (i + 1)) := by
  have e : lowT x (i + 1) = lowT x i ++ [((c : Nat) : Int)] := by
    unfold lowT
    rw [List.take_add_one, Array.getElem?_toList, hc]
    simp [h]
  rw [e]
  exact hs.append (IntsAre.cons _ _ IntsAre.nil)
theorem lowT_no {x : Str} {i c : Nat} {ys : List Value} (hc : x.cps[i]? = some c) (h : ¬ c < 256) (hs : IntsAre ys (lowT x i)) : IntsAre ys (lowT x (i + 1)) := by
  have e : lowT x (i + 1) = lowT x i := by
    unfold lowT
    rw [List.take_add_one, Array.getElem?_toList, hc]
    simp [h]
  rw [e]
  exact hs
theorem lowC_in (x : Str) : KBa.In (lowC x) := by
  intro n hn
  obtain ⟨c, hc, rfl⟩ := List.mem_map.mp hn
  have := (List.mem_filter.mp hc).2
  simp at this
  omega
theorem lowC_len (x : Str) : (lowC x).length ≤ x.cps.size := by
  unfold lowC
  rw [List.length_map, ← Array.length_toList]
  exact List.length_filter_le _ _
theorem news_swap {h₀ h : Heap} {L : Addr} {a : Addr × Obj} {tl R : List (Addr × Obj)} (N : News h₀ L h (a :: (tl ++ R))) : News h₀ L h (a :: (R ++ tl)) := by
  refine cb_drop N fun p hp => ?_
  simp only [List.mem_cons, List.mem_append] at hp ⊢
  rcases hp with h | h | h
  · exact .inl h
  · exact .inr (.inr h)
  · exact .inr (.inl h)
local macro_rules | `(tactic| k_room) => `(tactic| ktr_room)
local macro_rules | `(tactic| walk_at "call builtin:len") => `(tactic| (k_here; (with_reducible show wpAny _ _ (call (Value.builtin "len") [Value.bytes _ _]) _ _ _); (refine' len_bytes ?k0 ?_); (case k0 => omega)))
local macro_rules | `(tactic| walk_at "binaryOp Add bytes bytes") => `(tactic| (k_here; (with_reducible show wpAny _ _ (binaryOp Operator.Add (Value.bytes _ _) (Value.bytes _ _)) _ _ _); (refine' KBy.add_bytes ?k0 ?_); (case k0 => ((try simp only [Array.size_append, List.size_toArray, List.length_cons, List.length_nil]); omega)); intro _ _))
local macro_rules | `(tactic| walk_at "call type:bytes") => `(tactic| (k_here; (with_reducible show wpAny _ _ (call (Value.type "bytes") [Value.ref _]) _ _ _); (refine' KBa.make_K ?kbaF ?kbaN ?kbah ?kbal ?kbai ?kbar ?kban ?_; (case kbaF | kbaN => k_asm); (case kbah => rfl); (case kbal => exact News.isList (by k_asm) (by k_mem)); (case kbai => assumption); (case kbar => exact lowC_in _); (case kban => exact Nat.le_trans (lowC_len _) (by omega))); intro _ _ _ F' N' kbaIn))
local macro_rules | `(tactic| walk_at "call ref") => `(tactic| (k_here; (with_reducible show wpAny _ _ (call (Value.ref 116) _) _ _ _); k_dflt (refine' ask_use ?k1 ?k2 ?k3 ?k4 ?k5 ?k6 ?k7 ?k8 (parts_tells _ _ _ _ _ _ _ _ _ _ _ _ _ _ ?h1 ?h2 ?h3 ?h4) ?_; (case k1 | k2 | k3 | k4 => k_asm); (case k5 => first | exact rfl | assumption); (case k6 => ktr_room); (case k7 => ktr_units); (case k8 => k_asm); (case h1 | h2 | h3 | h4 => assumption)); intro r' vs' n' tl' h' tk' F' N' hD' hlt' hO'; (replace N' := news_swap N'); (dsimp only [List.cons_append] at N')))
local macro_rules | `(tactic| walk_at "call builtin:len") => `(tactic| (k_here; (with_reducible show wpAny _ _ (call (Value.builtin "len") [Value.str _ _]) _ _ _); (refine' len_str ?k0 ?_); (case k0 => show ¬ ((Array.size _ : Nat) : Int) ≥ 2 ^ 63; omega)))
local macro_rules | `(tactic| walk_at "compareOp NotEq ref ref") => `(tactic| (k_here; (with_reducible show wpAny _ _ (compareOp CmpOp.NotEq (Value.ref _) (Value.ref _)) _ _ _); (refine' kqd_ne ?N ?a ?b ?c ?d ?e ?f ?g ?i (n₂ := []) DatAll.nil (fun _ h => nomatch h) ?l (fun _ h => nomatch h) ?n ?_; (case N => k_asm); (case a => k_mem); (case b | c => rfl); (case d => first | assumption | exact (DatAll.nil : DatAll [] [] [])); (case e => first | exact fun _ h => nomatch h | kqd_sub | (intro p hp; simp [hp])); (case f => k_mem); (case g | i => rfl); (case l => kqd_ok); (case n => ktr_units))))
local macro_rules | `(tactic| walk_at "eval ListComp") => `(tactic| (k_here; k_dflt (refine listcomp_ST (by k_asm) (by with_unfolding_all rfl) (by decide) (by rfl) (by decide) (by rfl) ?_)))
abbrev partE (w : World) (vb : Value) (bo en : Value) (vf vk ve vkids vi : Value) (t1 t2 t3 t4 t5 t6 t7 t8 : Tok) : Obj := dictOf [⟨PyData.keyHash w.params (Str.ofString "begin"), .str (Str.ofString "begin") t1, vb⟩, ⟨PyData.keyHash w.params (Str.ofString "body"), .str (Str.ofString "body") t2, bo⟩, ⟨PyData.keyHash w.params (Str.ofString "end"), .str (Str.ofString "end") t3, en⟩, ⟨PyData.keyHash w.params (Str.ofString "fields"), .str (Str.ofString "fields") t4, vf⟩, ⟨PyData.keyHash w.params (Str.ofString "kind"), .str (Str.ofString "kind") t5, vk⟩, ⟨PyData.keyHash w.params (Str.ofString "encoding"), .str (Str.ofString "encoding") t6, ve⟩, ⟨PyData.keyHash w.params (Str.ofString "kids"), .str (Str.ofString "kids") t7, vkids⟩, ⟨PyData.keyHash w.params (Str.ofString "inner"), .str (Str.ofString "inner") t8, vi⟩] 8
abbrev kindE (w : World) (vt vs vp : Value) (t1 t2 t3 : Tok) : Obj := dictOf [⟨PyData.keyHash w.params (Str.ofString "top"), .str (Str.ofString "top") t1, vt⟩, ⟨PyData.keyHash w.params (Str.ofString "sub"), .str (Str.ofString "sub") t2, vs⟩, ⟨PyData.keyHash w.params (Str.ofString "params"), .str (Str.ofString "params") t3, vp⟩] 3
def kidFd (d : Array UInt8) (x : Str) (at_ e : Int) (sp : List (Nat × Nat × Nat)) : List (Int × Int) :=
  if x ≠ Str.ofString "" then (if (lowC x).length = x.cps.size then psRun (wfOf d (byteArr (lowC x))) e sp (-1) at_ [] else []) else []
def kidRun (d : Array UInt8) (x : Str) (at_ e : Int) (sp : List (Nat × Nat × Nat)) : List (Int × Int) :=
  if kidFd d x at_ e sp = [] then [(e, e)] else kidFd d x at_ e sp
theorem kid_none {d : Array UInt8} {x : Str} {at_ e : Int} {sp : List (Nat × Nat × Nat)} (h : kidFd d x at_ e sp = []) : kidRun d x at_ e sp = [(e, e)] := by
  unfold kidRun
  rw [if_pos h]
theorem kid_some {d : Array UInt8} {x : Str} {at_ e : Int} {sp : List (Nat × Nat × Nat)} (h : kidFd d x at_ e sp ≠ []) : kidRun d x at_ e sp = kidFd d x at_ e sp := by
  unfold kidRun
  rw [if_neg h]
theorem fd_empty {d : Array UInt8} {x : Str} {at_ e : Int} {sp : List (Nat × Nat × Nat)} (h : (x != Str.ofString "") = false) : kidFd d x at_ e sp = [] := by
  unfold kidFd
  rw [if_neg (by simpa using h)]
theorem fd_wide {d : Array UInt8} {x : Str} {at_ e : Int} {sp : List (Nat × Nat × Nat)} (h : (((byteArr (lowC x)).size : Nat) : Int) ≠ ((x.length : Nat) : Int)) : kidFd d x at_ e sp = [] := by
  unfold kidFd
  split
  · refine if_neg fun q => h ?_
    rw [byteArr_size, q]
    rfl
  · rfl
theorem fd_parts {d : Array UInt8} {x : Str} {at_ e : Int} {sp : List (Nat × Nat × Nat)} (h1 : (x != Str.ofString "") = true) (h : (((byteArr (lowC x)).size : Nat) : Int) = ((x.length : Nat) : Int)) : kidFd d x at_ e sp = psRun (wfOf d (byteArr (lowC x))) e sp (-1) at_ [] := by
  unfold kidFd
  rw [if_pos (by simpa using h1), if_pos]
  rw [byteArr_size] at h
  exact Int.ofNat.inj h
theorem none_dat {D : Addr} {o : Obj} {e : Int} {te : Tok} {ps : List (Int × Int)} (hp : ps = [(e, e)]) (ho : o = { cls := .type "tuple", data := .seq #[Value.int e te, Value.int e te] }) : DatAll [(D, o)] [Value.ref D] (ps.map pairD) := by
  subst hp ho
  exact .cons (.tuple (List.mem_singleton.mpr rfl) (.cons (.int _ _) (.cons (.int _ _) .nil))) .nil
theorem none_news {h₀ h : Heap} {L : Addr} {a b : Addr × Obj} {R news : List (Addr × Obj)} (N : News h₀ L h (a :: b :: R)) (hR : ∀ p ∈ news, p ∈ R) : News h₀ L h (a :: ([b] ++ news)) := by
  refine cb_drop N fun p hp => ?_
  simp only [List.mem_cons, List.mem_append, List.not_mem_nil, or_false] at hp ⊢
  rcases hp with h | h | h
  · exact .inl h
  · exact .inr (.inl h)
  · exact .inr (.inr (hR p h))
theorem some_news {h₀ h : Heap} {L : Addr} {a b : Addr × Obj} {R news tl : List (Addr × Obj)} (N : News h₀ L h (b :: a :: R)) (hR : ∀ p ∈ tl ++ news, p ∈ R) : News h₀ L h (a :: (tl ++ news)) := by
  refine cb_drop N fun p hp => ?_
  rcases List.mem_cons.mp hp with h | h
  · exact List.mem_cons_of_mem _ (List.mem_cons.mpr (.inl h))
  · exact List.mem_cons_of_mem _ (List.mem_cons_of_mem _ (hR p h))
set_option maxRecDepth 100000 in
set_option maxHeartbeats 8000000 in
theorem kids_tells (w : World) (mean : ExcName → Option Value) (mg mb : Str → Option Value) (d : Array UInt8) (td : Tok) (at_ e : Nat) (ta te : Tok) (px pdx kx kdx pm : Addr) (tx : Option Str) (o : Obj) (kvs : List (Str × Value))
   (vb vf ve vkids vi vt vs : Value) (t1 t2 t3 t4 t5 t6 t7 t8 t9 t10 t11 : Tok) (news : List (Addr × Obj)) (sp : List (Nat × Nat × Nat))
   (hs : Spans d e at_ sp) (he : e ≤ d.size) (hz : d.size ≤ 100000) (hx : (tx.getD (Str.ofString "")).cps.size ≤ 50)
   (ho : o.IsDictOf (strKind PySem.Challenge.rw_or0041_01.row.prog w) kvs) (hfl : PyProof.V.FlatPairs PyData.str kvs (paramsD tx)) (hpm : (pm == sysModules) = false) :
    Ask 20 w mean mg mb 121 ((px, instObj 93 pdx) :: (pdx, partE w vb (.int at_ ta) (.int e te) vf (.ref kx) ve vkids vi t1 t2 t3 t4 t5 t6 t7 t8) :: (kx, instObj 166 kdx) :: (kdx, kindE w vt vs (.ref pm) t9 t10 t11) :: (pm, o) :: news) [.bytes d td, .ref px]
      (fun h₀ L m s Q => ∀ (r : Addr) (vs : List Value) (n : Nat) (tl : List (Addr × Obj)) (h' : Heap) (tk' : Nat), Fr h₀ L h' m → News h₀ L h' ((r, listOf vs.toArray n) :: (tl ++ news)) → DatAll tl vs ((kidRun d (tx.getD (Str.ofString "")) at_ e sp).map pairD) →
        Q (.ref r) { s with heap := h', toks := tk' }) := by
  revert ho
  w_top off
  unfold Ask
  k_fill
  intros
  rename_i hret
  refine wpAny_call ?_
  k_dflt cell_enter
  k_steps
  rename PyProof.V.Flat _ _ => hfv
  obtain ⟨tq, hq⟩ := flat_bound hfv
  subst hq
  clear hfv
  generalize tx.getD (Str.ofString "") = x at *
  refine srcST rfl (by k_asm) (by k_asm) (by rw [sizeLine_eq]; omega) ?_
  intro g
  suffices key : ∀ (j i : Nat) (ys : List Value), i + j = x.cps.size → IntsAre ys (lowT x i) → LCt.CompRestT _ _ _ _ _ _ _ _ _ _ _ _ _ (fun _ => True) (SignAt x) _ j i ys _ from key x.cps.size 0 [] (Nat.zero_add _) .nil
  intro j
  induction j with
  | zero =>
    intro i ys hi hs
    refine LCt.CompRestT.zero ?_
    intro D h tk F N off
    rw [show lowT x i = lowC x from lowT_all (by omega)] at hs
    have hbe : (byteArr (lowC x)).size = (lowC x).length := byteArr_size _
    have hbs : (byteArr (lowC x)).size ≤ 100 := Nat.le_trans (Nat.le_of_eq hbe) (Nat.le_trans (lowC_len _) (by omega))
    k_steps
    · rename (x != _) = true => q1
      rename Int.ofNat _ = Int.ofNat _ => q2
      rename decide _ = true => q3
      have q4 : psRun (wfOf d (byteArr (lowC x))) e sp (-1) at_ [] = [] := List.map_eq_nil_iff.mp (of_decide_eq_true q3)
      exact hret _ _ 0 _ _ _ (by k_asm) (none_news (by k_asm) (fun p hp => by simp [hp])) (none_dat (te := te) (kid_none ((fd_parts q1 q2).trans q4)) rfl)
    · rename (x != _) = true => q1
      rename Int.ofNat _ = Int.ofNat _ => q2
      rename decide _ = false => q3
      rename DatAll _ _ _ => hD3
      have q4 : psRun (wfOf d (byteArr (lowC x))) e sp (-1) at_ [] ≠ [] := fun q => of_decide_eq_false q3 (by rw [q]; rfl)
      rw [← fd_parts (at_ := at_) (e := e) (sp := sp) (d := d) q1 q2] at hD3 q4
      rw [← kid_some q4] at hD3
      exact hret _ _ _ _ _ _ (by k_asm) (some_news (by k_asm) (fun p hp => by simp only [List.mem_cons, List.mem_append] at hp ⊢; rcases hp with hp | hp <;> simp [hp])) hD3
    · rename Int.ofNat _ ≠ Int.ofNat _ => q2
      exact hret _ _ 0 _ _ _ (by k_asm) (none_news (by k_asm) (fun p hp => by simp [hp])) (none_dat (te := te) (kid_none (fd_wide q2)) rfl)
    · rename (x != _) = false => q1
      exact hret _ _ 0 _ _ _ (by k_asm) (none_news (by k_asm) (fun p hp => by simp [hp])) (none_dat (te := te) (kid_none (fd_empty q1)) rfl)
  | succ j ih =>
    intro i ys hi hs
    refine LCt.CompRestT.succ ?_
    intro v I oI C oC D m₂ h tk E' hv hC hxv F N off ne
    obtain ⟨c, u, hc, rfl⟩ := hv
    (show wpAny _ _ _ _ _ _); k_fold
    k_steps
    · refine LCg.CompEnd.intro (by k_asm) (by k_asm) _ (fun _ h => h) off trivial ?_
      exact ih (i + 1) _ (by omega) (lowT_yes hc (by omega) hs)
    · refine LCg.CompEnd.intro (by k_asm) (by k_asm) _ (fun _ h => h) off trivial ?_
      exact ih (i + 1) _ (by omega) (lowT_no hc (by omega) hs)
end Mine
end PartK1

section PartK0
open PySem PySem.W PyProof.Rows
namespace Mine
theorem news_kids {h₀ h : Heap} {L : Addr} {a b c d e f g : Addr × Obj} {R : List (Addr × Obj)} (N : News h₀ L h (a :: b :: c :: d :: e :: f :: g :: R)) : News h₀ L h (b :: c :: d :: e :: g :: R) := by
  refine cb_drop N fun p hp => ?_
  simp only [List.mem_cons] at hp ⊢
  rcases hp with h | h | h | h | h | h <;> simp [h]
local macro_rules | `(tactic| k_room) => `(tactic| ktr_room)
local macro_rules | `(tactic| ktr_units) => `(tactic| ((have hcL9 := cLine_is); (try simp only [units_under_make, units_in1, units_deeper, Around.mark_units, units_caller] at *); (try dsimp only [ktrTop] at *); omega))
local macro_rules | `(tactic| walk_at "call ref") => `(tactic| (k_here; (with_reducible show wpAny _ _ (call (Value.ref 102) _) _ _ _); k_dflt (refine' ask_use ?k1 ?k2 ?k3 ?k4 ?k5 ?k6 ?k7 ?k8 (enc_tells _ _ _ _ _ _ _ ?u1) ?_; (case k1 | k2 | k3 | k4 => k_asm); (case k5 => first | exact rfl | assumption); (case k6 => ktr_room); (case k7 => ktr_units); (case k8 => k_asm); (case u1 => k_mem)); intro y' t' h' tk' F' N'))
local macro_rules | `(tactic| walk_at "call builtin:len") => `(tactic| (k_here; (with_reducible show wpAny _ _ (call (Value.builtin "len") [Value.bytes _ _]) _ _ _); (refine' len_bytes ?k0 ?_); (case k0 => omega)))
local macro_rules | `(tactic| walk_at "binaryOp Add bytes bytes") => `(tactic| (k_here; (with_reducible show wpAny _ _ (binaryOp Operator.Add (Value.bytes _ _) (Value.bytes _ _)) _ _ _); (refine' KBy.add_bytes ?k0 ?_); (case k0 => ((try simp only [Array.size_append, List.size_toArray, List.length_cons, List.length_nil]); omega)); intro _ _))
local macro_rules | `(tactic| walk_at "call ref") => `(tactic| (k_here; (with_reducible show wpAny _ _ (call (Value.ref 121) _) _ _ _); (with_reducible rename News _ _ _ _ => lN'); k_dflt (refine' ask_use ?k1 ?k2 ?k3 ?k4 ?k5 ?k6 ?k7 (news_kids lN') (kids_tells _ _ _ _ _ _ _ _ _ _ _ _ _ _ _ _ _ _ _ _ _ _ _ _ _ _ _ _ _ _ _ _ _ _ _ _ _ _ ?h1 ?h2 ?h3 ?h4 ?h5 ?h6 ?h7) ?_; (case k1 | k2 | k3 | k4 => k_asm); (case k5 => first | exact rfl | assumption); (case k6 => ktr_room); (case k7 => ktr_units); (case h1 | h2 | h3 | h4 | h5 | h6 | h7 => assumption)); intro r' vs' n' tl' h' tk' F' N' hD'))
local macro_rules | `(tactic| walk_at "compareOp Eq ref ref") => `(tactic| (k_here; (with_reducible show wpAny _ _ (compareOp CmpOp.Eq (Value.ref _) (Value.ref _)) _ _ _); (refine' kqd_eq ?N ?a rfl rfl ?d ?e ?f rfl rfl ?j ?k ?l ?m ?n ?_; (case N => k_asm); (case a => k_mem); (case d => assumption); (case f => k_mem); (case j => with_reducible assumption); (case e => (intro p hp; simp [hp])); (case k => (intro p hp; simp [hp])); (case l | m => kqd_ok); (case n => ktr_units))))
set_option maxRecDepth 100000 in
set_option maxHeartbeats 8000000 in
theorem law_tail (w : World) (mean : ExcName → Option Value) (mg mb : Str → Option Value) (dp un : Nat) (gd : Option (List Code)) (nm : Str) (a : Addr) (ccd : Value) (outer : List Env) (A₀ : Around) (base h₀ : Heap) (L : Addr) (m : Str → Option Value) (s : Shared) (Q : Flow → Shared → Prop) (E : Value → Shared → Prop)
    (B : Below A₀ base outer h₀) (X : (hd.heap_39 w.params).In h₀) (T : Top hd.view_39 LS mean mg mb h₀) (hd1 : dp + 60 < recursionLimit) (hu1 : un + 8 * 60 < cLine)
    (lead body : Array UInt8) (tl tb te tm : Tok) (e : Nat) (sp : List (Nat × Nat × Nat)) (pm dl : Addr) (o : Obj) (dvs : List Value) (dn : Nat) (dtl : List (Addr × Obj)) (news : List (Addr × Obj)) (kvs : List (Str × Value))
    (F : Fr h₀ L s.heap m) (N : News h₀ L s.heap ((pm, o) :: (dl, listOf dvs.toArray dn) :: dtl))
    (h1 : m "lead" = some (.bytes lead tl)) (h2 : m "body" = some (.bytes body tb)) (h3 : m "end" = some (.int e te)) (h4 : m "params" = some (.ref pm)) (h5 : m "due" = some (.ref dl)) 
    (hz : lead.size ≤ 100) (hz2 : body.size ≤ 100)
    (tx : Option Str) (ho : o.IsDictOf (strKind PySem.Challenge.rw_or0041_01.row.prog w) kvs) (hfl : PyProof.V.FlatPairs PyData.str kvs (paramsD tx)) (hpm : (pm == sysModules) = false) (hs : Spans (lead ++ body ++ #[45, 45, 113, 13, 10, 122]) e lead.size sp) (he : e ≤ (lead ++ body ++ #[45, 45, 113, 13, 10, 122]).size) (hzd : (lead ++ body ++ #[45, 45, 113, 13, 10, 122]).size ≤ 100000) (due : List (Int × Int)) (hD : DatAll dtl dvs (due.map pairD)) (hx : (tx.getD (Str.ofString "")).cps.size ≤ 50)
    (hdue : kidRun (lead ++ body ++ #[45, 45, 113, 13, 10, 122]) (tx.getD (Str.ofString "")) lead.size e sp = due)
    (hret : ∀ h' tk' m', Fr h₀ L h' m' → Q (.ret (.bool true)) { s with heap := h', toks := tk' }) :
    wpAny (model PySem.Challenge.rw_or0041_01.row.prog w) (ktrTop dp un gd nm lawScope L a ccd [] outer) (execs (lawBody.drop 12) (envOf nm lawScope L a ccd)) Q E s := by
  w_top off
  revert X ho
  k_fill
  intro X ho
  conv in (occs := *) lawScope => all_goals whnf
  conv in List.drop 12 lawBody => whnf
  have F2 := fr_known (ps := [("lead", .bytes lead tl), ("body", .bytes body tb), ("end", .int e te), ("params", .ref pm), ("due", .ref dl)]) F (List.forall_mem_cons.mpr ⟨h1, List.forall_mem_cons.mpr ⟨h2, List.forall_mem_cons.mpr ⟨h3, List.forall_mem_cons.mpr ⟨h4, List.forall_mem_cons.mpr ⟨h5, fun _ h => nomatch h⟩⟩⟩⟩⟩)
  clear F
  dsimp only [kstB] at F2
  repeat' ((fail_if_success (with_reducible show wpAny _ _ (call (Value.ref 121) _) _ _ _)); first | (k_unfold; (try dsimp only)) | (k_end; wrow_close) | walk1 | (dsimp only; walk1) | (leave1; walk_say "STEP leave1"; try dsimp only) | fail "no step")
  rename News _ _ _ _ => lN'
  k_here
  refine' ask_use ?k1 ?k2 ?k3 ?k4 ?k5 ?k6 ?k7 (news_kids lN') (kids_tells _ _ _ _ _ _ _ _ _ _ _ _ _ _ _ _ _ _ _ _ _ _ _ _ _ _ _ _ _ _ _ _ _ _ _ _ _ _ ?h1 ?h2 ?h3 ?h4 ?h5 ?h6 ?h7) ?_; (case k1 => k_asm); (case k2 => k_asm); (case k3 => k_asm); (case k4 => k_asm); (case k5 => first | exact rfl | assumption); (case k6 => ktr_room); (case k7 => ktr_units); (case h1 => assumption); (case h2 => assumption); (case h3 => assumption); (case h4 => assumption); (case h5 => assumption); (case h6 => assumption); (case h7 => assumption)
  intro r' vs' n' tl' h' tk' F' N' hD'
  clear lN'
  rename Fr _ _ _ _ => F9
  replace N' := news_swap N'
  dsimp only [List.cons_append] at N'
  k_steps
  · simp only [hdue, eq_self, decide_true]
    exact hret _ _ _ (by k_asm)
end Mine
end PartK0

section PartRg
open PySem PySem.W PySem.Calls PyProof.Rows
namespace Mine
section
variable {prog : Program} {w : World} {A : Around} {E : Value → Shared → Prop} {Q : Flow → Shared → Prop} {s : Shared} {env : Env} {h₀ : Heap} {x : Str} {px : Pos} {body : List Stmt}
theorem dt_range {σ : Type} {r : Addr} {a₀ b₀ : Int} {t₀ u₀ v₀ : Tok} {n : Nat} {m₀ : Str → Option Value} {news : List (Addr × Obj)} (Led : σ → List (Addr × Obj)) (cst : List (Addr × Obj)) (ps : σ → List (Str × Value)) (Facts : List (Addr × Obj) → σ → Prop) (stored : List Str) (P : Nat → σ → Prop) (c₀ : σ)
    (hh : A.handled = none) (hr : IsRange s.heap r a₀ b₀ 1 t₀ u₀ v₀) (hsmall : Builtin.Range.small a₀ b₀ 1 = true) (hsz : Builtin.Range.rangeSize a₀ b₀ 1 = (n : Int)) (F : Fr h₀ env.locals s.heap m₀) (N : News h₀ env.locals s.heap news) (hn : ∀ p ∈ Led c₀ ++ ([] ++ cst), p ∈ news) (hf : Facts [] c₀) (hk : ∀ p ∈ ps c₀, m₀ p.1 = some p.2) (hp : P 0 c₀)
    (turn : ∀ (c : σ) tl (i : Nat) v (u : Str → Option Value) h tk own, i < n → (∃ t, v = .int (a₀ + i) t) → OwnOff own ((Led c ++ (tl ++ cst)).map (·.1)) → Facts tl c → P i c → Fr h₀ env.locals h (kstB (fun z => if stored.contains z then u z else m₀ z) (ps c)) → News h₀ env.locals h (Led c ++ (tl ++ (cst ++ own))) →
      wpAny (model prog w) A (assign (.Name x px) env v) (fun _ s₃ => wpAny (model prog w) A (execs body env) (DtPost h₀ env.locals { s with heap := h, toks := tk } Led cst ps Facts stored m₀ P own Q (i + 1)) E s₃) E { s with heap := h, toks := tk })
    (done : ∀ (c : σ) tl (u : Str → Option Value) h tk, Facts tl c → P n c → Fr h₀ env.locals h (kstB (fun z => if stored.contains z then u z else m₀ z) (ps c)) → News h₀ env.locals h (Led c ++ (tl ++ cst)) → Q .next { s with heap := h, toks := tk }) :
    wpAny (model prog w) A (pyIter (.ref r)) (fun it s₂ => TurnsAt prog w A h₀ env (.Name x px) body Q E it s₂) E s := by
  refine wpAny_pyIter_range hr hsmall ?_
  have W : Walks prog w A s.heap.objs.size [s.heap.objs.size] [s.heap.objs.size] n (fun i v => i < n ∧ ∃ t, v = .int (a₀ + i * 1) t)
      (fun i h => IsRangeIter h s.heap.objs.size (a₀ + (i : Nat) * 1) ((n : Int) - (i : Nat)) 1) := (Walks.range hh _ a₀ 1 n).bound
  refine ⟨s.heap.objs.size, _, _, n, _, _, _, m₀, Led c₀ ++ ([] ++ cst), (fun i m nx => ∃ (c : σ) (tl : List (Addr × Obj)), nx = Led c ++ (tl ++ cst) ∧ Facts tl c ∧ (∀ p ∈ ps c, m p.1 = some p.2) ∧ (∀ z, (∀ p ∈ ps c, z ≠ p.1) → stored.contains z = false → m z = m₀ z) ∧ P i c), rfl,
    KTurns.ofWalks W fun i v s Q E st q => wpAny_pure q, ?_, ?_, ?_, (by show IsRangeIter _ _ _ _ _; rw [hsz]; simpa using Heap.get?_push_size _ rfl), F.push _, (fun p hp => ⟨Heap.get?_push_of_some _ (N p (hn p hp)).1, (N p (hn p hp)).2⟩), ⟨c₀, [], rfl, hf, hk, fun _ _ _ => rfl, hp⟩, ?_, ?_⟩
  · intro hm
    exact absurd F.ns.lt ((List.mem_singleton.mp hm) ▸ Nat.lt_irrefl _)
  · intro b hb
    rw [List.mem_singleton.mp hb]
    exact next_is_new F
  · intro p hp hI
    exact absurd (Heap.lt_size (N p (hn p hp)).1) ((List.mem_singleton.mp hI) ▸ Nat.lt_irrefl _)
  · rintro i v m₁ news₁ h₁ tk₁ own hin hP ⟨c, tl, rfl, hf', h1, h2, hp'⟩ hoff hown hget hall hst F₁ N₁
    have hoI := id hst
    have hI0 : h₀.get? s.heap.objs.size = none := next_is_new F
    have hsep : OwnOff own ((Led c ++ (tl ++ cst)).map (·.1)) := by
      intro p hp b hb e
      obtain ⟨q, hq, rfl⟩ := List.mem_map.mp hb
      have e1 : p.1 = s.heap.objs.size := List.mem_singleton.mp (hown p hp)
      exact hoff q hq (List.mem_singleton.mpr (e ▸ e1))
    have N₂ : News h₀ env.locals h₁ (Led c ++ (tl ++ (cst ++ own))) := by
      intro p hp
      rw [← List.append_assoc, ← List.append_assoc] at hp
      rcases List.mem_append.mp hp with h | h
      · exact N₁ p (List.mem_append.mpr (.inr (by rw [← List.append_assoc]; exact h)))
      · exact N₁ p (List.mem_append.mpr (.inl h))
    have hv : ∃ t, v = .int (a₀ + i) t := by
      obtain ⟨_, t, e⟩ := hP
      exact ⟨t, by rw [e, Int.mul_one]⟩
    refine wpAny_mono (turn c tl i v m₁ h₁ tk₁ _ hin hv hsep hf' hp' (ksw_fr h1 h2 F₁) N₂) (fun _ s₃ q => wpAny_mono q (fun f s₄ z => ?_) fun _ _ x => x) fun _ _ x => x
    have up : DtEnd h₀ env.locals { s with heap := h₁, toks := tk₁ } Led cst ps Facts stored m₀ P own (i + 1) s₄ →
        LoopStepU h₀ env.locals [s.heap.objs.size] own (fun m nx => ∃ (c : σ) (tl : List (Addr × Obj)), nx = Led c ++ (tl ++ cst) ∧ Facts tl c ∧ (∀ p ∈ ps c, m p.1 = some p.2) ∧ (∀ z, (∀ p ∈ ps c, z ≠ p.1) → stored.contains z = false → m z = m₀ z) ∧ P (i + 1) c) { s with heap := h₁, toks := tk₁ } .next s₄ := by
      rintro ⟨c', tl', h', tk, m', news', e, F', N', hn', ho', ha', hf9, hk9, hr9, hp9⟩
      refine ⟨rfl, h', tk, m', _, e, F', fun p hp => ?_, fun p hp hq => ?_, c', tl', rfl, hf9, hk9, hr9, hp9⟩
      · rcases List.mem_append.mp hp with h | h
        · exact N' p (ho' p h)
        · exact N' p (hn' p h)
      · have hIown := hall _ (List.mem_cons_self ..) hI0 _ hoI
        exact ha' _ hIown p.1 (List.mem_map.mpr ⟨p, hp, rfl⟩) (List.mem_singleton.mp hq).symm
    cases f with
    | ret v => exact .ret z
    | brk => exact .brk z
    | next => exact .next (up z)
    | cont => exact .cont (up z)
  · rintro h' tk m' news' F' N' _ ⟨c, tl, rfl, hf', h1, h2, hp'⟩
    exact done c tl m' h' tk hf' hp' (ksw_fr h1 h2 F') N'
end
end Mine
end PartRg

section PartE0
open PySem PySem.W PyProof.Rows
namespace Mine
theorem law_split (i j : Nat) : lawBody.drop i = (lawBody.drop i).take j ++ lawBody.drop (i + j) := by
  rw [← List.drop_drop]
  exact (List.take_append_drop ..).symm
/-- what the law reckons at its end -/
def finDue (g : Int) (ov : Bool) (e : Int) (fd : List (Int × Int)) : List (Int × Int) := if 0 ≤ g then (if ov = true then fd else fd ++ [(g, e)]) else fd
def lawDue (mk : Option (Array UInt8)) (e : Int) (fd : List (Int × Int)) : List (Int × Int) := if mk = none then [(e, e)] else if fd = [] then [(e, e)] else fd
def ParOk (w : World) (tx : Option Str) (pm : Addr) (o : Obj) : Prop :=
  (∃ kvs, o.IsDictOf (strKind PySem.Challenge.rw_or0041_01.row.prog w) kvs ∧ PyProof.V.FlatPairs PyData.str kvs (paramsD tx)) ∧ (pm == sysModules) = false ∧ (tx.getD (Str.ofString "")).cps.size ≤ 50
local macro_rules | `(tactic| k_room) => `(tactic| ktr_room)
local macro_rules | `(tactic| walk_at "call builtin:len") => `(tactic| (k_here; (with_reducible show wpAny _ _ (call (Value.builtin "len") [Value.bytes _ _]) _ _ _); (refine' len_bytes ?k0 ?_); (case k0 => omega)))
local macro_rules | `(tactic| k_all) => `(tactic| assumption)
theorem news_pm {h₀ h : Heap} {L : Addr} {a b : Addr × Obj} {R dtl : List (Addr × Obj)} (N : News h₀ L h (a :: R)) (h1 : ∀ p ∈ dtl, p ∈ R) (h2 : b ∈ R) : News h₀ L h (b :: a :: dtl) := by
  refine cb_drop N fun p hp => ?_
  rcases List.mem_cons.mp hp with h | h
  · exact List.mem_cons_of_mem _ (h ▸ h2)
  · rcases List.mem_cons.mp h with h | h
    · exact List.mem_cons.mpr (.inl h)
    · exact List.mem_cons_of_mem _ (h1 p h)
theorem news_pm2 {h₀ h : Heap} {L : Addr} {a b c : Addr × Obj} {R : List (Addr × Obj)} (N : News h₀ L h (a :: c :: R)) (h2 : b ∈ R) : News h₀ L h (b :: a :: [c]) :=
  news_pm N (fun p hp => List.mem_cons.mpr (.inl (List.mem_singleton.mp hp))) (List.mem_cons_of_mem _ h2)
theorem news_t1 {h₀ h : Heap} {L : Addr} {x a b : Addr × Obj} {R dtl : List (Addr × Obj)} (N : News h₀ L h (x :: a :: R)) (h1 : ∀ p ∈ dtl, p ∈ R) (h2 : b ∈ R) : News h₀ L h (b :: a :: dtl) :=
  news_pm (cb_drop N fun p hp => List.mem_cons_of_mem _ hp) h1 h2
theorem news_t2 {h₀ h : Heap} {L : Addr} {x a b c : Addr × Obj} {R dtl : List (Addr × Obj)} (N : News h₀ L h (x :: c :: a :: R)) (h1 : ∀ p ∈ dtl, p ∈ R) (h2 : b ∈ R) : News h₀ L h (b :: a :: c :: dtl) := by
  refine cb_drop N fun p hp => ?_
  rcases List.mem_cons.mp hp with h | h
  · exact List.mem_cons_of_mem _ (List.mem_cons_of_mem _ (List.mem_cons_of_mem _ (h ▸ h2)))
  · rcases List.mem_cons.mp h with h | h
    · exact List.mem_cons_of_mem _ (List.mem_cons_of_mem _ (List.mem_cons.mpr (.inl h)))
    · rcases List.mem_cons.mp h with h | h
      · exact List.mem_cons_of_mem _ (List.mem_cons.mpr (.inl h))
      · exact List.mem_cons_of_mem _ (List.mem_cons_of_mem _ (List.mem_cons_of_mem _ (h1 p h)))
theorem fin_over {g : Int} {ov : Bool} {e : Int} {fd : List (Int × Int)} (h1 : 0 ≤ g) (h2 : ov = true) : finDue g ov e fd = fd := by
  unfold finDue
  rw [if_pos h1, if_pos h2]
theorem fin_open {g : Int} {ov : Bool} {e : Int} {fd : List (Int × Int)} (h1 : 0 ≤ g) (h2 : ov = false) : finDue g ov e fd = fd ++ [(g, e)] := by
  unfold finDue
  rw [if_pos h1, if_neg (by rw [h2]; decide)]
theorem fin_not {g : Int} {ov : Bool} {e : Int} {fd : List (Int × Int)} (h1 : ¬ 0 ≤ g) : finDue g ov e fd = fd := by
  unfold finDue
  rw [if_neg h1]
theorem law_nil {mk : Option (Array UInt8)} {e : Int} {fd : List (Int × Int)} (h : fd = []) : lawDue mk e fd = [(e, e)] := by
  unfold lawDue
  rw [if_pos h]
  split <;> rfl
theorem law_full {M : Array UInt8} {e : Int} {fd : List (Int × Int)} (h : fd ≠ []) : lawDue (some M) e fd = fd := by
  unfold lawDue
  rw [if_neg (by simp), if_neg h]
set_option maxRecDepth 100000 in
set_option maxHeartbeats 8000000 in
theorem law_pick (w : World) (mean : ExcName → Option Value) (mg mb : Str → Option Value) (dp un : Nat) (gd : Option (List Code)) (nm : Str) (a : Addr) (ccd : Value) (outer : List Env) (A₀ : Around) (base h₀ : Heap) (L : Addr) (m : Str → Option Value) (s : Shared) (Q : Flow → Shared → Prop) (E : Value → Shared → Prop)
    (B : Below A₀ base outer h₀) (X : (hd.heap_39 w.params).In h₀) (T : Top hd.view_39 LS mean mg mb h₀) (hd1 : dp + 60 < recursionLimit) (hu1 : un + 8 * 60 < cLine)
    (lead body : Array UInt8) (tl tb te tm : Tok) (mk : Option (Array UInt8)) (sp : List (Nat × Nat × Nat)) (pm dl : Addr) (o : Obj) (dvs : List Value) (dn : Nat) (dtl R : List (Addr × Obj))
    (F : Fr h₀ L s.heap m) (N : News h₀ L s.heap ((dl, listOf dvs.toArray dn) :: R)) (hmR : (pm, o) ∈ R) (htR : ∀ q ∈ dtl, q ∈ R)
    (h1 : m "lead" = some (.bytes lead tl)) (h2 : m "body" = some (.bytes body tb)) (h3 : m "end" = some (.int ((lead.size + body.size : Nat) : Int) te)) (h4 : m "params" = some (.ref pm)) (h5 : m "due" = some (.ref dl)) (h7 : m "mark" = some (markV tm mk))
    (hz : lead.size ≤ 100) (hz2 : body.size ≤ 100)
    (tx : Option Str) (hP : ParOk w tx pm o)
    (hs : Spans (lead ++ body ++ #[45, 45, 113, 13, 10, 122]) (lead.size + body.size) lead.size sp) (fd : List (Int × Int)) (hD : DatAll dtl dvs (fd.map pairD))
    (hdue : kidRun (lead ++ body ++ #[45, 45, 113, 13, 10, 122]) (tx.getD (Str.ofString "")) lead.size ((lead.size + body.size : Nat) : Int) sp = lawDue mk ((lead.size + body.size : Nat) : Int) fd)
    (hret : ∀ h' tk' m', Fr h₀ L h' m' → Q (.ret (.bool true)) { s with heap := h', toks := tk' }) :
    wpAny (model PySem.Challenge.rw_or0041_01.row.prog w) (ktrTop dp un gd nm lawScope L a ccd [] outer) (execs (lawBody.drop 11) (envOf nm lawScope L a ccd)) Q E s := by
  rw [law_split 11 1]
  refine execs_split _ _ ?_
  have X' := X
  w_top off
  revert X
  k_fill
  intro X
  conv in (occs := *) lawScope => all_goals whnf
  conv in List.take 1 _ => whnf
  have F2 := fr_known (ps := [("lead", .bytes lead tl), ("body", .bytes body tb), ("end", .int ((lead.size + body.size : Nat) : Int) te), ("params", .ref pm), ("due", .ref dl), ("mark", markV tm mk)]) F (List.forall_mem_cons.mpr ⟨h1, List.forall_mem_cons.mpr ⟨h2, List.forall_mem_cons.mpr ⟨h3, List.forall_mem_cons.mpr ⟨h4, List.forall_mem_cons.mpr ⟨h5, List.forall_mem_cons.mpr ⟨h7, fun _ h => nomatch h⟩⟩⟩⟩⟩⟩)
  clear F
  dsimp only [kstB] at F2
  rcases mk with _ | M <;> dsimp only [markV] at F2
  · have hdue2 := hdue.trans (if_pos rfl)
    k_steps
    all_goals (try dsimp only)
    all_goals (
      obtain ⟨⟨kvs, ho, hfl⟩, hpm, hx⟩ := hP
      refine wpAny_execs_nil ?_
      rename News _ _ _ _ => lN
      rename Fr _ _ _ _ => lF
      show wpAny _ _ (execs (lawBody.drop 12) (envOf nm lawScope L a ccd)) Q E _
      refine' law_tail w mean mg mb dp un gd nm a ccd outer A₀ base h₀ L _ _ Q E B X' T hd1 hu1 lead body tl tb te tl (lead.size + body.size) sp pm _ o _ _ _ [] kvs lF (news_pm2 lN ?b) ?h1 ?h2 ?h3 ?h4 ?h5 hz hz2 tx ho hfl hpm hs ?he ?hzd _ ?hD hx ?hdue ?hret
      case h1 => rfl
      case h2 => rfl
      case h3 => rfl
      case h4 => rfl
      case h5 => rfl
      case hdue => exact hdue2
      case he => simp only [Array.size_append]; omega
      case hzd => simp only [Array.size_append, List.size_toArray, List.length_cons, List.length_nil]; omega
      case hret => intro h' tk' m' F'; exact hret h' tk' m' F'
      case hD => exact none_dat rfl rfl
      case b => simp [hmR])
  · (repeat' ((fail_if_success (with_reducible show wpAny _ _ (compareOp CmpOp.Eq (Value.ref _) (Value.ref _)) _ _ _)); first | (k_unfold; (try dsimp only)) | (k_end; wrow_close) | walk1 | (dsimp only; walk1) | (leave1; walk_say "STEP leave1"; try dsimp only) | fail "no step"))
    refine kqd_eq (n₁ := dtl) (n₂ := []) (by k_asm) (by k_mem) rfl rfl hD (fun p hp => List.mem_cons_of_mem _ (List.mem_cons_of_mem _ (htR p hp))) (by k_mem) rfl rfl DatAll.nil (fun _ h => nomatch h) (by kqd_ok) (fun _ h => nomatch h) (by ktr_units) ?_
    k_steps
    · rename decide _ = true => q3
      have hdue2 := hdue.trans (law_nil (List.map_eq_nil_iff.mp (of_decide_eq_true q3)))
      try dsimp only
      (
        obtain ⟨⟨kvs, ho, hfl⟩, hpm, hx⟩ := hP
        refine wpAny_execs_nil ?_
        rename News _ _ _ _ => lN
        rename Fr _ _ _ _ => lF
        show wpAny _ _ (execs (lawBody.drop 12) (envOf nm lawScope L a ccd)) Q E _
        refine' law_tail w mean mg mb dp un gd nm a ccd outer A₀ base h₀ L _ _ Q E B X' T hd1 hu1 lead body tl tb te tl (lead.size + body.size) sp pm _ o _ _ _ [] kvs lF (news_pm2 lN ?b) ?h1 ?h2 ?h3 ?h4 ?h5 hz hz2 tx ho hfl hpm hs ?he ?hzd _ ?hD hx ?hdue ?hret
        case h1 => rfl
        case h2 => rfl
        case h3 => rfl
        case h4 => rfl
        case h5 => rfl
        case hdue => exact hdue2
        case he => simp only [Array.size_append]; omega
        case hzd => simp only [Array.size_append, List.size_toArray, List.length_cons, List.length_nil]; omega
        case hret => intro h' tk' m' F'; exact hret h' tk' m' F'
        case hD => exact none_dat rfl rfl
        case b => simp [hmR])
    · rename decide _ = false => q3
      have hdue2 := hdue.trans (law_full fun q => of_decide_eq_false q3 (by rw [q]; rfl))
      try dsimp only
      (
        obtain ⟨⟨kvs, ho, hfl⟩, hpm, hx⟩ := hP
        refine wpAny_execs_nil ?_
        rename News _ _ _ _ => lN
        rename Fr _ _ _ _ => lF
        show wpAny _ _ (execs (lawBody.drop 12) (envOf nm lawScope L a ccd)) Q E _
        refine' law_tail w mean mg mb dp un gd nm a ccd outer A₀ base h₀ L _ _ Q E B X' T hd1 hu1 lead body tl tb te tl (lead.size + body.size) sp pm _ o _ _ _ [] kvs lF (news_t1 lN htR hmR) ?h1 ?h2 ?h3 ?h4 ?h5 hz hz2 tx ho hfl hpm hs ?he ?hzd _ ?hD hx ?hdue ?hret
        case h1 => rfl
        case h2 => rfl
        case h3 => rfl
        case h4 => rfl
        case h5 => rfl
        case hdue => exact hdue2
        case he => simp only [Array.size_append]; omega
        case hzd => simp only [Array.size_append, List.size_toArray, List.length_cons, List.length_nil]; omega
        case hret => intro h' tk' m' F'; exact hret h' tk' m' F')
      case hD => exact hD
set_option maxRecDepth 100000 in
set_option maxHeartbeats 8000000 in
theorem law_end (w : World) (mean : ExcName → Option Value) (mg mb : Str → Option Value) (dp un : Nat) (gd : Option (List Code)) (nm : Str) (a : Addr) (ccd : Value) (outer : List Env) (A₀ : Around) (base h₀ : Heap) (L : Addr) (m : Str → Option Value) (s : Shared) (Q : Flow → Shared → Prop) (E : Value → Shared → Prop)
    (B : Below A₀ base outer h₀) (X : (hd.heap_39 w.params).In h₀) (T : Top hd.view_39 LS mean mg mb h₀) (hd1 : dp + 60 < recursionLimit) (hu1 : un + 8 * 60 < cLine)
    (lead body : Array UInt8) (tl tb tg tm : Tok) (g : Int) (ov : Bool) (mk : Option (Array UInt8)) (sp : List (Nat × Nat × Nat)) (pm dl : Addr) (o : Obj) (dvs : List Value) (dn : Nat) (dtl R : List (Addr × Obj))
    (F : Fr h₀ L s.heap m) (N : News h₀ L s.heap ((dl, listOf dvs.toArray dn) :: R)) (hR : ∀ q ∈ R, q.1 ≠ dl) (hmR : (pm, o) ∈ R) (htR : ∀ q ∈ dtl, q ∈ R) 
    (h1 : m "lead" = some (.bytes lead tl)) (h2 : m "body" = some (.bytes body tb)) (h3 : m "begun" = some (.int g tg)) (h4 : m "params" = some (.ref pm)) (h5 : m "due" = some (.ref dl)) (h6 : m "is_over" = some (.bool ov)) (h7 : m "mark" = some (markV tm mk))
    (hz : lead.size ≤ 100) (hz2 : body.size ≤ 100)
    (tx : Option Str) (hP : ParOk w tx pm o)
    (hs : Spans (lead ++ body ++ #[45, 45, 113, 13, 10, 122]) (lead.size + body.size) lead.size sp) (fd : List (Int × Int)) (hD : DatAll dtl dvs (fd.map pairD)) (hfl2 : fd.length ≤ 50)
    (hdue : kidRun (lead ++ body ++ #[45, 45, 113, 13, 10, 122]) (tx.getD (Str.ofString "")) lead.size ((lead.size + body.size : Nat) : Int) sp = lawDue mk ((lead.size + body.size : Nat) : Int) (finDue g ov ((lead.size + body.size : Nat) : Int) fd))
    (hret : ∀ h' tk' m', Fr h₀ L h' m' → Q (.ret (.bool true)) { s with heap := h', toks := tk' }) :
    wpAny (model PySem.Challenge.rw_or0041_01.row.prog w) (ktrTop dp un gd nm lawScope L a ccd [] outer) (execs (lawBody.drop 9) (envOf nm lawScope L a ccd)) Q E s := by
  rw [law_split 9 2]
  refine execs_split _ _ ?_
  have hlen := hD.length
  rw [List.length_map] at hlen
  have hsz : dvs.toArray.size ≤ sizeLine := by rw [List.size_toArray, hlen, sizeLine_eq]; omega
  have X' := X
  w_top off
  revert X
  k_fill
  intro X
  conv in (occs := *) lawScope => all_goals whnf
  conv in List.take 2 _ => whnf
  have F2 := fr_known (ps := [("lead", .bytes lead tl), ("body", .bytes body tb), ("begun", .int g tg), ("params", .ref pm), ("due", .ref dl), ("is_over", .bool ov), ("mark", markV tm mk)]) F (List.forall_mem_cons.mpr ⟨h1, List.forall_mem_cons.mpr ⟨h2, List.forall_mem_cons.mpr ⟨h3, List.forall_mem_cons.mpr ⟨h4, List.forall_mem_cons.mpr ⟨h5, List.forall_mem_cons.mpr ⟨h6, List.forall_mem_cons.mpr ⟨h7, fun _ h => nomatch h⟩⟩⟩⟩⟩⟩⟩)
  clear F
  dsimp only [kstB] at F2
  k_steps
  all_goals (try dsimp only)
  all_goals refine wpAny_execs_nil ?_
  all_goals rename Fr _ _ _ _ => lF
  all_goals rename News _ _ _ _ => lN
  all_goals show wpAny _ _ (execs (lawBody.drop 11) (envOf nm lawScope L a ccd)) Q E _
  · rename ov = true => q2
    rename 0 ≤ g => q1
    refine law_pick w mean mg mb dp un gd nm a ccd outer A₀ base h₀ L _ _ Q E B X' T hd1 hu1 lead body tl tb _ tm mk sp pm dl o dvs dn dtl R lF lN hmR htR rfl rfl rfl rfl rfl rfl hz hz2 tx hP hs fd hD (hdue.trans (congrArg _ (fin_over q1 q2))) ?_
    intro h' tk' m' F'
    exact hret h' tk' m' F'
  · rename ov = false => q2
    rename 0 ≤ g => q1
    refine law_pick w mean mg mb dp un gd nm a ccd outer A₀ base h₀ L _ _ Q E B X' T hd1 hu1 lead body tl tb _ tm mk sp pm dl o _ _ _ _ lF (ps_more lN) (List.mem_cons_of_mem _ hmR) (List.forall_mem_cons.mpr ⟨List.mem_cons_self .., fun q hq => List.mem_cons_of_mem _ (htR q hq)⟩) rfl rfl rfl rfl rfl rfl hz hz2 tx hP hs _ (pair_more hD) (hdue.trans (congrArg _ (fin_open q1 q2))) ?_
    intro h' tk' m' F'
    exact hret h' tk' m' F'
  · rename ¬ 0 ≤ g => q1
    refine law_pick w mean mg mb dp un gd nm a ccd outer A₀ base h₀ L _ _ Q E B X' T hd1 hu1 lead body tl tb _ tm mk sp pm dl o dvs dn dtl R lF lN hmR htR rfl rfl rfl rfl rfl rfl hz hz2 tx hP hs fd hD (hdue.trans (congrArg _ (fin_not q1))) ?_
    intro h' tk' m' F'
    exact hret h' tk' m' F'
end Mine
end PartE0

section PartE1
open PySem PySem.W PyProof.Rows
namespace Mine
noncomputable def forBody : List Stmt := match lawBody.drop 8 with
  | Stmt.For _ _ b _ _ :: _ => b
  | _ => []
structure LSt where
  body : Array UInt8
  g : Int
  ov : Bool
  fd : List (Int × Int)
def dashed (l : Array UInt8) : Bool := (KBy.picked l none (some 2)).toList == #[45, 45].toList
/-- what a turn of the law's loop does -/
def stepL (lead M : Array UInt8) (c : LSt) (l : Array UInt8) : LSt :=
  if dashed l = true then
    if c.ov = true then { c with body := c.body ++ l ++ #[13, 10] }
    else { body := c.body ++ l ++ #[13, 10], g := (lead.size : Int) + (c.body.size : Int) + (l.size : Int) + 2, ov := l.toList != M.toList,
           fd := if 0 ≤ c.g then c.fd ++ [(c.g, if (lead.size : Int) + (c.body.size : Int) - 2 > c.g then (lead.size : Int) + (c.body.size : Int) - 2 else c.g)] else c.fd }
  else { c with body := c.body ++ l ++ #[13, 10] }
theorem step_over {lead M l : Array UInt8} {c : LSt} (h1 : dashed l = true) (h2 : c.ov = true) : stepL lead M c l = { c with body := c.body ++ l ++ #[13, 10] } := by
  unfold stepL
  rw [if_pos h1, if_pos h2]
theorem step_plain {lead M l : Array UInt8} {c : LSt} (h1 : dashed l = false) : stepL lead M c l = { c with body := c.body ++ l ++ #[13, 10] } := by
  unfold stepL
  rw [if_neg (by rw [h1]; decide)]
theorem step_more {lead M l : Array UInt8} {c : LSt} (h1 : dashed l = true) (h2 : c.ov = false) (h3 : 0 ≤ c.g) : stepL lead M c l = { body := c.body ++ l ++ #[13, 10], g := (lead.size : Int) + (c.body.size : Int) + (l.size : Int) + 2, ov := l.toList != M.toList, fd := c.fd ++ [(c.g, if (lead.size : Int) + (c.body.size : Int) - 2 > c.g then (lead.size : Int) + (c.body.size : Int) - 2 else c.g)] } := by
  unfold stepL
  rw [if_pos h1, if_neg (by rw [h2]; decide), if_pos h3]
theorem step_first {lead M l : Array UInt8} {c : LSt} (h1 : dashed l = true) (h2 : c.ov = false) (h3 : ¬ 0 ≤ c.g) : stepL lead M c l = { body := c.body ++ l ++ #[13, 10], g := (lead.size : Int) + (c.body.size : Int) + (l.size : Int) + 2, ov := l.toList != M.toList, fd := c.fd } := by
  unfold stepL
  rw [if_pos h1, if_neg (by rw [h2]; decide), if_neg h3]
abbrev lawSto : List Str := ["k", "line", "here", "begun", "is_over", "body"]
theorem kst_known {m : PySem.Str → Option Value} {ps : List (PySem.Str × Value)} (hk : ∀ p ∈ ps, m p.1 = some p.2) : kstB m ps = m :=
  funext fun y => kstB_eq hk fun _ => rfl
local macro_rules | `(tactic| k_room) => `(tactic| ktr_room)
local macro_rules | `(tactic| walk_at "call builtin:len") => `(tactic| (k_here; (with_reducible show wpAny _ _ (call (Value.builtin "len") [Value.bytes _ _]) _ _ _); (refine' len_bytes ?k0 ?_); (case k0 => omega)))
local macro_rules | `(tactic| walk_at "subscriptTail") => `(tactic| (k_here; (with_reducible show wpAny _ _ (subscriptTail _ (Expr.Slice _ _ none _) (Value.bytes _ _) (Value.ref _)) _ _ _); (with_reducible rename Fr _ _ _ _ => F'); (with_reducible rename News _ _ _ _ => N'); (refine cut_any (s := ⟨_, _, _, _, _⟩) F' N' (by constructor) (by constructor) (by omega) ?_); intro _ _ _ _ _))
local macro_rules | `(tactic| walk_at "binaryOp Add bytes bytes") => `(tactic| (k_here; (with_reducible show wpAny _ _ (binaryOp Operator.Add (Value.bytes _ _) (Value.bytes _ _)) _ _ _); (refine' KBy.add_bytes ?k0 ?_); (case k0 => ((try simp only [Array.size_append, List.size_toArray, List.length_cons, List.length_nil]); omega)); intro _ _))
local macro_rules | `(tactic| k_all) => `(tactic| assumption)
set_option maxRecDepth 100000 in
set_option maxHeartbeats 8000000 in
theorem law_turn (w : World) (mean : ExcName → Option Value) (mg mb : Str → Option Value) (dp un : Nat) (gd : Option (List Code)) (nm : Str) (a : Addr) (ccd : Value) (outer : List Env) (A₀ : Around) (base h₀ : Heap) (L : Addr) (m : Str → Option Value) (s : Shared) (Q : Flow → Shared → Prop) (E : Value → Shared → Prop)
    (B : Below A₀ base outer h₀) (X : (hd.heap_39 w.params).In h₀) (T : Top hd.view_39 LS mean mg mb h₀) (hd1 : dp + 60 < recursionLimit) (hu1 : un + 8 * 60 < cLine)
    (lead body l M : Array UInt8) (tl tb tg tm t9 : Tok) (g : Int) (ov : Bool) (dl : Addr) (dvs : List Value) (dn : Nat) (dtl R : List (Addr × Obj))
    (F : Fr h₀ L s.heap m) (N : News h₀ L s.heap ((dl, listOf dvs.toArray dn) :: R)) (hR : ∀ q ∈ R, q.1 ≠ dl)
    (h1 : m "lead" = some (.bytes lead tl)) (h2 : m "body" = some (.bytes body tb)) (h3 : m "begun" = some (.int g tg)) (h4 : m "told_mark" = some (.bytes M tm)) (h5 : m "due" = some (.ref dl)) (h6 : m "is_over" = some (.bool ov)) (h7 : m "line" = some (.bytes l t9))
    (hz : lead.size ≤ 100) (hz2 : body.size ≤ 100) (hz3 : l.size ≤ 20) (hz4 : M.size ≤ 20)
    (fd : List (Int × Int)) (hD : DatAll dtl dvs (fd.map pairD)) (hfl2 : fd.length ≤ 50)
    (hret : ∀ (c' : LSt) (vs' : List Value) (n' : Nat) (tl' : List (Addr × Obj)) (tb' tg' : Tok) h' tk' m', c' = stepL lead M ⟨body, g, ov, fd⟩ l → Fr h₀ L h' m' → News h₀ L h' ((dl, listOf vs'.toArray n') :: (tl' ++ R)) → (tl' = [] ∨ ∃ D o, tl' = [(D, o)] ∧ dl < D ∧ AllLt D R) →
      DatAll (tl' ++ dtl) vs' (c'.fd.map pairD) → m' "body" = some (.bytes c'.body tb') → m' "begun" = some (.int c'.g tg') → m' "is_over" = some (.bool c'.ov) → (∀ z, lawSto.contains z = false → m' z = m z) → Q .next { s with heap := h', toks := tk' }) :
    wpAny (model PySem.Challenge.rw_or0041_01.row.prog w) (ktrTop dp un gd nm lawScope L a ccd [] outer) (execs (forBody.drop 1) (envOf nm lawScope L a ccd)) Q E s := by
  have hlen := hD.length
  rw [List.length_map] at hlen
  have hsz : dvs.toArray.size ≤ sizeLine := by rw [List.size_toArray, hlen, sizeLine_eq]; omega
  w_top off
  revert X
  k_fill
  intro X
  conv in (occs := *) lawScope => all_goals whnf
  conv in List.drop 1 _ => whnf
  have e9 : kstB m [("lead", .bytes lead tl), ("body", .bytes body tb), ("begun", .int g tg), ("told_mark", .bytes M tm), ("due", .ref dl), ("is_over", .bool ov), ("line", .bytes l t9)] = m := kst_known (List.forall_mem_cons.mpr ⟨h1, List.forall_mem_cons.mpr ⟨h2, List.forall_mem_cons.mpr ⟨h3, List.forall_mem_cons.mpr ⟨h4, List.forall_mem_cons.mpr ⟨h5, List.forall_mem_cons.mpr ⟨h6, List.forall_mem_cons.mpr ⟨h7, fun _ h => nomatch h⟩⟩⟩⟩⟩⟩⟩)
  have F2 := fr_known (ps := [("lead", .bytes lead tl), ("body", .bytes body tb), ("begun", .int g tg), ("told_mark", .bytes M tm), ("due", .ref dl), ("is_over", .bool ov), ("line", .bytes l t9)]) F (List.forall_mem_cons.mpr ⟨h1, List.forall_mem_cons.mpr ⟨h2, List.forall_mem_cons.mpr ⟨h3, List.forall_mem_cons.mpr ⟨h4, List.forall_mem_cons.mpr ⟨h5, List.forall_mem_cons.mpr ⟨h6, List.forall_mem_cons.mpr ⟨h7, fun _ h => nomatch h⟩⟩⟩⟩⟩⟩⟩)
  clear F
  dsimp only [kstB] at F2
  k_steps
  · rename _ = true => q1
    exact hret _ dvs dn [] _ _ _ _ _ (step_over (c := ⟨body, g, ov, fd⟩) (by assumption) (by assumption)).symm (by k_asm) (by k_asm) (.inl rfl) hD rfl rfl rfl (by (intro z h3; refine Eq.trans ?_ (congrFun e9 z); dsimp only [kstB]; simp only [List.contains_cons, List.contains_nil, Bool.or_false, Bool.or_eq_false_iff, beq_eq_false_iff_ne, ne_eq] at h3; simp [h3]))
  · rename News _ _ _ _ => nE
    rename _ ∧ AllLt _ _ => hfr
    exact hret _ _ _ [(_, _)] _ _ _ _ _ (step_more (c := ⟨body, g, ov, fd⟩) (by assumption) (by assumption) (by assumption)).symm (by k_asm) (ps_more nE) (.inr ⟨_, _, rfl, hfr.1, hfr.2⟩) (pair_more hD) rfl rfl rfl (by (intro z h3; refine Eq.trans ?_ (congrFun e9 z); dsimp only [kstB]; simp only [List.contains_cons, List.contains_nil, Bool.or_false, Bool.or_eq_false_iff, beq_eq_false_iff_ne, ne_eq] at h3; simp [h3]))
  · exact hret _ dvs dn [] _ _ _ _ _ (step_first (c := ⟨body, g, ov, fd⟩) (by assumption) (by assumption) (by assumption)).symm (by k_asm) (by k_asm) (.inl rfl) hD rfl rfl rfl (by (intro z h3; refine Eq.trans ?_ (congrFun e9 z); dsimp only [kstB]; simp only [List.contains_cons, List.contains_nil, Bool.or_false, Bool.or_eq_false_iff, beq_eq_false_iff_ne, ne_eq] at h3; simp [h3]))
  · exact hret _ dvs dn [] _ _ _ _ _ (step_plain (c := ⟨body, g, ov, fd⟩) (by assumption)).symm (by k_asm) (by k_asm) (.inl rfl) hD rfl rfl rfl (by (intro z h3; refine Eq.trans ?_ (congrFun e9 z); dsimp only [kstB]; simp only [List.contains_cons, List.contains_nil, Bool.or_false, Bool.or_eq_false_iff, beq_eq_false_iff_ne, ne_eq] at h3; simp [h3]))
end Mine
end PartE1

section PartE2
open PySem PySem.W PyProof.Rows
namespace Mine
local macro_rules | `(tactic| walk_at "a line of no use 0") => `(tactic| fail)
def Ln (M l : Array UInt8) : Prop := l = M ∨ l = #[120] ∨ l = #[] ∨ l = M ++ #[45, 45] ∨ l = #[113]
def PlainOk (tx : Option Str) (mk : Option (Array UInt8)) (lead M : Array UInt8) : Prop :=
  ∀ ls : List (Array UInt8), (∀ l ∈ ls, Ln M l) → ls.length ≤ 8 → ∃ sp,
    Spans (lead ++ (ls.foldl (stepL lead M) ⟨#[], -1, false, []⟩).body ++ #[45, 45, 113, 13, 10, 122]) (lead.size + (ls.foldl (stepL lead M) ⟨#[], -1, false, []⟩).body.size) lead.size sp ∧
    kidRun (lead ++ (ls.foldl (stepL lead M) ⟨#[], -1, false, []⟩).body ++ #[45, 45, 113, 13, 10, 122]) (tx.getD (Str.ofString "")) lead.size ((lead.size + (ls.foldl (stepL lead M) ⟨#[], -1, false, []⟩).body.size : Nat) : Int) sp =
      lawDue mk ((lead.size + (ls.foldl (stepL lead M) ⟨#[], -1, false, []⟩).body.size : Nat) : Int) (finDue (ls.foldl (stepL lead M) ⟨#[], -1, false, []⟩).g (ls.foldl (stepL lead M) ⟨#[], -1, false, []⟩).ov ((lead.size + (ls.foldl (stepL lead M) ⟨#[], -1, false, []⟩).body.size : Nat) : Int) (ls.foldl (stepL lead M) ⟨#[], -1, false, []⟩).fd)
theorem Ln_size {M l : Array UInt8} (h : Ln M l) (hz : M.size ≤ 5) : l.size ≤ 7 := by
  rcases h with rfl | rfl | rfl | rfl | rfl
  · omega
  · show 1 ≤ 7; decide
  · show 0 ≤ 7; decide
  · rw [Array.size_append]; show M.size + 2 ≤ 7; omega
  · show 1 ≤ 7; decide
theorem step_body (lead M : Array UInt8) (c : LSt) (l : Array UInt8) : (stepL lead M c l).body = c.body ++ l ++ #[13, 10] := by
  unfold stepL
  split
  · split <;> rfl
  · rfl
theorem step_fd (lead M : Array UInt8) (c : LSt) (l : Array UInt8) : (stepL lead M c l).fd.length ≤ c.fd.length + 1 := by
  unfold stepL
  split
  · split
    · exact Nat.le_succ _
    · dsimp only
      split
      · rw [List.length_append]; exact Nat.le_refl _
      · exact Nat.le_succ _
  · exact Nat.le_succ _
theorem turn_mem {α : Type} {p t d : α} {tl' tla cst own R : List α} (hR : R = tla ++ (cst ++ own)) (hp : p ∈ [t, d] ++ ((tl' ++ tla) ++ cst)) : p ∈ d :: (tl' ++ t :: R) := by
  subst hR
  simp only [List.mem_append, List.mem_cons, List.not_mem_nil, or_false] at hp ⊢
  rcases hp with (h | h) | (h | h) | h <;> simp [h]
theorem turn_own {α : Type} {p t d : α} {tl' tla cst own R : List α} (hR : R = tla ++ (cst ++ own)) (hp : p ∈ own) : p ∈ d :: (tl' ++ t :: R) := by
  subst hR
  simp [hp]
theorem turn_off {t d t0 d0 : Addr × Obj} {tl' tla cst own R : List (Addr × Obj)} (hR : R = tla ++ (cst ++ own)) (hoff : OwnOff own (([t0, d0] ++ (tla ++ cst)).map (·.1))) (ht : t.1 = t0.1) (hd : d.1 = d0.1)
    (htl : tl' = [] ∨ ∃ D o, tl' = [(D, o)] ∧ d.1 < D ∧ AllLt D (t :: R)) : OwnOff own (([t, d] ++ ((tl' ++ tla) ++ cst)).map (·.1)) := by
  intro p hp b hb
  simp only [List.map_append, List.map_cons, List.map_nil, List.cons_append, List.nil_append, List.mem_cons, List.mem_append] at hb
  have old : ∀ b, b = t0.1 ∨ b = d0.1 ∨ b ∈ tla.map (·.1) ∨ b ∈ cst.map (·.1) → p.1 ≠ b := by
    intro b hb
    refine hoff p hp b ?_
    simp only [List.map_append, List.map_cons, List.map_nil, List.cons_append, List.nil_append, List.mem_cons, List.mem_append]
    exact hb
  rcases hb with h | h | (h | h) | h
  · exact old b (.inl (h.trans ht))
  · exact old b (.inr (.inl (h.trans hd)))
  · rcases htl with e | ⟨D, o, e, _, hlt⟩
    · subst e
      cases h
    · subst e
      rw [List.mem_singleton.mp h]
      refine Nat.ne_of_lt (kst_ltOf hlt p (List.mem_cons_of_mem _ ?_))
      rw [hR]
      exact List.mem_append.mpr (.inr (List.mem_append.mpr (.inr hp)))
  · exact old b (.inr (.inr (.inl h)))
  · exact old b (.inr (.inr (.inr h)))
theorem turn_above {t : Addr × Obj} {dl : Addr} {tl' tla R : List (Addr × Obj)} (hO : ∀ p ∈ tla, dl < p.1 ∧ t.1 < p.1) (htl : tl' = [] ∨ ∃ D o, tl' = [(D, o)] ∧ dl < D ∧ AllLt D (t :: R)) : ∀ p ∈ tl' ++ tla, dl < p.1 ∧ t.1 < p.1 := by
  intro p hp
  rcases List.mem_append.mp hp with h | h
  · rcases htl with e | ⟨D, o, e, h1, hlt⟩
    · subst e
      cases h
    · subst e
      rw [List.mem_singleton.mp h]
      exact ⟨h1, kst_ltOf hlt t (List.mem_cons_self ..)⟩
  · exact hO p h
theorem news_turn {h₀ h : Heap} {L : Addr} {x a b : Addr × Obj} {R : List (Addr × Obj)} (N : News h₀ L h (x :: a :: b :: R)) : News h₀ L h (b :: a :: R) := by
  refine cb_drop N fun p hp => ?_
  simp only [List.mem_cons] at hp ⊢
  rcases hp with h | h | h <;> simp [h]
theorem news_flip {h₀ h : Heap} {L : Addr} {a b : Addr × Obj} {R : List (Addr × Obj)} (N : News h₀ L h (a :: b :: R)) : News h₀ L h (b :: a :: R) := by
  refine cb_drop N fun p hp => ?_
  simp only [List.mem_cons] at hp ⊢
  rcases hp with h | h | h <;> simp [h]
structure LpSt where
  at_ : Int
  ta : Tok
  c : LSt
  vs : List Value
  n : Nat
  tb : Tok
  tg : Tok
  ls : List (Array UInt8)
abbrev lpLed (tp cl dl : Addr) (nt : Nat) : LpSt → List (Addr × Obj) := fun c => [(tp, listOf [Value.ref cl, Value.int c.at_ c.ta].toArray nt), (dl, listOf c.vs.toArray c.n)]
abbrev lpPs : LpSt → List (Str × Value) := fun c => [("body", .bytes c.c.body c.tb), ("begun", .int c.c.g c.tg), ("is_over", .bool c.c.ov)]
abbrev lpFa (dl tp : Addr) : List (Addr × Obj) → LpSt → Prop := fun tl c => DatAll tl c.vs (c.c.fd.map pairD) ∧ ∀ p ∈ tl, dl < p.1 ∧ tp < p.1
abbrev lpP (lead M : Array UInt8) (at1 : Int) : Nat → LpSt → Prop := fun i c => c.at_ = at1 + i ∧ c.c = c.ls.foldl (stepL lead M) ⟨#[], -1, false, []⟩ ∧ c.ls.length = i ∧ (∀ l ∈ c.ls, Ln M l) ∧ c.c.body.size ≤ 9 * i ∧ c.c.fd.length ≤ i
local macro_rules | `(tactic| k_room) => `(tactic| ktr_room)
local macro_rules | `(tactic| walk_at "call ref") => `(tactic| (k_here; (with_reducible show wpAny _ _ (call (Value.ref 177) _) _ _ _); k_dflt (refine' ask_use ?k1 ?k2 ?k3 ?k4 ?k5 ?k6 ?k7 ?k8 (draw_any _ _ _ _ _ _ _ _ _ _ _ _ _ _ _ _ ?u1 ?u2 ?u3 ?h1 ?h2 ?h3 ?h4 ?h5 ?h6 ?h7) ?_; (case k1 | k2 | k3 | k4 => k_asm); (case k5 => first | exact rfl | assumption); (case k6 => ktr_room); (case k7 => ktr_units); (case k8 => k_asm); (case u1 => k_updF); (case u2 => k_mem); (case u3 => first | assumption | k_ne); (case h1 | h2 | h3 => assumption); (case h4 | h5 => omega); (case h6 | h7 => decide)); intro r' t' t2' h' tk' hlo' hhi' F' N'))
local macro_rules | `(tactic| walk_at "call ref") => `(tactic| (k_here; (with_reducible show wpAny _ _ (call (Value.ref 177) [_, Value.int 6 _]) _ _ _); k_dflt (refine' ask_use ?k1 ?k2 ?k3 ?k4 ?k5 ?k6 ?k7 ?k8 (draw_any _ _ _ _ _ _ _ _ _ _ _ _ _ _ _ _ ?u1 ?u2 ?u3 ?h1 ?h2 ?h3 ?h4 ?h5 ?h6 ?h7) ?_; (case k1 | k2 | k3 | k4 => k_asm); (case k5 => first | exact rfl | assumption); (case k6 => ktr_room); (case k7 => ktr_units); (case k8 => k_asm); (case u1 => k_updF); (case u2 => first | k_mem | exact List.mem_cons_of_mem _ (List.mem_cons_of_mem _ (List.mem_cons_of_mem _ (by assumption)))); (case u3 => first | assumption | k_ne); (case h1 | h2 | h3 => assumption); (case h4 | h5 => omega); (case h6 | h7 => decide)); intro r' t' t2' h' tk' hlo' hhi' F' N'; (have hs' : r' = 0 ∨ r' = 1 ∨ r' = 2 ∨ r' = 3 ∨ r' = 4 ∨ r' = 5 := by omega); (rcases hs' with hs' | hs' | hs' | hs' | hs' | hs' <;> subst hs')))
local macro_rules | `(tactic| walk_at "binaryOp Add bytes bytes") => `(tactic| (k_here; (with_reducible show wpAny _ _ (binaryOp Operator.Add (Value.bytes _ _) (Value.bytes _ _)) _ _ _); (refine' KBy.add_bytes ?k0 ?_); (case k0 => ((try simp only [Array.size_append, List.size_toArray, List.length_cons, List.length_nil]); omega)); intro _ _))
local macro_rules | `(tactic| k_all) => `(tactic| assumption)
set_option maxRecDepth 100000 in
set_option maxHeartbeats 8000000 in
theorem law_loop (w : World) (mean : ExcName → Option Value) (mg mb : Str → Option Value) (dp un : Nat) (gd : Option (List Code)) (nm : Str) (a : Addr) (ccd : Value) (outer : List Env) (A₀ : Around) (base h₀ : Heap) (L : Addr) (m : Str → Option Value) (s : Shared) (Q : Flow → Shared → Prop) (E : Value → Shared → Prop)
    (B : Below A₀ base outer h₀) (X : (hd.heap_39 w.params).In h₀) (T : Top hd.view_39 LS mean mg mb h₀) (hd1 : dp + 60 < recursionLimit) (hu1 : un + 8 * 60 < cLine)
    (lead M : Array UInt8) (tl tb tg tm tk9 ta : Tok) (mk : Option (Array UInt8)) (pm dl tp cl : Addr) (o : Obj) (vs : List Value) (ns : List Int) (nt nc : Nat) (at_ : Int)
    (F : Fr h₀ L s.heap m) (N : News h₀ L s.heap [(tp, listOf [Value.ref cl, Value.int at_ ta].toArray nt), (dl, listOf [].toArray 0), (cl, listOf vs.toArray nc), (pm, o)])
    (n1 : cl ≠ tp) (n2 : dl ≠ tp) (n3 : pm ≠ tp) (n4 : cl ≠ dl) (n5 : pm ≠ dl) (hI : IntsAre vs ns) (hn0 : 0 < ns.length) (hn1 : ns.length ≤ 40) (ha : 0 ≤ at_) (hb : at_ ≤ 50)
    (h1 : m "lead" = some (.bytes lead tl)) (h2 : m "body" = some (.bytes #[] tb)) (h3 : m "begun" = some (.int (-1) tg)) (h4 : m "told_mark" = some (.bytes M tm)) (h5 : m "due" = some (.ref dl)) (h6 : m "is_over" = some (.bool false)) (h7 : m "tape" = some (.ref tp)) (h8 : m "params" = some (.ref pm)) (h9 : m "mark" = some (markV tk9 mk))
    (hz : lead.size ≤ 100) (hz4 : M.size ≤ 5) (tx : Option Str) (hP : ParOk w tx pm o) (hpl : PlainOk tx mk lead M)
    (hE : PassesOwn (model PySem.Challenge.rw_or0041_01.row.prog w) (ktrTop dp un gd nm lawScope L a ccd [] outer) (envOf nm lawScope L a ccd) E)
    (hret : ∀ h' tk' m', Fr h₀ L h' m' → Q (.ret (.bool true)) { s with heap := h', toks := tk' }) :
    wpAny (model PySem.Challenge.rw_or0041_01.row.prog w) (ktrTop dp un gd nm lawScope L a ccd [] outer) (execs (lawBody.drop 8) (envOf nm lawScope L a ccd)) Q E s := by
  rw [law_split 8 1]
  refine execs_split _ _ ?_
  have X' := X
  w_top off
  revert X
  k_fill
  intro X
  conv in (occs := *) lawScope => all_goals whnf
  conv in List.take 1 _ => whnf
  have F2 := fr_known (ps := [("lead", .bytes lead tl), ("body", .bytes #[] tb), ("begun", .int (-1) tg), ("told_mark", .bytes M tm), ("due", .ref dl), ("is_over", .bool false), ("tape", .ref tp), ("params", .ref pm), ("mark", markV tk9 mk)]) F (List.forall_mem_cons.mpr ⟨h1, List.forall_mem_cons.mpr ⟨h2, List.forall_mem_cons.mpr ⟨h3, List.forall_mem_cons.mpr ⟨h4, List.forall_mem_cons.mpr ⟨h5, List.forall_mem_cons.mpr ⟨h6, List.forall_mem_cons.mpr ⟨h7, List.forall_mem_cons.mpr ⟨h8, List.forall_mem_cons.mpr ⟨h9, fun _ h => nomatch h⟩⟩⟩⟩⟩⟩⟩⟩⟩)
  clear F
  dsimp only [kstB] at F2
  repeat' ((fail_if_success (with_reducible show wpAny _ _ (exec (Stmt.For _ _ _ _ _) _) _ _ _)); first | (k_unfold; (try dsimp only)) | (k_end; wrow_close) | walk1 | (dsimp only; walk1) | (leave1; walk_say "STEP leave1"; try dsimp only) | fail "no step")
  (with_unfolding_all refine' For_turns F2 ?_ (hE := hE))
  k_steps
  rename IsRange _ _ _ _ _ _ _ _ => rgX
  rename Fr _ _ _ _ => lF
  rename News _ _ _ _ => lN
  rename (_ : Int) < 9 => hr9
  rename 0 ≤ (_ : Int) => hr0
  refine dt_range (lpLed tp cl dl nt) [(cl, listOf vs.toArray nc), (pm, o)] lpPs (lpFa dl tp) lawSto (lpP lead M (at_ + 1)) ⟨at_ + 1, _, ⟨#[], -1, false, []⟩, [], 0, tb, tg, []⟩ rfl rgX (small_one (by omega) (by omega) (by omega) (by omega)) (rangeSize_nat _ _) lF lN (fun _ h => h) ⟨.nil, fun _ hp => nomatch hp⟩ (by kst_all) ⟨(show at_ + 1 = at_ + 1 + ((0 : Nat) : Int) by omega), rfl, rfl, fun _ h => (nomatch h), Nat.le_refl _, Nat.le_refl _⟩ ?_ ?_
  · clear lF lN rgX
    rintro ⟨at2, ta2, c, vs2, nn2, tb2, tg2, ls⟩ tla i v u h tk own hi ⟨tv, rfl⟩ hoff ⟨hD, hO⟩ ⟨p1, p2, p3, p4, p5, p6⟩ F' N'
    dsimp only [kstB] at hD hO p1 p2 p3 p4 p5 p6 F' N' hoff
    have hi9 : i < 8 := by omega
    obtain ⟨R, hRdef⟩ : ∃ R, R = tla ++ ([(cl, listOf vs.toArray nc), (pm, o)] ++ own) := ⟨_, rfl⟩
    rw [← hRdef] at N'
    simp only [lpLed, List.cons_append, List.nil_append] at N'
    have hR1 : ∀ q ∈ R, q.1 ≠ tp := by
      intro q hq
      rw [hRdef] at hq
      rcases List.mem_append.mp hq with h | h
      · exact Nat.ne_of_gt (hO q h).2
      · rcases List.mem_append.mp h with h | h
        · rcases List.mem_cons.mp h with rfl | h
          · exact n1
          · rw [List.mem_singleton.mp h]; exact n3
        · exact hoff q h _ (List.mem_cons_self ..)
    have hR2 : ∀ q ∈ R, q.1 ≠ dl := by
      intro q hq
      rw [hRdef] at hq
      rcases List.mem_append.mp hq with h | h
      · exact Nat.ne_of_gt (hO q h).1
      · rcases List.mem_append.mp h with h | h
        · rcases List.mem_cons.mp h with rfl | h
          · exact n4
          · rw [List.mem_singleton.mp h]; exact n5
        · exact hoff q h _ (List.mem_cons_of_mem _ (List.mem_cons_self ..))
    have hcl : (cl, listOf vs.toArray nc) ∈ R := by
      rw [hRdef]
      exact List.mem_append.mpr (.inr (List.mem_cons_self ..))
    (show wpAny _ _ _ _ _ _); k_fold
    repeat' ((fail_if_success (with_reducible show wpAny _ _ (execs _ _) _ _ _)); first | (k_unfold; (try dsimp only)) | (k_end; wrow_close) | walk1 | (dsimp only; walk1) | (leave1; walk_say "STEP leave1"; try dsimp only) | fail "no step")
    show wpAny _ _ (execs (forBody.take 1 ++ forBody.drop 1) _) _ _ _
    refine execs_split (forBody.take 1) (forBody.drop 1) ?_
    conv in List.take 1 forBody => whnf
    k_steps
    all_goals (try dsimp only)
    · (
        refine wpAny_execs_nil ?_
        rename News _ _ _ _ => nE
        rename Fr _ _ _ _ => fE
        have hL : Ln M M := (.inl rfl)
        show wpAny _ _ (execs (forBody.drop 1) (envOf nm lawScope L a ccd)) _ _ _
        refine' law_turn w mean mg mb dp un gd nm a ccd outer A₀ base h₀ L _ _ _ E B X' T hd1 hu1 lead c.body _ M tl tb2 tg2 tm _ c.g c.ov dl vs2 nn2 tla _ fE (news_turn nE) (List.forall_mem_cons.mpr ⟨Ne.symm n2, hR2⟩) rfl rfl rfl rfl rfl rfl rfl hz ?z2 ?z3 ?z4 c.fd hD ?fl ?ret
        case z2 => omega
        case z3 => exact Nat.le_trans (Ln_size hL hz4) (by decide)
        case z4 => omega
        case fl => omega
        case ret =>
          intro c' vs' n' tl' tb' tg' h' tk' m' hc' F' N' htl hD' e1 e2 e3 hs'
          refine' dt_end ⟨at2 + 1, _, c', vs', n', tb', tg', ls ++ [M]⟩ (tl' ++ tla) F' N' (fun p hp => turn_mem hRdef hp) (fun p hp => turn_own hRdef hp) (turn_off hRdef hoff rfl rfl htl) ⟨hD', turn_above hO htl⟩ ?hk ?hr ⟨?g1, ?g2, ?g3, ?g4, ?g5, ?g6⟩
          case hk => exact List.forall_mem_cons.mpr ⟨e1, List.forall_mem_cons.mpr ⟨e2, List.forall_mem_cons.mpr ⟨e3, fun _ h => nomatch h⟩⟩⟩
          case hr =>
            intro z h2 h3
            refine (hs' z h3).trans ?_
            have h4 := h3
            simp only [List.contains_cons, List.contains_nil, Bool.or_false, Bool.or_eq_false_iff, beq_eq_false_iff_ne, ne_eq] at h4
            simp [h3, h4]
          case g1 => show at2 + 1 = at_ + 1 + ((i + 1 : Nat) : Int); omega
          case g2 => show c' = (ls ++ [M]).foldl _ _; rw [List.foldl_append, ← p2]; exact hc'
          case g3 => show (ls ++ [M]).length = i + 1; rw [List.length_append, p3]; rfl
          case g4 =>
            intro l hl
            rcases List.mem_append.mp hl with h | h
            · exact p4 l h
            · rw [List.mem_singleton.mp h]; exact hL
          case g5 =>
            have hls := Ln_size hL hz4
            show c'.body.size ≤ _
            rw [hc', step_body, Array.size_append, Array.size_append]
            show c.body.size + _ + 2 ≤ 9 * (i + 1)
            omega
          case g6 => show c'.fd.length ≤ _; rw [hc']; exact Nat.le_trans (step_fd lead M _ _) (Nat.succ_le_succ p6))
    · (
        refine wpAny_execs_nil ?_
        rename News _ _ _ _ => nE
        rename Fr _ _ _ _ => fE
        have hL : Ln M (#[120] : Array UInt8) := (.inr (.inl rfl))
        show wpAny _ _ (execs (forBody.drop 1) (envOf nm lawScope L a ccd)) _ _ _
        refine' law_turn w mean mg mb dp un gd nm a ccd outer A₀ base h₀ L _ _ _ E B X' T hd1 hu1 lead c.body _ M tl tb2 tg2 tm _ c.g c.ov dl vs2 nn2 tla _ fE (news_turn nE) (List.forall_mem_cons.mpr ⟨Ne.symm n2, hR2⟩) rfl rfl rfl rfl rfl rfl rfl hz ?z2 ?z3 ?z4 c.fd hD ?fl ?ret
        case z2 => omega
        case z3 => exact Nat.le_trans (Ln_size hL hz4) (by decide)
        case z4 => omega
        case fl => omega
        case ret =>
          intro c' vs' n' tl' tb' tg' h' tk' m' hc' F' N' htl hD' e1 e2 e3 hs'
          refine' dt_end ⟨at2 + 1, _, c', vs', n', tb', tg', ls ++ [(#[120] : Array UInt8)]⟩ (tl' ++ tla) F' N' (fun p hp => turn_mem hRdef hp) (fun p hp => turn_own hRdef hp) (turn_off hRdef hoff rfl rfl htl) ⟨hD', turn_above hO htl⟩ ?hk ?hr ⟨?g1, ?g2, ?g3, ?g4, ?g5, ?g6⟩
          case hk => exact List.forall_mem_cons.mpr ⟨e1, List.forall_mem_cons.mpr ⟨e2, List.forall_mem_cons.mpr ⟨e3, fun _ h => nomatch h⟩⟩⟩
          case hr =>
            intro z h2 h3
            refine (hs' z h3).trans ?_
            have h4 := h3
            simp only [List.contains_cons, List.contains_nil, Bool.or_false, Bool.or_eq_false_iff, beq_eq_false_iff_ne, ne_eq] at h4
            simp [h3, h4]
          case g1 => show at2 + 1 = at_ + 1 + ((i + 1 : Nat) : Int); omega
          case g2 => show c' = (ls ++ [(#[120] : Array UInt8)]).foldl _ _; rw [List.foldl_append, ← p2]; exact hc'
          case g3 => show (ls ++ [(#[120] : Array UInt8)]).length = i + 1; rw [List.length_append, p3]; rfl
          case g4 =>
            intro l hl
            rcases List.mem_append.mp hl with h | h
            · exact p4 l h
            · rw [List.mem_singleton.mp h]; exact hL
          case g5 =>
            have hls := Ln_size hL hz4
            show c'.body.size ≤ _
            rw [hc', step_body, Array.size_append, Array.size_append]
            show c.body.size + _ + 2 ≤ 9 * (i + 1)
            omega
          case g6 => show c'.fd.length ≤ _; rw [hc']; exact Nat.le_trans (step_fd lead M _ _) (Nat.succ_le_succ p6))
    · (
        refine wpAny_execs_nil ?_
        rename News _ _ _ _ => nE
        rename Fr _ _ _ _ => fE
        have hL : Ln M (#[] : Array UInt8) := (.inr (.inr (.inl rfl)))
        show wpAny _ _ (execs (forBody.drop 1) (envOf nm lawScope L a ccd)) _ _ _
        refine' law_turn w mean mg mb dp un gd nm a ccd outer A₀ base h₀ L _ _ _ E B X' T hd1 hu1 lead c.body _ M tl tb2 tg2 tm _ c.g c.ov dl vs2 nn2 tla _ fE (news_turn nE) (List.forall_mem_cons.mpr ⟨Ne.symm n2, hR2⟩) rfl rfl rfl rfl rfl rfl rfl hz ?z2 ?z3 ?z4 c.fd hD ?fl ?ret
        case z2 => omega
        case z3 => exact Nat.le_trans (Ln_size hL hz4) (by decide)
        case z4 => omega
        case fl => omega
        case ret =>
          intro c' vs' n' tl' tb' tg' h' tk' m' hc' F' N' htl hD' e1 e2 e3 hs'
          refine' dt_end ⟨at2 + 1, _, c', vs', n', tb', tg', ls ++ [(#[] : Array UInt8)]⟩ (tl' ++ tla) F' N' (fun p hp => turn_mem hRdef hp) (fun p hp => turn_own hRdef hp) (turn_off hRdef hoff rfl rfl htl) ⟨hD', turn_above hO htl⟩ ?hk ?hr ⟨?g1, ?g2, ?g3, ?g4, ?g5, ?g6⟩
          case hk => exact List.forall_mem_cons.mpr ⟨e1, List.forall_mem_cons.mpr ⟨e2, List.forall_mem_cons.mpr ⟨e3, fun _ h => nomatch h⟩⟩⟩
          case hr =>
            intro z h2 h3
            refine (hs' z h3).trans ?_
            have h4 := h3
            simp only [List.contains_cons, List.contains_nil, Bool.or_false, Bool.or_eq_false_iff, beq_eq_false_iff_ne, ne_eq] at h4
            simp [h3, h4]
          case g1 => show at2 + 1 = at_ + 1 + ((i + 1 : Nat) : Int); omega
          case g2 => show c' = (ls ++ [(#[] : Array UInt8)]).foldl _ _; rw [List.foldl_append, ← p2]; exact hc'
          case g3 => show (ls ++ [(#[] : Array UInt8)]).length = i + 1; rw [List.length_append, p3]; rfl
          case g4 =>
            intro l hl
            rcases List.mem_append.mp hl with h | h
            · exact p4 l h
            · rw [List.mem_singleton.mp h]; exact hL
          case g5 =>
            have hls := Ln_size hL hz4
            show c'.body.size ≤ _
            rw [hc', step_body, Array.size_append, Array.size_append]
            show c.body.size + _ + 2 ≤ 9 * (i + 1)
            omega
          case g6 => show c'.fd.length ≤ _; rw [hc']; exact Nat.le_trans (step_fd lead M _ _) (Nat.succ_le_succ p6))
    · (
        refine wpAny_execs_nil ?_
        rename News _ _ _ _ => nE
        rename Fr _ _ _ _ => fE
        have hL : Ln M (M ++ #[45, 45]) := (.inr (.inr (.inr (.inl rfl))))
        show wpAny _ _ (execs (forBody.drop 1) (envOf nm lawScope L a ccd)) _ _ _
        refine' law_turn w mean mg mb dp un gd nm a ccd outer A₀ base h₀ L _ _ _ E B X' T hd1 hu1 lead c.body _ M tl tb2 tg2 tm _ c.g c.ov dl vs2 nn2 tla _ fE (news_turn nE) (List.forall_mem_cons.mpr ⟨Ne.symm n2, hR2⟩) rfl rfl rfl rfl rfl rfl rfl hz ?z2 ?z3 ?z4 c.fd hD ?fl ?ret
        case z2 => omega
        case z3 => exact Nat.le_trans (Ln_size hL hz4) (by decide)
        case z4 => omega
        case fl => omega
        case ret =>
          intro c' vs' n' tl' tb' tg' h' tk' m' hc' F' N' htl hD' e1 e2 e3 hs'
          refine' dt_end ⟨at2 + 1, _, c', vs', n', tb', tg', ls ++ [(M ++ #[45, 45])]⟩ (tl' ++ tla) F' N' (fun p hp => turn_mem hRdef hp) (fun p hp => turn_own hRdef hp) (turn_off hRdef hoff rfl rfl htl) ⟨hD', turn_above hO htl⟩ ?hk ?hr ⟨?g1, ?g2, ?g3, ?g4, ?g5, ?g6⟩
          case hk => exact List.forall_mem_cons.mpr ⟨e1, List.forall_mem_cons.mpr ⟨e2, List.forall_mem_cons.mpr ⟨e3, fun _ h => nomatch h⟩⟩⟩
          case hr =>
            intro z h2 h3
            refine (hs' z h3).trans ?_
            have h4 := h3
            simp only [List.contains_cons, List.contains_nil, Bool.or_false, Bool.or_eq_false_iff, beq_eq_false_iff_ne, ne_eq] at h4
            simp [h3, h4]
          case g1 => show at2 + 1 = at_ + 1 + ((i + 1 : Nat) : Int); omega
          case g2 => show c' = (ls ++ [(M ++ #[45, 45])]).foldl _ _; rw [List.foldl_append, ← p2]; exact hc'
          case g3 => show (ls ++ [(M ++ #[45, 45])]).length = i + 1; rw [List.length_append, p3]; rfl
          case g4 =>
            intro l hl
            rcases List.mem_append.mp hl with h | h
            · exact p4 l h
            · rw [List.mem_singleton.mp h]; exact hL
          case g5 =>
            have hls := Ln_size hL hz4
            show c'.body.size ≤ _
            rw [hc', step_body, Array.size_append, Array.size_append]
            show c.body.size + _ + 2 ≤ 9 * (i + 1)
            omega
          case g6 => show c'.fd.length ≤ _; rw [hc']; exact Nat.le_trans (step_fd lead M _ _) (Nat.succ_le_succ p6))
    · (
        refine wpAny_execs_nil ?_
        rename News _ _ _ _ => nE
        rename Fr _ _ _ _ => fE
        have hL : Ln M (#[113] : Array UInt8) := (.inr (.inr (.inr (.inr rfl))))
        show wpAny _ _ (execs (forBody.drop 1) (envOf nm lawScope L a ccd)) _ _ _
        refine' law_turn w mean mg mb dp un gd nm a ccd outer A₀ base h₀ L _ _ _ E B X' T hd1 hu1 lead c.body _ M tl tb2 tg2 tm _ c.g c.ov dl vs2 nn2 tla _ fE (news_turn nE) (List.forall_mem_cons.mpr ⟨Ne.symm n2, hR2⟩) rfl rfl rfl rfl rfl rfl rfl hz ?z2 ?z3 ?z4 c.fd hD ?fl ?ret
        case z2 => omega
        case z3 => exact Nat.le_trans (Ln_size hL hz4) (by decide)
        case z4 => omega
        case fl => omega
        case ret =>
          intro c' vs' n' tl' tb' tg' h' tk' m' hc' F' N' htl hD' e1 e2 e3 hs'
          refine' dt_end ⟨at2 + 1, _, c', vs', n', tb', tg', ls ++ [(#[113] : Array UInt8)]⟩ (tl' ++ tla) F' N' (fun p hp => turn_mem hRdef hp) (fun p hp => turn_own hRdef hp) (turn_off hRdef hoff rfl rfl htl) ⟨hD', turn_above hO htl⟩ ?hk ?hr ⟨?g1, ?g2, ?g3, ?g4, ?g5, ?g6⟩
          case hk => exact List.forall_mem_cons.mpr ⟨e1, List.forall_mem_cons.mpr ⟨e2, List.forall_mem_cons.mpr ⟨e3, fun _ h => nomatch h⟩⟩⟩
          case hr =>
            intro z h2 h3
            refine (hs' z h3).trans ?_
            have h4 := h3
            simp only [List.contains_cons, List.contains_nil, Bool.or_false, Bool.or_eq_false_iff, beq_eq_false_iff_ne, ne_eq] at h4
            simp [h3, h4]
          case g1 => show at2 + 1 = at_ + 1 + ((i + 1 : Nat) : Int); omega
          case g2 => show c' = (ls ++ [(#[113] : Array UInt8)]).foldl _ _; rw [List.foldl_append, ← p2]; exact hc'
          case g3 => show (ls ++ [(#[113] : Array UInt8)]).length = i + 1; rw [List.length_append, p3]; rfl
          case g4 =>
            intro l hl
            rcases List.mem_append.mp hl with h | h
            · exact p4 l h
            · rw [List.mem_singleton.mp h]; exact hL
          case g5 =>
            have hls := Ln_size hL hz4
            show c'.body.size ≤ _
            rw [hc', step_body, Array.size_append, Array.size_append]
            show c.body.size + _ + 2 ≤ 9 * (i + 1)
            omega
          case g6 => show c'.fd.length ≤ _; rw [hc']; exact Nat.le_trans (step_fd lead M _ _) (Nat.succ_le_succ p6))
    · (
        refine wpAny_execs_nil ?_
        rename News _ _ _ _ => nE
        rename Fr _ _ _ _ => fE
        have hL : Ln M M := (.inl rfl)
        show wpAny _ _ (execs (forBody.drop 1) (envOf nm lawScope L a ccd)) _ _ _
        refine' law_turn w mean mg mb dp un gd nm a ccd outer A₀ base h₀ L _ _ _ E B X' T hd1 hu1 lead c.body _ M tl tb2 tg2 tm _ c.g c.ov dl vs2 nn2 tla _ fE (news_turn nE) (List.forall_mem_cons.mpr ⟨Ne.symm n2, hR2⟩) rfl rfl rfl rfl rfl rfl rfl hz ?z2 ?z3 ?z4 c.fd hD ?fl ?ret
        case z2 => omega
        case z3 => exact Nat.le_trans (Ln_size hL hz4) (by decide)
        case z4 => omega
        case fl => omega
        case ret =>
          intro c' vs' n' tl' tb' tg' h' tk' m' hc' F' N' htl hD' e1 e2 e3 hs'
          refine' dt_end ⟨at2 + 1, _, c', vs', n', tb', tg', ls ++ [M]⟩ (tl' ++ tla) F' N' (fun p hp => turn_mem hRdef hp) (fun p hp => turn_own hRdef hp) (turn_off hRdef hoff rfl rfl htl) ⟨hD', turn_above hO htl⟩ ?hk ?hr ⟨?g1, ?g2, ?g3, ?g4, ?g5, ?g6⟩
          case hk => exact List.forall_mem_cons.mpr ⟨e1, List.forall_mem_cons.mpr ⟨e2, List.forall_mem_cons.mpr ⟨e3, fun _ h => nomatch h⟩⟩⟩
          case hr =>
            intro z h2 h3
            refine (hs' z h3).trans ?_
            have h4 := h3
            simp only [List.contains_cons, List.contains_nil, Bool.or_false, Bool.or_eq_false_iff, beq_eq_false_iff_ne, ne_eq] at h4
            simp [h3, h4]
          case g1 => show at2 + 1 = at_ + 1 + ((i + 1 : Nat) : Int); omega
          case g2 => show c' = (ls ++ [M]).foldl _ _; rw [List.foldl_append, ← p2]; exact hc'
          case g3 => show (ls ++ [M]).length = i + 1; rw [List.length_append, p3]; rfl
          case g4 =>
            intro l hl
            rcases List.mem_append.mp hl with h | h
            · exact p4 l h
            · rw [List.mem_singleton.mp h]; exact hL
          case g5 =>
            have hls := Ln_size hL hz4
            show c'.body.size ≤ _
            rw [hc', step_body, Array.size_append, Array.size_append]
            show c.body.size + _ + 2 ≤ 9 * (i + 1)
            omega
          case g6 => show c'.fd.length ≤ _; rw [hc']; exact Nat.le_trans (step_fd lead M _ _) (Nat.succ_le_succ p6))
  · clear lF lN rgX
    rintro ⟨at2, ta2, c, vs2, nn2, tb2, tg2, ls⟩ tla u h tk ⟨hD, hO⟩ ⟨p1, p2, p3, p4, p5, p6⟩ F' N'
    dsimp only [kstB] at hD hO p1 p2 p3 p4 p5 p6 F' N'
    dsimp only
    refine wpAny_execs_nil ?_
    obtain ⟨sp, hs, hk⟩ := hpl ls p4 (by omega)
    rw [← p2] at hs hk
    simp only [lpLed, List.cons_append, List.nil_append] at N'
    show wpAny _ _ (execs (lawBody.drop 9) (envOf nm lawScope L a ccd)) Q E _
    refine law_end w mean mg mb dp un gd nm a ccd outer A₀ base h₀ L _ _ Q E B X' T hd1 hu1 lead c.body tl tb2 tg2 tk9 c.g c.ov mk sp pm dl o vs2 nn2 tla _ F' (news_flip N') ?_ ?_ ?_ rfl rfl rfl rfl rfl rfl rfl hz (by omega) tx hP hs c.fd hD (by omega) hk ?_
    · intro q hq
      rcases List.mem_cons.mp hq with rfl | hq
      · exact Ne.symm n2
      · rcases List.mem_append.mp hq with h | h
        · exact Nat.ne_of_gt (hO q h).1
        · rcases List.mem_cons.mp h with rfl | h
          · exact n4
          · rw [List.mem_singleton.mp h]; exact n5
    · exact List.mem_cons_of_mem _ (List.mem_append.mpr (.inr (List.mem_cons_of_mem _ (List.mem_singleton.mpr rfl))))
    · intro q hq
      exact List.mem_cons_of_mem _ (List.mem_append.mpr (.inl hq))
    · intro h' tk' m' F9
      exact hret h' tk' m' F9
end Mine
end PartE2

section PartE3
open PySem PySem.W PyProof.Rows
namespace Mine
def markM (mk : Option (Array UInt8)) : Array UInt8 := mk.getD #[45, 45, 113]
theorem way_size {tx : Option Str} {mk : Option (Array UInt8)} (h : Way tx mk) : (markM mk).size ≤ 5 := by
  cases h <;> decide
theorem way_text {tx : Option Str} {mk : Option (Array UInt8)} (h : Way tx mk) : (tx.getD (Str.ofString "")).cps.size ≤ 50 := by
  cases h <;> decide +kernel
theorem news_told {h₀ h : Heap} {L : Addr} {a t c p : Addr × Obj} (N : News h₀ L h [a, t, c, p]) : News h₀ L h [t, a, c, p] := by
  refine cb_drop N fun q hq => ?_
  simp only [List.mem_cons, List.not_mem_nil, or_false] at hq ⊢
  rcases hq with h | h | h | h <;> simp [h]
theorem news_mid {h₀ h : Heap} {L : Addr} {b t c p : Addr × Obj} (N : News h₀ L h [b, t, c, p]) : News h₀ L h [t, c, p] :=
  cb_drop N fun _ hq => List.mem_cons_of_mem _ hq
local macro_rules | `(tactic| k_room) => `(tactic| ktr_room)
local macro_rules | `(tactic| walk_at "call ref") => `(tactic| (k_here; (with_reducible show wpAny _ _ (call (Value.ref 177) [_, Value.int 3 _]) _ _ _); k_dflt (refine' ask_use ?k1 ?k2 ?k3 ?k4 ?k5 ?k6 ?k7 ?k8 (draw_any _ _ _ _ _ _ _ _ _ _ _ _ _ _ _ _ ?u1 ?u2 ?u3 ?h1 ?h2 ?h3 ?h4 ?h5 ?h6 ?h7) ?_; (case k1 | k2 | k3 | k4 => k_asm); (case k5 => first | exact rfl | assumption); (case k6 => ktr_room); (case k7 => ktr_units); (case k8 => k_asm); (case u1 => k_updF); (case u2 => k_mem); (case u3 => first | assumption | k_ne); (case h1 | h2 | h3 => assumption); (case h4 | h5 => omega); (case h6 | h7 => decide)); intro r' t' t2' h' tk' hlo' hhi' F' N'; (have hs' : r' = 0 ∨ r' = 1 ∨ r' = 2 := by omega); (rcases hs' with hs' | hs' | hs' <;> subst hs')))
local macro_rules | `(tactic| walk_at "binaryOp Add bytes bytes") => `(tactic| (k_here; (with_reducible show wpAny _ _ (binaryOp Operator.Add (Value.bytes _ _) (Value.bytes _ _)) _ _ _); (refine' KBy.add_bytes ?k0 ?_); (case k0 => ((try simp only [Array.size_append, List.size_toArray, List.length_cons, List.length_nil]); omega)); intro _ _))
set_option maxRecDepth 100000 in
set_option maxHeartbeats 8000000 in
theorem law_told (w : World) (mean : ExcName → Option Value) (mg mb : Str → Option Value) (dp un : Nat) (gd : Option (List Code)) (nm : Str) (a : Addr) (ccd : Value) (outer : List Env) (A₀ : Around) (base h₀ : Heap) (L : Addr) (m : Str → Option Value) (s : Shared) (Q : Flow → Shared → Prop) (E : Value → Shared → Prop)
    (B : Below A₀ base outer h₀) (X : (hd.heap_39 w.params).In h₀) (T : Top hd.view_39 LS mean mg mb h₀) (hd1 : dp + 60 < recursionLimit) (hu1 : un + 8 * 60 < cLine)
    (lead : Array UInt8) (hz : lead.size ≤ 100) (tl tk9 ta : Tok) (mk : Option (Array UInt8)) (pm tp cl : Addr) (o : Obj) (vs : List Value) (ns : List Int) (nt nc : Nat) (at_ : Int)
    (F : Fr h₀ L s.heap m) (N : News h₀ L s.heap [(tp, listOf [Value.ref cl, Value.int at_ ta].toArray nt), (cl, listOf vs.toArray nc), (pm, o)])
    (n1 : cl ≠ tp) (n3 : pm ≠ tp) (hI : IntsAre vs ns) (hn0 : 0 < ns.length) (hn1 : ns.length ≤ 40) (ha : 0 ≤ at_) (hb : at_ ≤ 50)
    (h6 : m "lead" = some (.bytes lead tl)) (h7 : m "tape" = some (.ref tp)) (h8 : m "params" = some (.ref pm)) (h9 : m "mark" = some (markV tk9 mk))
    (tx : Option Str) (hP : ParOk w tx pm o) (hW : Way tx mk) (hpl : PlainOk tx mk lead (markM mk))
    (hE : PassesOwn (model PySem.Challenge.rw_or0041_01.row.prog w) (ktrTop dp un gd nm lawScope L a ccd [] outer) (envOf nm lawScope L a ccd) E)
    (hret : ∀ h' tk' m', Fr h₀ L h' m' → Q (.ret (.bool true)) { s with heap := h', toks := tk' }) :
    wpAny (model PySem.Challenge.rw_or0041_01.row.prog w) (ktrTop dp un gd nm lawScope L a ccd [] outer) (execs (lawBody.drop 3) (envOf nm lawScope L a ccd)) Q E s := by
  rw [law_split 3 5]
  refine execs_split _ _ ?_
  have X' := X
  w_top off
  revert X
  k_fill
  intro X
  conv in (occs := *) lawScope => all_goals whnf
  conv in List.take 5 _ => whnf
  have F2 := fr_known (ps := [("tape", .ref tp), ("params", .ref pm), ("mark", markV tk9 mk), ("lead", .bytes lead tl)]) F (List.forall_mem_cons.mpr ⟨h7, List.forall_mem_cons.mpr ⟨h8, List.forall_mem_cons.mpr ⟨h9, List.forall_mem_cons.mpr ⟨h6, fun _ h => nomatch h⟩⟩⟩⟩)
  clear F
  dsimp only [kstB] at F2
  rcases mk with _ | M <;> dsimp only [markV] at F2
  · k_steps
    all_goals (try dsimp only)
    (
      refine wpAny_execs_nil ?_
      rename News _ _ _ _ => nE
      rename Fr _ _ _ _ => fE
      rename _ < _ ∧ _ => hlt
      show wpAny _ _ (execs (lawBody.drop 8) (envOf nm lawScope L a ccd)) Q E _
      refine' law_loop w mean mg mb dp un gd nm a ccd outer A₀ base h₀ L _ _ Q E B X' T hd1 hu1 lead _ _ _ _ _ tk9 _ none pm _ tp cl o vs ns nt nc at_ fE (news_told nE) n1 (Nat.ne_of_gt hlt.1) n3 (Nat.ne_of_lt hlt.2.1) (Nat.ne_of_lt hlt.2.2) hI hn0 hn1 ha hb rfl rfl rfl rfl rfl rfl rfl rfl rfl hz (way_size hW) tx hP hpl hE ?ret
      case ret => intro h' tk' m' F9; exact hret h' tk' m' F9)
  · k_steps
    all_goals (try dsimp only)
    (
      refine wpAny_execs_nil ?_
      rename News _ _ _ _ => nE
      rename Fr _ _ _ _ => fE
      rename _ < _ ∧ _ => hlt
      show wpAny _ _ (execs (lawBody.drop 8) (envOf nm lawScope L a ccd)) Q E _
      refine' law_loop w mean mg mb dp un gd nm a ccd outer A₀ base h₀ L _ _ Q E B X' T hd1 hu1 lead _ _ _ _ _ tk9 _ (some M) pm _ tp cl o vs ns nt nc at_ fE (news_told nE) n1 (Nat.ne_of_gt hlt.1) n3 (Nat.ne_of_lt hlt.2.1) (Nat.ne_of_lt hlt.2.2) hI hn0 hn1 ha hb rfl rfl rfl rfl rfl rfl rfl rfl rfl hz (way_size hW) tx hP hpl hE ?ret
      case ret => intro h' tk' m' F9; exact hret h' tk' m' F9)
set_option maxRecDepth 100000 in
set_option maxHeartbeats 8000000 in
theorem law_mid (w : World) (mean : ExcName → Option Value) (mg mb : Str → Option Value) (dp un : Nat) (gd : Option (List Code)) (nm : Str) (a : Addr) (ccd : Value) (outer : List Env) (A₀ : Around) (base h₀ : Heap) (L : Addr) (m : Str → Option Value) (s : Shared) (Q : Flow → Shared → Prop) (E : Value → Shared → Prop)
    (B : Below A₀ base outer h₀) (X : (hd.heap_39 w.params).In h₀) (T : Top hd.view_39 LS mean mg mb h₀) (hd1 : dp + 60 < recursionLimit) (hu1 : un + 8 * 60 < cLine)
    (tk9 ta : Tok) (mk : Option (Array UInt8)) (pm tp cl : Addr) (o : Obj) (vs : List Value) (ns : List Int) (nt nc : Nat) (at_ : Int)
    (F : Fr h₀ L s.heap m) (N : News h₀ L s.heap [(tp, listOf [Value.ref cl, Value.int at_ ta].toArray nt), (cl, listOf vs.toArray nc), (pm, o)])
    (n1 : cl ≠ tp) (n3 : pm ≠ tp) (hI : IntsAre vs ns) (hn0 : 0 < ns.length) (hn1 : ns.length ≤ 40) (ha : 0 ≤ at_) (hb : at_ ≤ 40)
    (h7 : m "tape" = some (.ref tp)) (h8 : m "params" = some (.ref pm)) (h9 : m "mark" = some (markV tk9 mk))
    (tx : Option Str) (hP : ParOk w tx pm o) (hW : Way tx mk) (hpl : ∀ lead, PlainOk tx mk lead (markM mk))
    (hE : PassesOwn (model PySem.Challenge.rw_or0041_01.row.prog w) (ktrTop dp un gd nm lawScope L a ccd [] outer) (envOf nm lawScope L a ccd) E)
    (hret : ∀ h' tk' m', Fr h₀ L h' m' → Q (.ret (.bool true)) { s with heap := h', toks := tk' }) :
    wpAny (model PySem.Challenge.rw_or0041_01.row.prog w) (ktrTop dp un gd nm lawScope L a ccd [] outer) (execs (lawBody.drop 2) (envOf nm lawScope L a ccd)) Q E s := by
  rw [law_split 2 1]
  refine execs_split _ _ ?_
  have X' := X
  w_top off
  revert X
  k_fill
  intro X
  conv in (occs := *) lawScope => all_goals whnf
  conv in List.take 1 _ => whnf
  have F2 := fr_known (ps := [("tape", .ref tp), ("params", .ref pm), ("mark", markV tk9 mk)]) F (List.forall_mem_cons.mpr ⟨h7, List.forall_mem_cons.mpr ⟨h8, List.forall_mem_cons.mpr ⟨h9, fun _ h => nomatch h⟩⟩⟩)
  clear F
  dsimp only [kstB] at F2
  k_steps
  all_goals (try dsimp only)
  all_goals refine wpAny_execs_nil ?_
  all_goals rename Fr _ _ _ _ => lF
  all_goals rename News _ _ _ _ => lN
  all_goals show wpAny _ _ (execs (lawBody.drop 3) (envOf nm lawScope L a ccd)) Q E _
  · refine law_told w mean mg mb dp un gd nm a ccd outer A₀ base h₀ L _ _ Q E B X' T hd1 hu1 (#[] : Array UInt8) (by decide) _ tk9 _ mk pm tp cl o vs ns nt nc (at_ + 1) lF (news_mid lN) n1 n3 hI hn0 hn1 (by omega) (by omega) rfl rfl rfl rfl tx hP hW (hpl _) hE ?_
    intro h' tk' m' F'
    exact hret h' tk' m' F'
  · refine law_told w mean mg mb dp un gd nm a ccd outer A₀ base h₀ L _ _ Q E B X' T hd1 hu1 (#[67, 111, 110, 116, 101, 110, 116, 45, 84, 121, 112, 101, 58, 32, 120, 13, 10, 13, 10] : Array UInt8) (by decide) _ tk9 _ mk pm tp cl o vs ns nt nc (at_ + 1) lF (news_mid lN) n1 n3 hI hn0 hn1 (by omega) (by omega) rfl rfl rfl rfl tx hP hW (hpl _) hE ?_
    intro h' tk' m' F'
    exact hret h' tk' m' F'
  · refine law_told w mean mg mb dp un gd nm a ccd outer A₀ base h₀ L _ _ Q E B X' T hd1 hu1 (#[45, 45, 113, 13, 10] : Array UInt8) (by decide) _ tk9 _ mk pm tp cl o vs ns nt nc (at_ + 1) lF (news_mid lN) n1 n3 hI hn0 hn1 (by omega) (by omega) rfl rfl rfl rfl tx hP hW (hpl _) hE ?_
    intro h' tk' m' F'
    exact hret h' tk' m' F'
end Mine
end PartE3

section PartE4
open PySem PySem.W PyProof.Rows
namespace Mine
theorem news_top {h₀ h : Heap} {L : Addr} {a b c d : Addr × Obj} {R : List (Addr × Obj)} (N : News h₀ L h (a :: b :: c :: d :: R)) : News h₀ L h [c, d, b] := by
  refine cb_drop N fun q hq => ?_
  simp only [List.mem_cons, List.not_mem_nil, or_false] at hq ⊢
  rcases hq with h | h | h <;> simp [h]
theorem neN {a b : Addr} (h : @LT.lt Nat _ a b) : a ≠ b := Nat.ne_of_lt h
set_option maxRecDepth 100000 in
set_option maxHeartbeats 8000000 in
theorem law_holds (hplain : ∀ tx mk lead, Way tx mk → PlainOk tx mk lead (markM mk)) : PySem.Challenge.rw_or0041_01.Holds := hd (by
  k_go0; all_goals (try k_fold)
  repeat' ((fail_if_success (with_reducible show wpAny _ _ (execs _ _) _ _ _)); first | (k_unfold; (try dsimp only)) | (k_end; wrow_close) | walk1 | (dsimp only; walk1) | (leave1; walk_say "STEP leave1"; try dsimp only) | fail "no step")
  show wpAny _ _ (execs ((lawBody.drop 0).take 2 ++ lawBody.drop 2) _) _ _ _
  refine execs_split _ _ ?_
  conv in List.take 2 _ => whnf
  repeat' ((fail_if_success (with_reducible show wpAny _ _ (call (Value.ref 184) _) _ _ _)); first | (k_unfold; (try dsimp only)) | (k_end; wrow_close) | walk1 | (dsimp only; walk1) | (leave1; walk_say "STEP leave1"; try dsimp only) | fail "no step")
  all_goals (
    refine' ask_use ?k1 ?k2 ?k3 ?k4 ?k5 ?k6 ?k7 ?k8 (params_tells _ _ _ _ _ _ _ _ _ _ _ _ _ ?h1 ?h2 ?h3 ?h4 ?h5 ?h6) ?_
    (case k1 => k_asm)
    (case k2 => k_asm)
    (case k3 => k_asm)
    (case k4 => k_asm)
    (case k5 => first | exact rfl | assumption)
    (case k6 => ktr_room)
    (case k7 => ktr_units)
    (case k8 => k_asm)
    (case h1 => first | assumption | exact IntsAre.cons _ _ IntsAre.nil)
    (case h2 => first | assumption | decide)
    (case h3 => first | omega | decide); (case h4 => omega); (case h5 => omega); 
    (case h6 => intro p hp; simp only [List.mem_cons, List.not_mem_nil, or_false] at hp; (repeat' (rcases hp with hp | hp)) <;> ((try subst hp); refine neN ?_; dsimp only; omega))
    intro tx' mk' r' pm' o' kvs' t' t2' h' tk' hw' F' N' hs1' hs2' hs3' hs4' hs5'
    k_steps
    try dsimp only
    refine wpAny_execs_nil ?_

    rename News _ _ _ _ => nE
    rename Fr _ _ _ _ => fE
    show wpAny _ _ (execs (lawBody.drop 2) _) _ _ _
    refine' law_mid _ _ _ _ _ _ _ _ _ _ _ _ _ _ _ _ _ _ _ ?zk1 ?zk3 ?zk4 ?zk6 ?zk7 t' t2' mk' pm' _ _ o' _ _ _ _ _ fE (news_top nE) ?n1 ?n3 ?zh1 ?zh2 ?zh3 ?zh4 ?zh5 rfl rfl rfl tx' ⟨⟨kvs', hs2', hs3'⟩, hs1', way_text hw'⟩ hw' (fun lead => hplain _ _ lead hw') ?hE ?_
    (case zk1 => k_asm)
    (case zk3 => k_asm)
    (case zk4 => k_asm)
    (case zk6 => ktr_room)
    (case zk7 => ktr_units)
    (case zh1 => first | assumption | exact IntsAre.cons _ _ IntsAre.nil)
    (case zh2 => first | assumption | decide)
    (case zh3 => first | omega | decide)
    (case zh4 => first | omega | decide)
    (case zh5 => first | omega | decide)
    (case n1 => refine neN ?_; omega)
    (case n3 => exact Nat.ne_of_gt (hs4' _ (List.mem_cons_self ..)))
    (case hE => passes_own)
    intro h' tk' m' F9
    dsimp only
    k_end; wrow_close))
end Mine
end PartE4

section PartPL
open PySem PySem.W PyProof.Rows
namespace Mine
def bodyL : List (Array UInt8) → List UInt8
  | [] => []
  | l :: r => l.toList ++ (13 :: 10 :: bodyL r)
def spL : Nat → List (Array UInt8) → List (Nat × Nat × Nat)
  | _, [] => []
  | b, l :: r => (b, b + l.size, b + l.size + 2) :: spL (b + l.size + 2) r
theorem fold_body (lead M : Array UInt8) : ∀ (ls : List (Array UInt8)) (c : LSt), (ls.foldl (stepL lead M) c).body.toList = c.body.toList ++ bodyL ls
  | [], c => by rw [List.foldl_nil, bodyL, List.append_nil]
  | l :: r, c => by
    rw [List.foldl_cons, fold_body lead M r, step_body, bodyL]
    simp
theorem extract_one {d : Array UInt8} {i : Nat} {x : UInt8} (h : d[i]? = some x) : d.extract i (i + 1) = #[x] := by
  obtain ⟨hi, hx⟩ := Array.getElem?_eq_some_iff.mp h
  apply Array.ext
  · simp; omega
  · intro j h1 h2
    simp at h1 h2
    have : j = 0 := by omega
    subst this
    simp [hx]
theorem find_first {d : Array UInt8} {b f e : Nat} (hb : b ≤ f) (hf : f < e) (h2 : d[f]? = some 10) (h1 : ∀ i, b ≤ i → i < f → ∃ x, d[i]? = some x ∧ x ≠ 10) : Builtin.Bytes.find? d #[10] b e = some f := by
  unfold Builtin.Bytes.find?
  rw [List.find?_map]
  have key : (List.range (e + 1 - (b + (#[10] : Array UInt8).size))).find? ((fun i => d.extract i (i + (#[10] : Array UInt8).size) == #[10]) ∘ (· + b)) = some (f - b) := by
    rw [List.find?_range_eq_some]
    refine ⟨?_, ?_, ?_⟩
    · show (d.extract (f - b + b) (f - b + b + 1) == #[10]) = true
      rw [Nat.sub_add_cancel hb, extract_one h2]
      decide
    · rw [List.mem_range]
      show f - b < e + 1 - (b + 1)
      omega
    · intro j hj
      obtain ⟨x, hx, hne⟩ := h1 (j + b) (by omega) (by omega)
      show (!(d.extract (j + b) (j + b + 1) == #[10])) = true
      rw [extract_one hx]
      simp [hne]
  rw [key]
  show some (f - b + b) = some f
  rw [Nat.sub_add_cancel hb]
theorem at_line {d : Array UInt8} {pre rest : List UInt8} (hd : d.toList = pre ++ rest) (k : Nat) : d[pre.length + k]? = rest[k]? := by
  rw [← Array.getElem?_toList, hd, List.getElem?_append_right (by omega)]
  congr 1
  omega
theorem spans_lines {d : Array UInt8} {e : Nat} {post : List UInt8} : ∀ (ls : List (Array UInt8)) (pre : List UInt8), d.toList = pre ++ (bodyL ls ++ post) → e = pre.length + (bodyL ls).length → (∀ l ∈ ls, (10 : UInt8) ∉ l.toList) → Spans d e pre.length (spL pre.length ls)
  | [], pre, _, he, _ => .done (by rw [he]; simp [bodyL])
  | l :: r, pre, hd, he, hl => by
    have hd1 : d.toList = pre ++ (l.toList ++ (13 :: 10 :: (bodyL r ++ post))) := by rw [hd, bodyL]; simp
    have hlen : e = pre.length + l.size + 2 + (bodyL r).length := by
      rw [he, bodyL]; simp; omega
    have h13 : d[pre.length + l.size]? = some 13 := by
      rw [at_line hd1, List.getElem?_append_right (by simp)]
      simp
    have h10 : d[pre.length + l.size + 1]? = some 10 := by
      rw [Nat.add_assoc, at_line hd1, List.getElem?_append_right (by simp)]
      simp
    have hff : Builtin.Bytes.find? d #[10] pre.length e = some (pre.length + l.size + 1) := by
      refine find_first (by omega) (by omega) h10 fun i h1 h2 => ?_
      by_cases hi : i = pre.length + l.size
      · subst hi
        exact ⟨13, h13, by decide⟩
      · obtain ⟨k, rfl⟩ := Nat.exists_eq_add_of_le h1
        have hk : k < l.toList.length := by rw [Array.length_toList]; omega
        refine ⟨l.toList[k], ?_, fun q => hl l (List.mem_cons_self ..) (q ▸ List.getElem_mem hk)⟩
        rw [at_line hd1, List.getElem?_append_left hk]
        exact List.getElem?_eq_getElem hk
    have hrest := spans_lines (d := d) (e := e) (post := post) r (pre ++ (l.toList ++ [13, 10])) (by rw [hd1]; simp) (by rw [hlen]; simp; omega) fun x hx => hl x (List.mem_cons_of_mem _ hx)
    have hpl : (pre ++ (l.toList ++ [13, 10])).length = pre.length + l.size + 1 + 1 := by simp; omega
    rw [hpl] at hrest
    have hcut : (if pre.length < pre.length + l.size + 1 ∧ d.getD (pre.length + l.size + 1 - 1) 0 = 13 then pre.length + l.size + 1 - 1 else pre.length + l.size + 1) = pre.length + l.size := by
      rw [if_pos]
      · rfl
      · refine ⟨by omega, ?_⟩
        rw [Nat.add_sub_cancel, Array.getD_eq_getD_getElem?, h13]
        rfl
    have q := Spans.line (d := d) (e := e) (by omega : pre.length < e) (by omega) (by omega) hff hrest
    rw [hcut] at q
    exact q
theorem cut_line {d l : Array UInt8} {pre rest : List UInt8} (hd : d.toList = pre ++ (l.toList ++ rest)) : KBy.picked d (some (pre.length : Int)) (some ((pre.length + l.size : Nat) : Int)) = l := by
  have hs : d.size = pre.length + (l.size + rest.length) := by
    rw [← Array.length_toList, hd]; simp
  rw [KBc.picked_eq]
  show ((d.toList.drop (clipAt d.size (pre.length : Int))).take (clipAt d.size ((pre.length + l.size : Nat) : Int) - clipAt d.size (pre.length : Int))).toArray = l
  rw [clipAt_nat, clipAt_nat, Nat.min_eq_left (by omega), Nat.min_eq_left (by omega), hd, List.drop_left, Nat.add_sub_cancel_left]
  rw [List.take_left' (by simp)]
/-- a line, and what both sides take it for -/
def LineFact (bd M l : Array UInt8) : Prop :=
  (dashed l = false ∧ wayOf l bd = Str.ofString "") ∨ (dashed l = true ∧ (l.toList != M.toList) = false ∧ wayOf l bd = Str.ofString "next") ∨ (dashed l = true ∧ (l.toList != M.toList) = true ∧ wayOf l bd = Str.ofString "last")
theorem over_fold {lead M : Array UInt8} : ∀ (ls : List (Array UInt8)) (c : LSt), c.ov = true → (ls.foldl (stepL lead M) c).ov = true ∧ (ls.foldl (stepL lead M) c).fd = c.fd
  | [], _, h => ⟨h, rfl⟩
  | l :: r, c, h => by
    rw [List.foldl_cons]
    have e : (stepL lead M c l).ov = true ∧ (stepL lead M c l).fd = c.fd := by
      unfold stepL
      split
      · exact ⟨h, rfl⟩
      · exact ⟨h, rfl⟩
    have q := over_fold (lead := lead) (M := M) r (stepL lead M c l) e.1
    exact ⟨q.1, q.2.trans e.2⟩
theorem next_ne : Str.ofString "next" ≠ Str.ofString "" := by decide +kernel
theorem next_last : Str.ofString "next" ≠ Str.ofString "last" := by decide +kernel
theorem last_ne : Str.ofString "last" ≠ Str.ofString "" := by decide +kernel
theorem run_eq {d bd M lead : Array UInt8} {e : Int} {post : List UInt8} (hW : ∀ l, Ln M l → LineFact bd M l) : ∀ (ls : List (Array UInt8)) (pre : List UInt8) (c : LSt) (bf : Int), d.toList = pre ++ (bodyL ls ++ post) → pre.length = lead.size + c.body.size → (∀ l ∈ ls, Ln M l) → c.ov = false → (0 ≤ c.g → bf = (pre.length : Int) - 2) →
    psRun (wfOf d bd) e (spL pre.length ls) c.g bf c.fd = finDue (ls.foldl (stepL lead M) c).g (ls.foldl (stepL lead M) c).ov e (ls.foldl (stepL lead M) c).fd
  | [], pre, c, bf, _, _, _, hov, _ => by
    rw [List.foldl_nil, spL, psRun]
    unfold finDue
    rw [hov]
    simp
  | l :: r, pre, c, bf, hd, hp, hl, hov, hbf => by
    have hd1 : d.toList = pre ++ (l.toList ++ (13 :: 10 :: (bodyL r ++ post))) := by rw [hd, bodyL]; simp
    have hwf : wfOf d bd (pre.length, pre.length + l.size, pre.length + l.size + 2) = wayOf l bd := by
      unfold wfOf
      rw [cut_line hd1]
    have hd2 : d.toList = (pre ++ (l.toList ++ [13, 10])) ++ (bodyL r ++ post) := by rw [hd1]; simp
    have hpl : (pre ++ (l.toList ++ [13, 10])).length = pre.length + l.size + 2 := by simp; omega
    have hsz : (pre ++ (l.toList ++ [13, 10])).length = lead.size + (c.body ++ l ++ #[13, 10]).size := by
      rw [hpl, hp]; simp; omega
    have hl2 : ∀ x ∈ r, Ln M x := fun x hx => hl x (List.mem_cons_of_mem _ hx)
    have hend : ((pre.length + l.size : Nat) : Int) = ((pre ++ (l.toList ++ [13, 10])).length : Int) - 2 := by rw [hpl]; omega
    rw [List.foldl_cons, spL, psRun, hwf]
    rcases hW l (hl l (List.mem_cons_self ..)) with ⟨q1, q2⟩ | ⟨q1, q2, q3⟩ | ⟨q1, q2, q3⟩
    · rw [if_pos q2, step_plain q1]
      have ih := run_eq (e := e) (bd := bd) (lead := lead) hW r (pre ++ (l.toList ++ [13, 10])) { c with body := c.body ++ l ++ #[13, 10] } ((pre.length + l.size : Nat) : Int) hd2 hsz hl2 hov (fun _ => hend)
      rw [hpl] at ih
      exact ih
    · rw [q3, if_neg next_ne, if_neg next_last]
      have hg2 : (lead.size : Int) + (c.body.size : Int) + (l.size : Int) + 2 = ((pre.length + l.size + 2 : Nat) : Int) := by omega
      by_cases hg : 0 ≤ c.g
      · have hb := hbf hg
        have hb2 : (lead.size : Int) + (c.body.size : Int) - 2 = bf := by omega
        rw [step_more q1 hov hg, if_pos hg, hg2, hb2, q2]
        have ih := run_eq (e := e) (bd := bd) (lead := lead) hW r (pre ++ (l.toList ++ [13, 10])) { body := c.body ++ l ++ #[13, 10], g := ((pre.length + l.size + 2 : Nat) : Int), ov := false, fd := c.fd ++ [(c.g, if bf > c.g then bf else c.g)] } ((pre.length + l.size : Nat) : Int) hd2 hsz hl2 rfl (fun _ => hend)
        rw [hpl] at ih
        exact ih
      · rw [step_first q1 hov hg, if_neg hg, hg2, q2]
        have ih := run_eq (e := e) (bd := bd) (lead := lead) hW r (pre ++ (l.toList ++ [13, 10])) { body := c.body ++ l ++ #[13, 10], g := ((pre.length + l.size + 2 : Nat) : Int), ov := false, fd := c.fd } ((pre.length + l.size : Nat) : Int) hd2 hsz hl2 rfl (fun _ => hend)
        rw [hpl] at ih
        exact ih
    · rw [q3, if_neg last_ne, if_pos rfl]
      by_cases hg : 0 ≤ c.g
      · have hb := hbf hg
        have hb2 : (lead.size : Int) + (c.body.size : Int) - 2 = bf := by omega
        rw [step_more q1 hov hg, if_pos hg, hb2, q2]
        have o := over_fold (lead := lead) (M := M) r { body := c.body ++ l ++ #[13, 10], g := (lead.size : Int) + (c.body.size : Int) + (l.size : Int) + 2, ov := true, fd := c.fd ++ [(c.g, if bf > c.g then bf else c.g)] } rfl
        unfold finDue
        rw [o.1, o.2]
        simp
      · rw [step_first q1 hov hg, if_neg hg, q2]
        have o := over_fold (lead := lead) (M := M) r { body := c.body ++ l ++ #[13, 10], g := (lead.size : Int) + (c.body.size : Int) + (l.size : Int) + 2, ov := true, fd := c.fd } rfl
        unfold finDue
        rw [o.1, o.2]
        simp
theorem no_feed {M l : Array UInt8} (hM : (10 : UInt8) ∉ M.toList) (h : Ln M l) : (10 : UInt8) ∉ l.toList := by
  rcases h with rfl | rfl | rfl | rfl | rfl
  · exact hM
  · decide
  · decide
  · rw [Array.toList_append]
    intro q
    rcases List.mem_append.mp q with q | q
    · exact hM q
    · revert q; decide
  · decide
theorem way_feed {tx : Option Str} {mk : Option (Array UInt8)} (h : Way tx mk) : (10 : UInt8) ∉ (markM mk).toList := by
  cases h <;> decide
/-- the three marks: a line, and what both sides take it for -/
theorem facts_of {bd M : Array UInt8} (h1 : dashed M = true ∧ (M.toList != M.toList) = false ∧ wayOf M bd = Str.ofString "next") (h2 : dashed #[120] = false ∧ wayOf #[120] bd = Str.ofString "") (h3 : dashed #[] = false ∧ wayOf #[] bd = Str.ofString "")
    (h4 : dashed (M ++ #[45, 45]) = true ∧ ((M ++ #[45, 45]).toList != M.toList) = true ∧ wayOf (M ++ #[45, 45]) bd = Str.ofString "last") (h5 : dashed #[113] = false ∧ wayOf #[113] bd = Str.ofString "") : ∀ l, Ln M l → LineFact bd M l := by
  intro l h
  rcases h with rfl | rfl | rfl | rfl | rfl
  · exact .inr (.inl h1)
  · exact .inl h2
  · exact .inl h3
  · exact .inr (.inr h4)
  · exact .inl h5
theorem facts_q : ∀ l, Ln #[45, 45, 113] l → LineFact #[113] #[45, 45, 113] l :=
  facts_of (by decide +kernel) (by decide +kernel) (by decide +kernel) (by decide +kernel) (by decide +kernel)
theorem facts_qr : ∀ l, Ln #[45, 45, 113, 32, 114] l → LineFact #[113, 32, 114] #[45, 45, 113, 32, 114] l :=
  facts_of (by decide +kernel) (by decide +kernel) (by decide +kernel) (by decide +kernel) (by decide +kernel)
theorem facts_et : ∀ l, Ln #[45, 45, 233, 116] l → LineFact #[233, 116] #[45, 45, 233, 116] l :=
  facts_of (by decide +kernel) (by decide +kernel) (by decide +kernel) (by decide +kernel) (by decide +kernel)
/-- what the boundary's text tells: octets or none -/
def TextFact (tx : Option Str) (mk : Option (Array UInt8)) : Prop := match mk with
  | none => tx.getD (Str.ofString "") = Str.ofString "" ∨ (lowC (tx.getD (Str.ofString ""))).length ≠ (tx.getD (Str.ofString "")).cps.size
  | some M => tx.getD (Str.ofString "") ≠ Str.ofString "" ∧ (lowC (tx.getD (Str.ofString ""))).length = (tx.getD (Str.ofString "")).cps.size ∧ ∀ l, Ln M l → LineFact (byteArr (lowC (tx.getD (Str.ofString "")))) M l
theorem text_facts {tx : Option Str} {mk : Option (Array UInt8)} (h : Way tx mk) : TextFact tx mk := by
  cases h
  · refine ⟨by decide +kernel, by decide +kernel, ?_⟩
    rw [show byteArr (lowC ((some (Str.ofString "q")).getD (Str.ofString ""))) = #[113] by decide +kernel]
    exact facts_q
  · exact .inl rfl
  · exact .inl rfl
  · refine ⟨by decide +kernel, by decide +kernel, ?_⟩
    rw [show byteArr (lowC ((some (Str.ofString "q r")).getD (Str.ofString ""))) = #[113, 32, 114] by decide +kernel]
    exact facts_qr
  · refine ⟨by decide +kernel, by decide +kernel, ?_⟩
    rw [show byteArr (lowC ((some (Str.ofString "ét")).getD (Str.ofString ""))) = #[233, 116] by decide +kernel]
    exact facts_et
  · exact .inr (by decide +kernel)
  · exact .inr (by decide +kernel)
theorem plain_ok (tx : Option Str) (mk : Option (Array UInt8)) (lead : Array UInt8) (h : Way tx mk) : PlainOk tx mk lead (markM mk) := by
  intro ls hls _
  have hb := fold_body lead (markM mk) ls ⟨#[], -1, false, []⟩
  generalize hc : ls.foldl (stepL lead (markM mk)) ⟨#[], -1, false, []⟩ = c at hb ⊢
  have hb2 : c.body.toList = bodyL ls := by rw [hb]; rfl
  have hbz : c.body.size = (bodyL ls).length := by rw [← Array.length_toList, hb2]
  have hd : (lead ++ c.body ++ #[45, 45, 113, 13, 10, 122]).toList = lead.toList ++ (bodyL ls ++ [45, 45, 113, 13, 10, 122]) := by
    rw [Array.toList_append, Array.toList_append, hb2, List.append_assoc]
  have hS := spans_lines (d := lead ++ c.body ++ #[45, 45, 113, 13, 10, 122]) (e := lead.size + c.body.size) ls lead.toList hd (by rw [Array.length_toList, hbz]) fun l hl => no_feed (way_feed h) (hls l hl)
  rw [Array.length_toList] at hS
  refine ⟨_, hS, ?_⟩
  have hT := text_facts h
  cases mk with
  | none =>
    have hfd : kidFd (lead ++ c.body ++ #[45, 45, 113, 13, 10, 122]) (tx.getD (Str.ofString "")) lead.size ((lead.size + c.body.size : Nat) : Int) (spL lead.size ls) = [] := by
      unfold kidFd
      rcases hT with q | q
      · rw [if_neg (fun n => n q)]
      · split
        · first
            | rfl
            | exact if_neg q
        · rfl
    rw [kid_none hfd]
    rfl
  | some M =>
    obtain ⟨q1, q2, q3⟩ := hT
    have hR := run_eq (d := lead ++ c.body ++ #[45, 45, 113, 13, 10, 122]) (e := ((lead.size + c.body.size : Nat) : Int)) (lead := lead) q3 ls lead.toList ⟨#[], -1, false, []⟩ (lead.size : Int) hd (by simp) hls rfl (fun n => absurd n (by decide))
    rw [Array.length_toList] at hR
    have hc2 : ls.foldl (stepL lead M) ⟨#[], -1, false, []⟩ = c := hc
    rw [hc2] at hR
    have hfd : kidFd (lead ++ c.body ++ #[45, 45, 113, 13, 10, 122]) (tx.getD (Str.ofString "")) lead.size ((lead.size + c.body.size : Nat) : Int) (spL lead.size ls) = finDue c.g c.ov ((lead.size + c.body.size : Nat) : Int) c.fd := by
      unfold kidFd
      rw [if_pos q1, if_pos q2]
      exact hR
    by_cases hn : finDue c.g c.ov ((lead.size + c.body.size : Nat) : Int) c.fd = []
    · rw [kid_none (hfd.trans hn), law_nil hn]
    · rw [kid_some (hfd.symm ▸ hn), law_full hn, hfd]
end Mine
end PartPL

set_option maxRecDepth 100000 in
set_option maxHeartbeats 8000000 in
theorem PySem.Challenge.cw_or0041_01_holds : PySem.Challenge.rw_or0041_01.Holds := by
  exact Mine.law_holds Mine.plain_ok
