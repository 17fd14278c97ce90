import PyProof.Rows.All
import Wide.All
import OpenK.AllK
import Wide.FinOn
import PySem.Challenge.RW_nz0263_01
open PySem PySem.W PyProof.Rows PySem.Spec PySem.Calls
set_option Elab.async false
set_option maxRecDepth 100000

/- part H -/
namespace Mine
set_option maxHeartbeats 8000000 in
open_top hd for PySem.Challenge.rw_nz0263_01
end Mine


/- part B -/
namespace Mine

abbrev PEN (c : Addr) (i : Int) (ti : Tok) (b : Int) (tb : Tok) (z : Int) (tz : Tok) (n : Nat) : Obj := listOf [Value.ref c, .int i ti, .int b tb, .int z tz].toArray n

/-- what a call of `f` upon `vs` does, from any caller -/
def Tells (w : World) (p : Program) (loose : List Str) (mean : ExcName → Option Value) (mg mb : Str → Option Value) (f : Addr) (kd ku : Nat) (news : List (Addr × Obj)) (vs : List Value)
    (Ret : (Heap → List (Addr × Obj) → Prop) → (Value → Heap → Nat → Prop) → Prop) : Prop :=
  ∀ (dp un : Nat) (gd : Option (List Code)) (cn : Str) (cs : Scope) (a : Addr) (ccd : Value) (cl : List (Str × Addr)) (outer : List Env) (A₀ : Around) (base h₀ : Heap) (L : Addr) (m : Str → Option Value) (s : Shared) (Q E : Value → Shared → Prop),
    Below A₀ base outer h₀ → Fr h₀ L s.heap m → (hd.heap_39 w.params).In h₀ → News h₀ L s.heap news → Top p loose mean mg mb h₀ → cs.kind = .function → dp + kd < recursionLimit → un + ku < cLine →
    Ret (fun h' news' => Fr h₀ L h' m ∧ News h₀ L h' news') (fun v h' tk' => Q v { s with heap := h', toks := tk' }) →
    wpAny (model PySem.Challenge.rw_nz0263_01.prog w) (ktrTop dp un gd cn cs L a ccd cl outer) (call (.ref f) vs) Q E s

theorem ne_of_allLt {rest : List (Addr × Obj)} {D : Addr} (h : AllLt D rest) : ∀ p ∈ rest, p.1 ≠ D := by
  induction rest with
  | nil => exact fun _ h => nomatch h
  | cons q r ih =>
    intro p hp
    rcases List.mem_cons.mp hp with rfl | hp
    · exact Nat.ne_of_lt h.1
    · exact ih h.2 p hp

def Stop (p : Prop) : Prop := p
theorem stop_here {p : Prop} (h : Stop p) : p := h
end Mine


/- part U -/
namespace Mine
/- one ledger within another, entry by entry in one order -/
theorem sub_refl {l : List (Addr × Obj)} : ∀ p ∈ l, p ∈ l := fun _ h => h
theorem sub_nil {l : List (Addr × Obj)} : ∀ p ∈ ([] : List (Addr × Obj)), p ∈ l := fun _ h => nomatch h
theorem sub_left {l l' : List (Addr × Obj)} : ∀ p ∈ l, p ∈ l ++ l' := fun _ h => List.mem_append.mpr (.inl h)
theorem sub_right {l l' : List (Addr × Obj)} : ∀ p ∈ l', p ∈ l ++ l' := fun _ h => List.mem_append.mpr (.inr h)
theorem sub_skip {x : Addr × Obj} {l l' : List (Addr × Obj)} (h : ∀ p ∈ l, p ∈ l') : ∀ p ∈ l, p ∈ x :: l' := fun p hp => .tail _ (h p hp)
theorem sub_keep {x : Addr × Obj} {l l' : List (Addr × Obj)} (h : ∀ p ∈ l, p ∈ l') : ∀ p ∈ x :: l, p ∈ x :: l' := fun p hp => by
  rcases List.mem_cons.mp hp with rfl | hp
  · exact .head _
  · exact .tail _ (h p hp)
end Mine


/- part S -/
namespace Mine
section
variable {prog : Program} {w : World} {A : Around} {E : Value → Shared → Prop} {s : Shared}
theorem set_slice {l sl nl : Addr} {items new : Array Value} {n : Nat} {x : Int} {t u : Tok} {Q : Unit → Shared → Prop} (ho : s.heap.get? l = some (listOf items n))
    (hs : s.heap.IsSliceOf sl (.int x t) (.int x u) .none) (hnew : s.heap.IsList nl new) (hne : @Ne Nat l nl) (h0 : 0 ≤ x) (h1 : x ≤ items.size) (hsz : items.size + new.size ≤ sizeLine)
    (hQ : Q () { s with heap := s.heap.update l (Obj.mapSeq (fun xs => xs.extract 0 x.toNat ++ new ++ xs.extract x.toNat xs.size)) }) :
    wpAny (model prog w) A (setItem (.ref l) (.ref sl) (.ref nl)) Q E s := by
  have hl : s.heap.IsList l items := PySem.IsL.isList (n := n) ho
  obtain ⟨o2, ho2, hc2, ne2, hd2⟩ := id hnew
  obtain ⟨os, hos, hcs, hds⟩ := id hs
  have hTs : s.TypeIs (.ref sl) "slice" := ⟨os, hos, hcs⟩
  unfold setItem
  try with_reducible refine wpAny_holding ?_
  first | refine wpAny_bind (wpAny_pure ?_) | skip
  refine wpAny_bind (wpAny_sequenceKey hl.typeIs (by decide) ?_)
  refine wpAny_bind (wpAny_callSpecial?_slot (name := Str.ofString "__setitem__") hl.typeIs slot_list_setitem
    (wpAny_call_entry slot_list_setitem hl.typeIs entry_list_setitem ?_ (args_list_setitem _ _ _)))
  show wpAny _ _ (Builtin.List.listSubscript? (.ref sl) >>= _) _ _ s
  refine wpAny_bind ?_
  unfold Builtin.List.listSubscript?
  refine wpAny_bind (wpAny_specialOf hTs slice_no_index ?_)
  simp only [Option.isNone_none, if_true]
  refine wpAny_pure ?_
  show wpAny _ _ (typeOf (.ref sl) >>= _) _ _ s
  refine wpAny_bind (wpAny_typeOf hTs ?_)
  rw [if_neg (by decide)]
  rw [listSliceParts_eq]
  refine wpAny_bind (wpAny_bind (wpAny_field hos hds (x := .none) rfl (wpAny_bind (wpAny_listPart .none ?_))))
  rw [if_neg (by exact Bool.false_ne_true)]
  refine wpAny_bind (wpAny_field hos hds (x := .int x t) rfl (wpAny_bind (wpAny_listPart (.int x t) ?_)))
  refine wpAny_bind (wpAny_field hos hds (x := .int x u) rfl (wpAny_bind (wpAny_listPart (.int x u) (wpAny_pure ?_))))
  have hsame : Builtin.List.listSameRef (.ref l) (.ref nl) = false := by
    show (l == nl) = false
    exact beq_false_of_ne hne
  rw [if_neg (by rw [hsame]; exact Bool.false_ne_true)]
  refine wpAny_bind (m := Builtin.List.listAllItems (.ref nl) _) ?_
  unfold Builtin.List.listAllItems
  refine wpAny_bind (wpAny_typeOf hnew.typeIs ?_)
  rw [if_pos (by decide)]
  unfold Builtin.List.listItems
  refine wpAny_bind (wpAny_seqItems ho2 hd2 (wpAny_pure ?_))
  refine wpAny_bind (wpAny_bind (wpAny_seqItems ho rfl (wpAny_pure ?_)))
  have hb : sliceBounds (some x) (some x) none items.size = (x, x, 1) := by
    simp only [sliceBounds, Option.getD_none, show (1 : Int) > 0 by decide, if_true, if_neg (show ¬ (x < 0) by omega)]
    have : max 0 (min x (items.size : Int)) = x := by omega
    rw [this]
  refine wpAny_bind (wpAny_of_eq ((sliceIndices_raw (some x) (some x) none items.size (by simp)).trans (by rw [hb])) ?_)
  rw [if_pos (by rfl)]
  refine wpAny_bind (wpAny_rule ?_)
  have htl : ¬ (Builtin.List.listTooLong (items.size + new.size) = true) := by
    unfold Builtin.List.listTooLong
    simpa using hsz
  rw [if_neg htl]
  show wpAny _ _ (updateSeq l _ >>= _) _ _ s
  have hmax : max x x = x := by omega
  rw [hmax]
  refine wpAny_bind (wpAny_updateSeq (M := model prog w) (a := l) ho rfl ?_ (by show items.size ≤ sizeLine; omega) (by simp only [Array.size_append, Array.size_extract]; omega))
  refine wpAny_bind (wpAny_letGo ?_)
  exact wpAny_pure ⟨.none, rfl, wpAny_pure hQ⟩

theorem store_slice {h₀ : Heap} {L D nl : Addr} {m : Str → Option Value} {news news' : List (Addr × Obj)} {vs : List Value} {v : Value} {n c : Nat} {x : Int} {t u : Tok} {Q : Unit → Shared → Prop}
    (F : Fr h₀ L s.heap m) (N : News h₀ L s.heap news) (U : Upd D (listOf vs.toArray n) (listOf (vs.take x.toNat ++ [v] ++ vs.drop x.toNat).toArray (n + 1)) news news')
    (hnl : (nl, listOf #[v] c) ∈ news) (hne : @Ne Nat D nl) (h0 : 0 ≤ x) (h1 : x ≤ vs.length) (hsz : vs.length + 1 ≤ sizeLine)
    (h : ∀ h', Fr h₀ L h' m → News h₀ L h' news' → Q () { s with heap := h' }) :
    wpAny (model prog w) A (setItem (.ref D) (.ref s.heap.objs.size) (.ref nl)) Q E { s with heap := s.heap.push { cls := .type "slice", data := .fields #[.int x t, .int x u, .none] } } := by
  have F1 := F.push { cls := .type "slice", data := .fields #[.int x t, .int x u, .none] }
  have N1 := News.push F N { cls := .type "slice", data := .fields #[.int x t, .int x u, .none] }
  obtain ⟨pre, post, rfl, rfl, a, b⟩ := U.split
  have z := N1 (D, listOf vs.toArray n) (.tail _ (List.mem_append.mpr (.inr (.head _))))
  have z2 := N1 (nl, listOf #[v] c) (.tail _ hnl)
  have N2 : News h₀ L (s.heap.push { cls := .type "slice", data := .fields #[.int x t, .int x u, .none] }) (pre ++ (D, listOf vs.toArray n) :: post) := fun p hp => N1 p (.tail _ hp)
  refine set_slice (s := { s with heap := s.heap.push { cls := .type "slice", data := .fields #[.int x t, .int x u, .none] } }) z.1 (Heap.IsSliceOf.new ..) (PySem.IsL.isList z2.1) hne h0 (by simpa using h1) (by simpa using hsz) ?_
  refine h _ (F1.change (Heap.SameBut.update ..) z.2.1 z.2.2) (ki_turn _ N2 a b ?_ ?_)
  · apply Array.toList_inj.mp
    simp [List.extract, Nat.sub_zero]
    exact List.take_of_length_le (by simp)
  · have hs : (vs.take x.toNat ++ [v] ++ vs.drop x.toNat).toArray.size ≠ vs.toArray.size := by
      simp only [List.size_toArray, List.length_append, List.length_take, List.length_drop, List.length_cons, List.length_nil]
      omega
    rw [if_neg (by simpa using hs)]
end
end Mine


/- part D -/
namespace Mine

theorem gen_set {M : Model} {A : Around} {E : Value → Shared → Prop} {s : Shared} {o i : Value} {val : Int} {t : Tok} {Q : Unit → Shared → Prop} (hv : 0 ≤ val)
    (h : ∀ X : Int, 0 ≤ X → wpAny M A (PySem.setItem o i (.int X t)) Q E s) : wpAny M A (PySem.setItem o i (.int val t)) Q E s := h val hv
theorem gen_val {A T y : Int} (h : ¬ A < T) (hy : 0 ≤ y) : 0 ≤ 2 * (A - T) + y := by omega
local macro_rules | `(tactic| walk_at "setItem ref int") => `(tactic| ((with_reducible show wpAny _ _ (PySem.setItem _ _ (Value.int (_ * _ + _) _)) _ _ _); (rename (¬ (_ : Int) < _ ^ _) => hbig); (refine gen_set (gen_val hbig (by decide)) ?_); clear hbig; intro X' hX'; (try dsimp only)))
theorem fm_lo {a b : Int} (h : 1 ≤ b) : 0 ≤ a.fmod b := Int.fmod_nonneg_of_pos a (by omega)
theorem fm_hi {a b : Int} (h : 1 ≤ b) : a.fmod b < b := Int.fmod_lt_of_pos a (by omega)
theorem fd_lo {a b : Int} (ha : 0 ≤ a) (h : 1 ≤ b) : 0 ≤ a.fdiv b := Int.fdiv_nonneg ha (by omega)

set_option maxHeartbeats 4000000 in
theorem draw_tells (w : World) (p : Program) (loose : List Str) (mean : ExcName → Option Value) (mg mb : Str → Option Value) (P c : Addr) (cs : List Value) (ns : List Int) (nc np : Nat)
    (i : Int) (ti : Tok) (b : Int) (tb : Tok) (z : Int) (tz : Tok) (many : Int) (tm : Tok) (rest : List (Addr × Obj))
    (hoff : OwnOff rest [P]) (hpc : @Ne Nat P c) (hns : IntsAre cs ns) (hlen : ns.length ≤ 63) (hi0 : 0 ≤ i) (hi1 : i ≤ 1000) (hb0 : 0 ≤ b) (hz0 : 0 ≤ z) (hz1 : z ≤ 1009) (hm0 : 1 ≤ many) (hm1 : many ≤ 100) :
    Tells w p loose mean mg mb 35 1 8 ((P, PEN c i ti b tb z tz np) :: (c, listOf cs.toArray nc) :: rest) [.ref P, .int many tm]
      (fun K Q => ∀ d td i' ti' b' tb' h' tk', 0 ≤ d → d < many → i ≤ i' → i' ≤ i + 1 → 0 ≤ b' → K h' ((P, PEN c i' ti' b' tb' z tz np) :: (c, listOf cs.toArray nc) :: rest) → Q (.int d td) h' tk') := by
  w_top off
  unfold Tells
  k_fill
  intro dp un gd cn sc a ccd cl outer A₀ base h₀ L m s Q E B F X N T hk hd hu hret
  refine wpAny_call ?_
  k_dflt cell_enter
  k_steps
  all_goals (
    (try dsimp only)
    refine' hret _ _ _ _ _ _ _ _ (fm_lo hm0) (fm_hi hm0) ?a ?b ?c ⟨?f, ?n⟩
    (case n => assumption)
    (case f => assumption)
    (case a => first | exact Int.le_refl _ | omega)
    (case b => first | exact Int.le_refl _ | omega)
    (case c => first | assumption | exact fd_lo (by assumption) hm0 | omega))

theorem upd_news {h₀ h : Heap} {L P : Addr} {o' : Obj} {pre post : List (Addr × Obj)} {q : Addr × Obj} (N : News h₀ L h ((P, o') :: q :: (pre ++ post))) : News h₀ L h (pre ++ (P, o') :: post) := by
  intro p hp
  refine N p ?_
  rcases List.mem_append.mp hp with h | h
  · exact .tail _ (.tail _ (List.mem_append.mpr (.inl h)))
  · rcases List.mem_cons.mp h with rfl | h
    · exact .head _
    · exact .tail _ (.tail _ (List.mem_append.mpr (.inr h)))

theorem draw_call {w : World} {p : Program} {loose : List Str} {mean : ExcName → Option Value} {mg mb : Str → Option Value} {P c : Addr} {vs : List Value} {ns : List Int} {nc np : Nat}
    {i : Int} {ti : Tok} {b : Int} {tb : Tok} {z : Int} {tz : Tok} {many : Int} {tm : Tok} {news : List (Addr × Obj)} {g : Obj → List (Addr × Obj)}
    {dp un : Nat} {gd : Option (List Code)} {cn : Str} {cs : Scope} {a : Addr} {ccd : Value} {cl : List (Str × Addr)} {outer : List Env} {A₀ : Around} {base h₀ : Heap} {L : Addr} {m : Str → Option Value} {s : Shared} {Q E : Value → Shared → Prop}
    (B : Below A₀ base outer h₀) (F : Fr h₀ L s.heap m) (X : (hd.heap_39 w.params).In h₀) (N : News h₀ L s.heap news) (T : Top p loose mean mg mb h₀) (hk : cs.kind = .function)
    (U : UpdF P (PEN c i ti b tb z tz np) news g) (hc : (c, listOf vs.toArray nc) ∈ news) (hns : IntsAre vs ns)
    (hpc : @Ne Nat P c) (hlen : ns.length ≤ 63) (hi0 : 0 ≤ i) (hi1 : i ≤ 1000) (hb0 : 0 ≤ b) (hz0 : 0 ≤ z) (hz1 : z ≤ 1009) (hm0 : 1 ≤ many) (hm1 : many ≤ 100)
    (hd' : dp + 1 < recursionLimit) (hu : un + 8 < cLine)
    (ret : ∀ d td i' ti' b' tb' h' tk', 0 ≤ d → d < many → i ≤ i' → i' ≤ i + 1 → 0 ≤ b' → Fr h₀ L h' m → News h₀ L h' (g (PEN c i' ti' b' tb' z tz np)) → Q (.int d td) { s with heap := h', toks := tk' }) :
    wpAny (model PySem.Challenge.rw_nz0263_01.prog w) (ktrTop dp un gd cn cs L a ccd cl outer) (call (.ref 35) [.ref P, .int many tm]) Q E s := by
  obtain ⟨pre, post, rfl, hg, h1, h2⟩ := U.split
  refine draw_tells w p loose mean mg mb P c vs ns nc np i ti b tb z tz many tm (pre ++ post) ?_ hpc hns hlen hi0 hi1 hb0 hz0 hz1 hm0 hm1 dp un gd cn cs a ccd cl outer A₀ base h₀ L m s Q E B F X ?_ T hk hd' hu ?_
  · intro q hq b' hb' e
    rw [List.mem_singleton.mp hb'] at e
    rcases List.mem_append.mp hq with h | h
    · exact h1 q h e
    · exact h2 q h e
  · intro q hq
    rcases List.mem_cons.mp hq with rfl | hq
    · exact N _ (List.mem_append.mpr (.inr (.head _)))
    · rcases List.mem_cons.mp hq with rfl | hq
      · exact N _ hc
      · rcases List.mem_append.mp hq with h | h
        · exact N _ (List.mem_append.mpr (.inl h))
        · exact N _ (List.mem_append.mpr (.inr (.tail _ h)))
  · rintro d td i' ti' b' tb' h' tk' a1 a2 a3 a4 a5 ⟨f, n⟩
    refine ret d td i' ti' b' tb' h' tk' a1 a2 a3 a4 a5 f ?_
    rw [hg]
    exact upd_news n
end Mine


/- part N -/
namespace Mine

structure NS where
  last : Int
  tl : Tok
  vs : List Value
  xs : List Int
  n : Nat
  i : Int
  ti : Tok
  b : Int
  tb : Tok

def NSP (i₀ : Int) (pre : List Int) (c : NS) : Prop :=
  c.xs.length = pre.length ∧ (∀ x ∈ c.xs, 1 ≤ x ∧ x ≤ c.last) ∧ c.xs.Nodup ∧ 0 ≤ c.last ∧ c.last ≤ 1001 * (pre.length : Int) ∧ i₀ ≤ c.i ∧ c.i ≤ i₀ + 3 * (pre.length : Int) ∧ 0 ≤ c.b

theorem ints_ins {vs : List Value} {xs : List Int} (h : IntsAre vs xs) (j : Nat) (v : Int) (t : Tok) : IntsAre (vs.take j ++ [.int v t] ++ vs.drop j) (xs.take j ++ [v] ++ xs.drop j) :=
  IntsAre.append (IntsAre.append (h.take j) (.cons v t .nil)) (h.drop j)

theorem menu_bd {d : Int} (h0 : 0 ≤ d) (h6 : d < 6) : 0 ≤ ([0, 0, 0, 1, 5, 1000] : List Int).getD d.toNat 0 ∧ ([0, 0, 0, 1, 5, 1000] : List Int).getD d.toNat 0 ≤ 1000 := by
  obtain rfl | rfl | rfl | rfl | rfl | rfl : d = 0 ∨ d = 1 ∨ d = 2 ∨ d = 3 ∨ d = 4 ∨ d = 5 := by omega
  all_goals decide

theorem nsp_step {i₀ : Int} {pre : List Int} {k last : Int} {xs : List Int} {j : Nat} {i i' b' : Int} {v : Int} {tl : Tok} {ws : List Value} {n : Nat} {ti tb : Tok}
    (p1 : xs.length = pre.length) (p2 : ∀ x ∈ xs, 1 ≤ x ∧ x ≤ last) (p3 : xs.Nodup) (p4 : 0 ≤ last) (p5 : last ≤ 1001 * (pre.length : Int)) (p6 : i₀ ≤ i) (p7 : i ≤ i₀ + 3 * (pre.length : Int))
    (v1 : last + 1 ≤ v) (v2 : v ≤ last + 1001) (e1 : i ≤ i') (e2 : i' ≤ i + 3) (e3 : 0 ≤ b') :
    NSP i₀ (pre ++ [k]) ⟨v, tl, ws, xs.take j ++ [v] ++ xs.drop j, n, i', ti, b', tb⟩ := by
  have hp : (xs.take j ++ [v] ++ xs.drop j).Perm (v :: xs) := by
    have h := List.perm_middle (a := v) (l₁ := xs.take j) (l₂ := xs.drop j)
    rw [List.take_append_drop] at h
    simpa using h
  refine ⟨?_, ?_, ?_, ?_, ?_, ?_, ?_, ?_⟩
  · show (xs.take j ++ [v] ++ xs.drop j).length = (pre ++ [k]).length
    rw [hp.length_eq]; simp [p1]
  · intro x hx
    rcases List.mem_cons.mp (hp.mem_iff.mp hx) with rfl | h
    · exact ⟨by omega, Int.le_refl _⟩
    · have := p2 x h
      show 1 ≤ x ∧ x ≤ v
      omega
  · show (xs.take j ++ [v] ++ xs.drop j).Nodup
    rw [hp.nodup_iff, List.nodup_cons]
    refine ⟨fun h => ?_, p3⟩
    have := p2 v h
    omega
  · show 0 ≤ v
    omega
  · show v ≤ 1001 * ((pre ++ [k]).length : Int)
    rw [List.length_append, List.length_singleton]; omega
  · show i₀ ≤ i'
    omega
  · show i' ≤ i₀ + 3 * ((pre ++ [k]).length : Int)
    rw [List.length_append, List.length_singleton]; omega
  · exact e3

local macro_rules | `(tactic| walk_at "call ref") => `(tactic| (k_here; (with_reducible show wpAny _ _ (PySem.call (Value.ref 35) [Value.ref _, Value.int _ _]) _ _ _); k_dflt ( (refine' draw_call ?k1 ?k2 ?k3 ?k4 ?k5 ?k6 ?U ?c ?ns ?pc ?q1 ?q2 ?q3 ?q4 ?q5 ?q6 ?q7 ?q8 ?hd ?hu ?_); (case k1 => k_asm); (case k2 => k_asm); (case k3 => k_asm); (case k4 => k_asm); (case k5 => k_asm); (case k6 => first | exact rfl | assumption); (case U => k_updF); (case c => k_mem); (case ns => assumption); (case pc => assumption); (case q1 => omega); (case q2 => omega); (case q3 => omega); (case q4 => omega); (case q5 => omega); (case q6 => omega); (case q7 => first | omega | decide); (case q8 => first | omega | decide); (case hd => ktr_room); (case hu => ktr_units)); intro d' td' i' ti' b' tb' h' tk' d0 d1 i0' i1' b0' F' N'; (try dsimp only [List.nil_append, List.cons_append] at N')))

local macro_rules | `(tactic| walk_at "pyIter ref") => `(tactic| (k_here; (with_reducible show wpAny _ _ (pyIter (Value.ref _)) (fun it s₂ => LoopAtV _ _ _ _ _ _ _ _ _ it s₂) _ _); refine stop_here ?_))
local macro_rules | `(tactic| walk_at "setItem") => `(tactic| (k_here; k_dflt (refine' store_slice ?F ?N ?U ?nl ?ne ?h0 ?h1 ?sz ?_; (case F => k_asm); (case N => k_asm); (case U => k_upd); (case nl => k_mem); (case ne => (refine neN ?_; (try dsimp only); omega)); (case h0 => omega); (case h1 => omega); (case sz => (rw [sizeLine_eq]; omega))); intro h' F' N'; (try dsimp only [List.nil_append, List.cons_append] at N')))
local macro_rules | `(tactic| walk_at "InvEndN") => `(tactic| (refine stop_here ?_))
set_option maxHeartbeats 4000000 in
theorem numbers_tells (w : World) (p : Program) (loose : List Str) (mean : ExcName → Option Value) (mg mb : Str → Option Value) (P c : Addr) (cs : List Value) (ns : List Int) (nc np : Nat)
    (i : Int) (ti : Tok) (b : Int) (tb : Tok) (z : Int) (tz : Tok) (rest : List (Addr × Obj))
    (hoff : OwnOff rest [P]) (hpc : @Ne Nat P c) (hns : IntsAre cs ns) (hlen : ns.length ≤ 63) (hi0 : 0 ≤ i) (hi1 : i ≤ 900) (hb0 : 0 ≤ b) (hz0 : 0 ≤ z) (hz1 : z ≤ 1009) :
    Tells w p loose mean mg mb 42 5 40 ((P, PEN c i ti b tb z tz np) :: (c, listOf cs.toArray nc) :: rest) [.ref P]
      (fun K Q => ∀ D vs xs nD i' ti' b' tb' h' tk', IntsAre vs xs → xs.length ≤ 20 → xs.Nodup → (∀ x ∈ xs, 1 ≤ x ∧ x ≤ 20020) → i ≤ i' → i' ≤ i + 61 → 0 ≤ b' →
        AllLt D ((P, PEN c i' ti' b' tb' z tz np) :: (c, listOf cs.toArray nc) :: rest) →
        K h' ((D, listOf vs.toArray nD) :: (P, PEN c i' ti' b' tb' z tz np) :: (c, listOf cs.toArray nc) :: rest) → Q (.ref D) h' tk') := by
  w_top off
  unfold Tells
  k_fill
  intro dp un gd cn sc a ccd cl outer A₀ base h₀ L m s Q E B F X N T hk hd hu hret
  refine wpAny_call ?_
  k_dflt cell_enter
  k_steps
  rename_i tkz lA hA lA1 DT hB lB1 hC1 hC2 hC3 lF lN d td i1 ti1 b1 tb1 hD tkD d0 d1 i10 i11 b10 F1 N1 hE tkE t1 u1 v1 R1 F2 N2 K2
  unfold Stop
  with_unfolding_all refine' kst_range (σ := NS) (fun q => (lA, listOf q.vs.toArray q.n) :: (P, PEN c q.i q.ti q.b q.tb z tz np) :: (c, listOf cs.toArray nc) :: rest) (fun q => [(Str.ofString "found", .ref lA), (Str.ofString "last", .int q.last q.tl)]) (fun q => IntsAre q.vs q.xs) [Str.ofString "spot"] (NSP i1) ⟨0, tkz, [], [], 0, i1, ti1, b1, tb1⟩ (by rfl) R1 ?small (rangeSize_nat _ _) F2 ?N .nil ?hk ?hp ?turn ?done
  case small => exact small_one (by omega) (by omega) (by omega) (by omega)
  case N => exact fun q hq => N2 q (.tail _ hq)
  case hk => kst_all
  case hp => exact ⟨rfl, fun _ h => (nomatch h), List.nodup_nil, Int.le_refl _, by simp, Int.le_refl _, by simp, b10⟩
  case turn =>
    rintro ⟨last, tl, vs, xs, n, i, ti, b, tb⟩ pre k t u h tk own hk hpre hown hints hP FF NN
    dsimp only at FF NN hints hown
    simp only [List.cons_append] at NN
    have hro : OwnOff (rest ++ own) [lA, P] := by
      intro q hq b' hb' e
      rcases List.mem_append.mp hq with h | h
      · rcases List.mem_cons.mp hb' with rfl | hb'
        · exact ne_of_allLt lA1.2.2 q h e
        · exact hoff q h b' hb' e
      · refine hown q h b' ?_ e
        rcases List.mem_cons.mp hb' with rfl | hb'
        · exact .head _
        · rw [List.mem_singleton.mp hb']; exact .tail _ (.head _)
    simp only [NSP] at hP
    obtain ⟨p1, p2, p3, p4, p5, p6, p7, p8⟩ := hP
    have hintsLen : vs.length = xs.length := hints.length
    k_steps
    all_goals (
      unfold Stop
      rename (_ : Int) < 6 => h6
      have hm := menu_bd (by assumption) h6
      refine' kst_end (σ := NS) ⟨_, _, _, _, _, _, _, _, _⟩ ?F ?N ?hn ?ho ?ha ?hf ?hk ?hr ?hp
      case N => assumption
      case F => assumption
      case hn => kst_in
      case ho => first | (intro p hp; kst_mem) | kst_anyIn
      case ha => rfl
      case hk => kst_all
      case hf => exact ints_ins hints _ _ _
      case hr =>
        intro z h1 h2 h3
        simp only [List.forall_mem_cons, List.not_mem_nil, false_implies, implies_true, and_true, ne_eq] at h2
        simp only [List.contains_cons, List.contains_nil, Bool.or_false, beq_eq_false_iff_ne, ne_eq] at h3
        simp [kstB, h1, h2, h3]
      case hp => exact nsp_step p1 p2 p3 p4 p5 p6 p7 (by omega) (by omega) (by omega) (by omega) (by assumption))
  case done =>
    rintro ⟨last, tl, vs, xs, n, i2, ti2, b2, tb2⟩ u h tk hints hP FF NN
    dsimp only at FF NN hints
    simp only [NSP, rangeKs_length] at hP
    obtain ⟨p1, p2, p3, p4, p5, p6, p7, p8⟩ := hP
    k_steps
    refine hret lA vs xs n i2 ti2 b2 tb2 h _ hints (by omega) p3 (fun x hx => ?_) (by omega) (by omega) p8 lA1 ⟨by assumption, by assumption⟩
    have := p2 x hx
    omega

theorem numbers_call {w : World} {p : Program} {loose : List Str} {mean : ExcName → Option Value} {mg mb : Str → Option Value} {P c : Addr} {vs : List Value} {ns : List Int} {nc np : Nat}
    {i : Int} {ti : Tok} {b : Int} {tb : Tok} {z : Int} {tz : Tok} {news : List (Addr × Obj)} {g : Obj → List (Addr × Obj)}
    {dp un : Nat} {gd : Option (List Code)} {cn : Str} {cs : Scope} {a : Addr} {ccd : Value} {cl : List (Str × Addr)} {outer : List Env} {A₀ : Around} {base h₀ : Heap} {L : Addr} {m : Str → Option Value} {s : Shared} {Q E : Value → Shared → Prop}
    (B : Below A₀ base outer h₀) (F : Fr h₀ L s.heap m) (X : (hd.heap_39 w.params).In h₀) (N : News h₀ L s.heap news) (T : Top p loose mean mg mb h₀) (hk : cs.kind = .function)
    (U : UpdF P (PEN c i ti b tb z tz np) news g) (hc : (c, listOf vs.toArray nc) ∈ news) (hns : IntsAre vs ns)
    (hpc : @Ne Nat P c) (hlen : ns.length ≤ 63) (hi0 : 0 ≤ i) (hi1 : i ≤ 900) (hb0 : 0 ≤ b) (hz0 : 0 ≤ z) (hz1 : z ≤ 1009)
    (hd' : dp + 5 < recursionLimit) (hu : un + 40 < cLine)
    (ret : ∀ D ws xs nD i' ti' b' tb' h' tk', IntsAre ws xs → xs.length ≤ 20 → xs.Nodup → (∀ x ∈ xs, 1 ≤ x ∧ x ≤ 20020) → i ≤ i' → i' ≤ i + 61 → 0 ≤ b' → (∀ q ∈ g (PEN c i' ti' b' tb' z tz np), q.1 < D) → Fr h₀ L h' m → News h₀ L h' ((D, listOf ws.toArray nD) :: g (PEN c i' ti' b' tb' z tz np)) → Q (.ref D) { s with heap := h', toks := tk' }) :
    wpAny (model PySem.Challenge.rw_nz0263_01.prog w) (ktrTop dp un gd cn cs L a ccd cl outer) (call (.ref 42) [.ref P]) Q E s := by
  obtain ⟨pre, post, rfl, hg, h1, h2⟩ := U.split
  refine numbers_tells w p loose mean mg mb P c vs ns nc np i ti b tb z tz (pre ++ post) ?_ hpc hns hlen hi0 hi1 hb0 hz0 hz1 dp un gd cn cs a ccd cl outer A₀ base h₀ L m s Q E B F X ?_ T hk hd' hu ?_
  · intro q hq b' hb' e
    rw [List.mem_singleton.mp hb'] at e
    rcases List.mem_append.mp hq with h | h
    · exact h1 q h e
    · exact h2 q h e
  · intro q hq
    rcases List.mem_cons.mp hq with rfl | hq
    · exact N _ (List.mem_append.mpr (.inr (.head _)))
    · rcases List.mem_cons.mp hq with rfl | hq
      · exact N _ hc
      · rcases List.mem_append.mp hq with h | h
        · exact N _ (List.mem_append.mpr (.inl h))
        · exact N _ (List.mem_append.mpr (.inr (.tail _ h)))
  · rintro D ws xs nD i' ti' b' tb' h' tk' a1 a2 a3 a4 a5 a6 a7 a8 ⟨f, n⟩
    have hmem : ∀ q ∈ g (PEN c i' ti' b' tb' z tz np), q ∈ (P, PEN c i' ti' b' tb' z tz np) :: (c, listOf vs.toArray nc) :: (pre ++ post) := by
      intro q hq
      rw [hg] at hq
      rcases List.mem_append.mp hq with h | h
      · exact .tail _ (.tail _ (List.mem_append.mpr (.inl h)))
      · rcases List.mem_cons.mp h with rfl | h
        · exact .head _
        · exact .tail _ (.tail _ (List.mem_append.mpr (.inr h)))
    refine ret D ws xs nD i' ti' b' tb' h' tk' a1 a2 a3 a4 a5 a6 a7 (fun q hq => ?_) f fun q hq => ?_
    · have : ∀ l : List (Addr × Obj), AllLt D l → ∀ p ∈ l, p.1 < D := by
        intro l
        induction l with
        | nil => exact fun _ _ h => nomatch h
        | cons x r ih =>
          intro h p hp
          rcases List.mem_cons.mp hp with rfl | hp
          · exact h.1
          · exact ih h.2 p hp
      exact this _ a8 q (hmem q hq)
    · rcases List.mem_cons.mp hq with rfl | hq
      · exact n _ (.head _)
      · exact n _ (.tail _ (hmem q hq))
end Mine


/- part R -/
namespace Mine

abbrev TUP (vs : List Value) (n : Nat) : Obj := { cls := .type "tuple", data := .seq vs.toArray n }

inductive PrsAre (news : List (Addr × Obj)) : List Value → List (Int × Int) → Prop
  | nil : PrsAre news [] []
  | cons {a : Addr} {x y : Int} {t u : Tok} {n : Nat} {vs : List Value} {ps : List (Int × Int)} : (a, TUP [.int x t, .int y u] n) ∈ news → PrsAre news vs ps → PrsAre news (.ref a :: vs) ((x, y) :: ps)

theorem PrsAre.mono {news news' : List (Addr × Obj)} (hs : ∀ p ∈ news, p ∈ news') {vs : List Value} {ps : List (Int × Int)} (h : PrsAre news vs ps) : PrsAre news' vs ps := by
  induction h with
  | nil => exact .nil
  | cons hm _ ih => exact .cons (hs _ hm) ih
theorem PrsAre.length {news : List (Addr × Obj)} {vs : List Value} {ps : List (Int × Int)} (h : PrsAre news vs ps) : vs.length = ps.length := by
  induction h with
  | nil => rfl
  | cons _ _ ih => simp [ih]
theorem PrsAre.append {news : List (Addr × Obj)} {vs ws : List Value} {ps qs : List (Int × Int)} (h : PrsAre news vs ps) (k : PrsAre news ws qs) : PrsAre news (vs ++ ws) (ps ++ qs) := by
  induction h with
  | nil => exact k
  | cons hm _ ih => exact .cons hm ih
theorem PrsAre.snoc {news : List (Addr × Obj)} {vs : List Value} {ps : List (Int × Int)} (h : PrsAre news vs ps) :
    (vs = [] ∧ ps = []) ∨ ∃ us q qs x t y u n, vs = us ++ [.ref q] ∧ ps = qs ++ [(x, y)] ∧ PrsAre news us qs ∧ (q, TUP [.int x t, .int y u] n) ∈ news := by
  induction h with
  | nil => exact .inl ⟨rfl, rfl⟩
  | @cons a x y t u n vs ps hm r ih =>
    rcases ih with ⟨rfl, rfl⟩ | ⟨us, q, qs, x', t', y', u', n', rfl, rfl, hr, hq⟩
    · exact .inr ⟨[], a, [], x, t, y, u, n, rfl, rfl, .nil, hm⟩
    · exact .inr ⟨.ref a :: us, q, (x, y) :: qs, x', t', y', u', n', rfl, rfl, .cons hm hr, hq⟩

structure RS where
  vs : List Value
  ps : List (Int × Int)
  n : Nat

def rstep (ps : List (Int × Int)) (k : Int) : List (Int × Int) :=
  match ps.getLast? with
  | none => [(k, k)]
  | some (a, b) => if k ≤ b + 1 then ps.dropLast ++ [(a, k)] else ps ++ [(k, k)]

def ranges (ns : List Int) : List (Int × Int) := ns.foldl rstep []

theorem rstep_nil (k : Int) : rstep [] k = [(k, k)] := rfl
theorem rstep_join {qs : List (Int × Int)} {a b k : Int} (h : k ≤ b + 1) : rstep (qs ++ [(a, b)]) k = qs ++ [(a, k)] := by
  unfold rstep; simp [h]
theorem rstep_new {qs : List (Int × Int)} {a b k : Int} (h : ¬ k ≤ b + 1) : rstep (qs ++ [(a, b)]) k = (qs ++ [(a, b)]) ++ [(k, k)] := by
  unfold rstep; simp [h]

theorem rstep_len (ps : List (Int × Int)) (k : Int) : (rstep ps k).length ≤ ps.length + 1 := by
  unfold rstep
  split
  · simp
  · split
    · simp
    · simp
theorem ranges_len' (ns : List Int) : ∀ ps, (ns.foldl rstep ps).length ≤ ps.length + ns.length := by
  induction ns with
  | nil => intro ps; simp
  | cons k r ih => intro ps; have h1 := ih (rstep ps k); have h2 := rstep_len ps k; simp only [List.foldl_cons, List.length_cons]; omega
theorem ranges_len (ns : List Int) : (ranges ns).length ≤ ns.length := by
  have := ranges_len' ns []
  simpa [ranges] using this
theorem ranges_snoc (pre : List Int) (k : Int) : ranges (pre ++ [k]) = rstep (ranges pre) k := by simp [ranges]
theorem mem_r {A B T : Addr × Obj} {rest tl own : List (Addr × Obj)} : ∀ p ∈ [A] ++ ((B :: rest) ++ ([T] ++ tl)), p ∈ T :: A :: B :: (rest ++ (tl ++ own)) := by
  intro p hp
  simp only [List.mem_append, List.mem_cons, List.not_mem_nil, or_false] at *
  rcases hp with h | (h | h) | h | h
  · exact .inr (.inl h)
  · exact .inr (.inr (.inl h))
  · exact .inr (.inr (.inr (.inl h)))
  · exact .inl h
  · exact .inr (.inr (.inr (.inr (.inl h))))
theorem mem_o {A B T : Addr × Obj} {rest tl own : List (Addr × Obj)} : ∀ p ∈ own, p ∈ T :: A :: B :: (rest ++ (tl ++ own)) := fun _ hp =>
  .tail _ (.tail _ (.tail _ (List.mem_append.mpr (.inr (List.mem_append.mpr (.inr hp))))))
theorem allLt_iff {D : Addr} {l : List (Addr × Obj)} : AllLt D l ↔ ∀ p ∈ l, p.1 < D := by
  induction l with
  | nil => exact ⟨fun _ _ h => (nomatch h), fun _ => trivial⟩
  | cons q r ih =>
    constructor
    · intro h p hp
      rcases List.mem_cons.mp hp with rfl | hp
      · exact h.1
      · exact ih.mp h.2 p hp
    · intro h
      exact ⟨h q (.head _), ih.mpr fun p hp => h p (.tail _ hp)⟩
theorem off_new {D lA l : Addr} {rest tl own : List (Addr × Obj)} {o : Obj} (h : lA < D ∧ l < D ∧ AllLt D (rest ++ (tl ++ own))) :
    (∀ q ∈ [((D, o) : Addr × Obj)], ∀ b ∈ lA :: l :: rest.map (·.1), b ≠ q.1) ∧ ∀ q ∈ [((D, o) : Addr × Obj)], ∀ p ∈ own, p.1 ≠ q.1 := by
  obtain ⟨h1, h2, h3⟩ := h
  rw [allLt_iff] at h3
  constructor
  · intro q hq b hb
    rw [List.mem_singleton.mp hq]
    rcases List.mem_cons.mp hb with rfl | hb
    · exact Nat.ne_of_lt h1
    · rcases List.mem_cons.mp hb with rfl | hb
      · exact Nat.ne_of_lt h2
      · obtain ⟨p, hp, rfl⟩ := List.mem_map.mp hb
        exact Nat.ne_of_lt (h3 p (List.mem_append.mpr (.inl hp)))
  · intro q hq p hp
    rw [List.mem_singleton.mp hq]
    exact Nat.ne_of_lt (h3 p (List.mem_append.mpr (.inr (List.mem_append.mpr (.inr hp)))))
theorem drop_cst {B : Addr × Obj} {rest tl : List (Addr × Obj)} : ((B :: rest) ++ tl).drop (rest.length + 1) = tl := by simp
theorem sub_add {T : Addr × Obj} {tl : List (Addr × Obj)} : ∀ p ∈ tl, p ∈ ([T] ++ tl) := fun _ hp => .tail _ hp
theorem mem_add {T : Addr × Obj} {tl : List (Addr × Obj)} : T ∈ ([T] ++ tl) := .head _
section
variable {prog : Program} {w : World} {A : Around} {E : Value → Shared → Prop} {s : Shared} {h₀ : Heap} {L D : Addr} {m : Str → Option Value} {news news' : List (Addr × Obj)}
theorem item_last {value slice : PySem.Expr} {us : List Value} {v : Value} {n : Nat} {t : Tok} {Q : Value → Shared → Prop} (N : News h₀ L s.heap news) (hm : (D, listOf (us ++ [v]).toArray n) ∈ news) (h : Q v s)
    (hs : subscripted slice false (.ref D) (.int (-1) t) = operate [.ref D, .int (-1) t] (getItem (.ref D) (.int (-1) t)) := by with_unfolding_all rfl) :
    wpAny (model prog w) A (subscriptTail value slice (.ref D) (.int (-1) t)) Q E s := by
  have hl : s.heap.IsList D (us ++ [v]).toArray := PySem.IsL.isList (N _ hm).1
  refine tail_any hl.typeIs slot_list_getitem.lookup (wpAny_getItem_list_neg hl (by decide) (by simp; omega) (by decide) (x := v) ?_ h) hs
  have e : ((-1 : Int) + ((us ++ [v]).toArray.size : Nat)).toNat = us.length := by simp; omega
  rw [e]; simp
theorem item_pair0 {value slice : PySem.Expr} {a b : Value} {n : Nat} {t : Tok} {Q : Value → Shared → Prop} (N : News h₀ L s.heap news) (hm : (D, TUP [a, b] n) ∈ news) (h : Q a s)
    (hs : subscripted slice false (.ref D) (.int 0 t) = operate [.ref D, .int 0 t] (getItem (.ref D) (.int 0 t)) := by with_unfolding_all rfl) :
    wpAny (model prog w) A (subscriptTail value slice (.ref D) (.int 0 t)) Q E s := item_tupleT (News.isTup N hm) (by decide) (by decide) (j := 0) rfl rfl h hs
theorem item_pair1 {value slice : PySem.Expr} {a b : Value} {n : Nat} {t : Tok} {Q : Value → Shared → Prop} (N : News h₀ L s.heap news) (hm : (D, TUP [a, b] n) ∈ news) (h : Q b s)
    (hs : subscripted slice false (.ref D) (.int 1 t) = operate [.ref D, .int 1 t] (getItem (.ref D) (.int 1 t)) := by with_unfolding_all rfl) :
    wpAny (model prog w) A (subscriptTail value slice (.ref D) (.int 1 t)) Q E s := item_tupleT (News.isTup N hm) (by decide) (by decide) (j := 1) rfl rfl h hs
theorem set_last {us : List Value} {v v' : Value} {n : Nat} {t : Tok} {Q : Unit → Shared → Prop} (F : Fr h₀ L s.heap m) (N : News h₀ L s.heap news)
    (U : Upd D (listOf (us ++ [v]).toArray n) (listOf (us ++ [v']).toArray n) news news') (h : ∀ h', Fr h₀ L h' m → News h₀ L h' news' → Q () { s with heap := h' }) :
    wpAny (model prog w) A (setItem (.ref D) (.int (-1) t) v') Q E s := by
  obtain ⟨pre, post, rfl, rfl, a, b⟩ := U.split
  have z := N (D, listOf (us ++ [v]).toArray n) (List.mem_append.mpr (.inr (.head _)))
  have e : ((-1 : Int) + ((us ++ [v]).toArray.size : Nat)).toNat = us.length := by simp; omega
  refine ki_setBack z.1 (by decide) (by simp; omega) (by decide) (h _ (F.change (Heap.SameBut.update ..) z.2.1 z.2.2) (ki_turn _ N a b ?_ ?_))
  · rw [e]; apply Array.toList_inj.mp; simp
  · simp
end
local macro_rules | `(tactic| walk_at "subscriptTail") => `(tactic| (k_here; (with_reducible show wpAny _ _ (subscriptTail _ _ (Value.ref _) (Value.int (-1) _)) _ _ _); k_dflt (refine' item_last ?N ?hm ?_; (case N => k_asm); (case hm => k_mem); k_whole)))
local macro_rules | `(tactic| walk_at "subscriptTail") => `(tactic| (k_here; (with_reducible show wpAny _ _ (subscriptTail _ _ (Value.ref _) (Value.int 0 _)) _ _ _); k_dflt (refine' item_pair0 ?N ?hm ?_; (case N => k_asm); (case hm => kst_mem); k_whole)))
local macro_rules | `(tactic| walk_at "subscriptTail") => `(tactic| (k_here; (with_reducible show wpAny _ _ (subscriptTail _ _ (Value.ref _) (Value.int 1 _)) _ _ _); k_dflt (refine' item_pair1 ?N ?hm ?_; (case N => k_asm); (case hm => kst_mem); k_whole)))
local macro_rules | `(tactic| walk_at "call type:tuple") => `(tactic| (k_here; (with_reducible show wpAny _ _ (call (Value.type _) [Value.ref _]) _ _ _); k_dflt (refine' kde_tupleOf ?k1 ?k2 ?k3 ?k4 ?k5 ?_; (case k1 => k_asm); (case k2 => k_asm); (case k3 => exact News.isList (by k_asm) (by k_mem)); (case k5 => rfl); (case k4 => (rw [List.size_toArray]; omega)); k_whole); intro D' h' F' N' l1; (try k_lt l1)))
local macro_rules | `(tactic| walk_at "setItem ref int") => `(tactic| (k_here; (with_reducible show wpAny _ _ (PySem.setItem (Value.ref _) (Value.int (-1) _) _) _ _ _); k_dflt (refine' set_last ?F ?N ?U ?_; (case F => k_asm); (case N => k_asm); (case U => k_upd); k_whole); intro h' F' N'; (try dsimp only [List.nil_append, List.cons_append] at N')))
local macro_rules | `(tactic| walk_at "call builtin:len") => `(tactic| (k_here; (with_reducible show wpAny _ _ (call (Value.builtin "len") [Value.ref _]) _ _ _); k_dflt (refine' kst_len ?k1 ?k2 ?k3 ?k4 ?_; (case k1 => k_asm); (case k2 => k_mem); (case k3 => exact List.length_append); (case k4 => (simp only [List.length_cons, List.length_nil]; omega)))))
local macro_rules | `(tactic| walk_at "pyIter ref") => `(tactic| (k_here; (with_reducible show wpAny _ _ (pyIter (Value.ref _)) (fun it s₂ => LoopAtV _ _ _ _ _ _ _ _ _ it s₂) _ _); refine stop_here ?_))
local macro_rules | `(tactic| walk_at "exec For Name Name cons nil") => `(tactic| (k_here; (rename Fr _ _ _ _ => lF'); (with_unfolding_all refine' For_invVF lF' ?k1 ?k2 ?_; (case k1 => exact rfl); (case k2 => exact rfl); k_whole)))
local macro_rules | `(tactic| walk_at "InvEndG") => `(tactic| (refine stop_here ?_))

set_option maxHeartbeats 4000000 in
theorem ranges_tells (w : World) (p : Program) (loose : List Str) (mean : ExcName → Option Value) (mg mb : Str → Option Value) (l : Addr) (vs : List Value) (ns : List Int) (nl : Nat) (rest : List (Addr × Obj))
    (hns : IntsAre vs ns) (hlen : ns.length ≤ 1000) :
    Tells w p loose mean mg mb 21 5 40 ((l, listOf vs.toArray nl) :: rest) [.ref l]
      (fun K Q => ∀ T us ex h' tk', PrsAre ex us (ranges ns) → OwnOff ex (((l, listOf vs.toArray nl) :: rest).map (·.1)) → AllLt T (((l, listOf vs.toArray nl) :: rest) ++ ex) →
        K h' ((T, TUP us 0) :: (l, listOf vs.toArray nl) :: (rest ++ ex)) → Q (.ref T) h' tk') := by
  w_top off
  unfold Tells
  k_fill
  intro dp un gd cn sc a ccd cl outer A₀ base h₀ L m s Q E B F X N T hk hd hu hret
  refine wpAny_call ?_
  k_dflt cell_enter
  k_steps
  rename_i lA hA lA1 hB lF lN
  unfold Stop
  with_unfolding_all refine' kd_listI (σ := RS) (fun q => [(lA, listOf q.vs.toArray q.n)]) ((l, listOf vs.toArray nl) :: rest) (fun q => [(Str.ofString "out", .ref lA)]) (fun nw q => PrsAre (nw.drop (rest.length + 1)) q.vs q.ps) [] (fun pre q => q.ps = ranges pre) (lA :: l :: rest.map (·.1)) ⟨[], [], 0⟩ (by rfl) (by exact .head _) hns lF lN ?hn ?hadr ?hnil ?hk rfl ?turn ?done
  case hn => exact fun q hq => by simpa using hq
  case hadr => intro q; rfl
  case hnil => exact PrsAre.nil
  case hk => kst_all
  case turn =>
    rintro ⟨us, ps, n⟩ tl pre post k t u h tk own hsplit hkin hsep hoff2 hprs hP FF NN
    dsimp only at FF NN hprs hP
    simp only [List.cons_append, List.nil_append] at NN
    rw [drop_cst] at hprs
    have hpl := hprs.length
    have hnl : ps.length ≤ 1000 := by
      rw [hP]
      refine Nat.le_trans (ranges_len pre) ?_
      rw [hsplit] at hlen
      simp at hlen; omega
    have hro : OwnOff (rest ++ (tl ++ own)) [lA] := by
      intro q hq b' hb' e
      rw [List.mem_singleton.mp hb'] at e
      rcases List.mem_append.mp hq with h | h
      · exact ne_of_allLt lA1.2 q h e
      · exact hoff2 q h lA (.head _) e
    rcases hprs.snoc with ⟨rfl, rfl⟩ | ⟨us, q, qs, x, tx, y, ty, nq, rfl, rfl, hus, hq⟩
    · k_steps
      all_goals (
      unfold Stop
      rename News _ _ _ _ => nE'
      (try simp only [List.push_toArray] at nE')
      refine' kd_end (σ := RS) ⟨_, _, _⟩ [_] hsep ?F ?N ?hn ?ho ?hadr ?hb ?hw ?hk ?hr ?hf ?hp
      case N => exact nE'
      case F => assumption
      case hn => exact mem_r
      case ho => exact mem_o
      case hadr => rfl
      case hb => exact (off_new (by assumption)).1
      case hw => exact (off_new (by assumption)).2
      case hk => kst_all
      case hr =>
        intro z h1 h2 h3
        simp only [List.forall_mem_cons, List.not_mem_nil, false_implies, implies_true, and_true, ne_eq] at h2
        simp [kstB, h1, h2]
      case hf => (dsimp only; rw [drop_cst]; exact .cons mem_add .nil)
      case hp => rw [ranges_snoc, ← hP]; rfl)
    · have hul : us.length ≤ 1000 := by
        simp only [List.length_append, List.length_cons, List.length_nil] at hpl hnl; omega
      have hq2 : (q, TUP [.int x tx, .int y ty] nq) ∈ rest ++ (tl ++ own) := by
        exact List.mem_append.mpr (.inr (List.mem_append.mpr (.inl hq)))
      k_steps
      all_goals (
      unfold Stop
      rename News _ _ _ _ => nE'
      (try simp only [List.push_toArray] at nE')
      refine' kd_end (σ := RS) ⟨_, _, _⟩ [_] hsep ?F ?N ?hn ?ho ?hadr ?hb ?hw ?hk ?hr ?hf ?hp
      case N => exact nE'
      case F => assumption
      case hn => exact mem_r
      case ho => exact mem_o
      case hadr => rfl
      case hb => exact (off_new (by assumption)).1
      case hw => exact (off_new (by assumption)).2
      case hk => kst_all
      case hr =>
        intro z h1 h2 h3
        simp only [List.forall_mem_cons, List.not_mem_nil, false_implies, implies_true, and_true, ne_eq] at h2
        simp [kstB, h1, h2]
      case hf => (dsimp only; rw [drop_cst]); first | exact (hus.mono sub_add).append (.cons mem_add .nil) | exact (hprs.mono sub_add).append (.cons mem_add .nil)
      case hp => (dsimp only; rw [ranges_snoc, ← hP]; first | (rw [rstep_join (by assumption)]; done) | (rw [rstep_new (by assumption)]; done) | (exfalso; simp only [List.length_append, List.length_cons, List.length_nil] at *; omega)))
  case done =>
    rintro ⟨us, ps, n⟩ tl u h tk hofftl hprs hP FF NN
    dsimp only at FF NN hprs hP
    simp only [List.cons_append, List.nil_append] at NN
    rw [drop_cst] at hprs
    have hpl := hprs.length
    have hnl : ps.length ≤ 1000 := by
      rw [hP]
      exact Nat.le_trans (ranges_len ns) hlen
    k_steps
    rename News _ _ _ _ => nE
    rename _ ∧ _ => lt
    obtain ⟨lt1, lt2, lt3⟩ := lt
    refine hret _ us tl _ _ (by rw [← hP]; exact hprs) (fun q hq b hb => hofftl q hq b (.tail _ hb)) ⟨lt2, lt3⟩ ⟨by assumption, fun q hq => ?_⟩
    rcases List.mem_cons.mp hq with rfl | hq
    · exact nE _ (.head _)
    · exact nE _ (.tail _ (.tail _ hq))

theorem ranges_call {w : World} {p : Program} {loose : List Str} {mean : ExcName → Option Value} {mg mb : Str → Option Value} {l : Addr} {vs : List Value} {ns : List Int} {nl : Nat} {news : List (Addr × Obj)}
    {dp un : Nat} {gd : Option (List Code)} {cn : Str} {cs : Scope} {a : Addr} {ccd : Value} {cl : List (Str × Addr)} {outer : List Env} {A₀ : Around} {base h₀ : Heap} {L : Addr} {m : Str → Option Value} {s : Shared} {Q E : Value → Shared → Prop}
    (B : Below A₀ base outer h₀) (F : Fr h₀ L s.heap m) (X : (hd.heap_39 w.params).In h₀) (N : News h₀ L s.heap news) (T : Top p loose mean mg mb h₀) (hk : cs.kind = .function)
    (hm : (l, listOf vs.toArray nl) ∈ news) (hns : IntsAre vs ns) (hlen : ns.length ≤ 1000) (hd' : dp + 5 < recursionLimit) (hu : un + 40 < cLine)
    (ret : ∀ T us ex h' tk', PrsAre ex us (ranges ns) → OwnOff ex (news.map (·.1)) → AllLt T (news ++ ex) → Fr h₀ L h' m → News h₀ L h' ((T, TUP us 0) :: (news ++ ex)) → Q (.ref T) { s with heap := h', toks := tk' }) :
    wpAny (model PySem.Challenge.rw_nz0263_01.prog w) (ktrTop dp un gd cn cs L a ccd cl outer) (call (.ref 21) [.ref l]) Q E s := by
  refine ranges_tells w p loose mean mg mb l vs ns nl news hns hlen dp un gd cn cs a ccd cl outer A₀ base h₀ L m s Q E B F X (fun q hq => ?_) T hk hd' hu ?_
  · rcases List.mem_cons.mp hq with rfl | hq
    · exact N _ hm
    · exact N _ hq
  · rintro T us ex h' tk' a1 a2 a3 ⟨f, n⟩
    refine ret T us ex h' tk' a1 (fun q hq b hb => a2 q hq b (.tail _ hb)) a3.2 f fun q hq => ?_
    rcases List.mem_cons.mp hq with rfl | hq
    · exact n _ (.head _)
    · exact n _ (.tail _ (.tail _ hq))
end Mine


/- part P -/
namespace Mine

inductive KvAre (L : List (Addr × Obj)) : List Value → List (Str × Value) → Prop
  | nil : KvAre L [] []
  | cons {a : Addr} {k : Str} {t : Tok} {v : Value} {n : Nat} {vs : List Value} {kvs : List (Str × Value)} : (a, TUP [.str k t, v] n) ∈ L → KvAre L vs kvs → KvAre L (.ref a :: vs) ((k, v) :: kvs)

theorem KvAre.length {L : List (Addr × Obj)} {vs : List Value} {kvs : List (Str × Value)} (h : KvAre L vs kvs) : vs.length = kvs.length := by
  induction h with
  | nil => rfl
  | cons _ _ ih => simp [ih]
theorem KvAre.at {L : List (Addr × Obj)} {vs : List Value} {kvs : List (Str × Value)} (h : KvAre L vs kvs) : ∀ {i : Nat} {v : Value}, vs[i]? = some v → ∃ a k t x n, v = .ref a ∧ (a, TUP [.str k t, x] n) ∈ L ∧ kvs[i]? = some (k, x) := by
  induction h with
  | nil => intro i v hv; simp at hv
  | @cons a k t x n vs kvs hm _ ih =>
    intro i v hv
    cases i with
    | zero => exact ⟨a, k, t, x, n, by simpa using hv.symm, hm, rfl⟩
    | succ i => exact ih (by simpa using hv)
theorem KvAre.append {L : List (Addr × Obj)} {vs ws : List Value} {ks ls : List (Str × Value)} (h : KvAre L vs ks) (g : KvAre L ws ls) : KvAre L (vs ++ ws) (ks ++ ls) := by
  induction h with
  | nil => exact g
  | cons hm _ ih => exact .cons hm ih

theorem pl_upd_loop : plainId "dict.update.loop" = true := by decide +kernel
theorem en_upd_loop : entryFor table "dict.update.loop" = some Builtin.«dict.update.loop» := entryFor_of_tree (by kernel_rfl)
theorem lk_list_keys : typeLookup (.type "list") "keys" = pure none := by rw [typeLookup_type, builtinLookup_eq_fast]; kernel_rfl

section
variable {prog : Program} {w : World} {A : Around} {E : Value → Shared → Prop} {s : Shared}

theorem list_no_keys {a : Addr} {xs : Array Value} {k : Nat} {Q : Option Value → Shared → Prop}
    (hx : s.heap.get? a = some (listOf xs k)) (hA : A.handled = none)
    (h : ∀ h' tk, (∀ b o, s.heap.get? b = some o → h'.get? b = some o) → Q none { s with heap := h', toks := tk }) :
    wpAny (model prog w) A (getAttr? (.ref a) "keys") Q E s := by
  obtain ⟨hp, g, d, tk, os⟩ := s
  have hT : ∀ tk', (⟨hp, g, d, tk', os⟩ : Shared).TypeIs (.ref a) "list" := fun _ => ⟨_, hx, rfl⟩
  have f1 := sub_AttributeError
  have f3 := F.slot_list_getattribute.lookup
  have f4 := F.slot_list_getattribute.bind (.ref a)
  have f5 := am_list_getattr_none
  unfold getAttr? getAttrBy? getAttrBy
  repeat (any_goals (first | assumption | exact hT _ | ((with_reducible show wpAny _ _ (call (Value.builtin "list.__getattribute__") _ _) _ _ _); refine call_meets F.slot_list_getattribute (hT _) am_entry_list_getattribute (F.args_list_getattribute_2 _ _) (meets_getattribute_miss_list a xs k #[] _ _ lk_list_keys (by decide) (by decide)) ⟨hx, hA, fun h' tk' e hx' => ?_⟩) | wp_step))
  obtain ⟨t', u', he⟩ := hx'.there
  show wpAny _ _ (getattributeRaised _ _ _ _ _ _ _) _ _ _
  unfold getattributeRaised
  repeat (any_goals (first | assumption | wp_step))
  have hk := hx'.of.keeps
  have hTe : (⟨h', g, d, tk', os⟩ : Shared).TypeIs (.ref e) "AttributeError" := ⟨_, he, rfl⟩
  exact h _ _ hk

theorem nodup_take_fresh {kvs : List (Str × Value)} (hn : (kvs.map (·.1)).Nodup) {i : Nat} {k : Str} {x : Value} (h : kvs[i]? = some (k, x)) : stored (kvs.take i) k x = kvs.take (i + 1) := by
  have hi : i < kvs.length := (List.getElem?_eq_some_iff.mp h).1
  have hx : kvs[i] = (k, x) := (List.getElem?_eq_some_iff.mp h).2
  have ht : kvs.take (i + 1) = kvs.take i ++ [(k, x)] := by rw [List.take_add_one, h]; rfl
  unfold stored
  rw [if_neg, ht]
  intro ha
  rw [List.any_eq_true] at ha
  obtain ⟨q, hq, he⟩ := ha
  have he' : q.1 = k := of_decide_eq_true he
  have hsub : (kvs.take i ++ [(k, x)]).map (·.1) = (kvs.map (·.1)).take (i + 1) := by rw [← ht, List.map_take]
  have hn2 : ((kvs.take i ++ [(k, x)]).map (·.1)).Nodup := by rw [hsub]; exact hn.sublist (List.take_sublist _ _)
  rw [List.map_append, List.nodup_append] at hn2
  exact hn2.2.2 q.1 (List.mem_map.mpr ⟨q, hq, rfl⟩) k (by simp) he'

theorem upd_loop {d I l : Addr} {vs : List Value} {kvs : List (Str × Value)} {L : List (Addr × Obj)} {H0 : Heap} {R : Result → Shared → Prop} (hh : A.handled = none) (hdI : d ≠ I) (hlI : l ≠ I) (hld : l ≠ d)
    (hL : ∀ p ∈ L, H0.get? p.1 = some p.2) (hL2 : ∀ p ∈ L, p.1 ≠ d ∧ p.1 ≠ I) (hl0 : H0.IsList l vs.toArray) (hv : KvAre L vs kvs) (hn : (kvs.map (·.1)).Nodup) (hsz : vs.length ≤ 1000)
    (hR : ∀ h' tk', h'.DictOf (strKind prog w) d kvs → (∀ b o, b ≠ d → b ≠ I → H0.get? b = some o → h'.get? b = some o) → R (.ok (.ret .none)) { s with heap := h', toks := tk' }) :
    ∀ (r i : Nat) (h : Heap) (tk : Nat), vs.length - i = r → i ≤ vs.length → h.DictOf (strKind prog w) d (kvs.take i) → h.IsListIter I l i → (∀ b o, b ≠ d → b ≠ I → H0.get? b = some o → h.get? b = some o) →
      codeAny (model prog w) A (.builtin "dict.update.loop" ⟨[.ref d, .ref I, rawInt (i : Int), .none], []⟩) R { s with heap := h, toks := tk } := by
  have W := Walks.list (prog := prog) (w := w) (A := A.in1) hh I l hlI vs.toArray
  have hsz' : vs.toArray.size = vs.length := List.size_toArray ..
  have hkl := hv.length
  intro r
  induction r with
  | zero =>
    intro i h tk hr hi hd hit hk
    have e : i = vs.length := by omega
    have hl : h.IsList l vs.toArray := hl0.at fun o e => hk l o hld hlI e
    refine codeAny_builtin en_upd_loop ?_
    rw [Around.under_plainId pl_upd_loop _]
    show wpAny _ A.in1 (pyNext (.ref I) >>= _) _ _ _
    refine wpAny_bind (W.done _ _ _ ⟨by rw [hsz', ← e]; exact hit, hl⟩ fun h' tk' hk' => ?_)
    have hd' : h'.DictOf (strKind prog w) d kvs := by
      obtain ⟨o, es, ep, ho, r⟩ := hd
      rw [e, hkl, List.take_length] at r
      exact ⟨o, es, ep, hk' d o (by simpa using hdI) ho, r⟩
    show wpAny _ A.in1 (Builtin.Dict.addKeywords d [] >>= _) _ _ _
    refine wpAny_bind (wpAny_pure ?_)
    exact wpAny_pure (hR h' tk' hd' fun b o h1 h2 q => hk' b o (by simpa using h2) (hk b o h1 h2 q))
  | succ r ih =>
    intro i h tk hr hi hd hit hk
    have hlt : i < vs.length := by omega
    have hl : h.IsList l vs.toArray := hl0.at fun o e => hk l o hld hlI e
    refine codeAny_builtin en_upd_loop ?_
    rw [Around.under_plainId pl_upd_loop _]
    show wpAny _ A.in1 (pyNext (.ref I) >>= _) _ _ _
    refine wpAny_bind (W.item i _ _ _ (by rw [hsz']; exact hlt) ⟨hit, hl⟩ fun v h' tk' hP hst' hk' => ?_)
    have hvi : vs[i]? = some v := by simpa using hP
    obtain ⟨a, k, t, x, n, rfl, hm, hkv⟩ := hv.at hvi
    have ha : h'.get? a = some (TUP [.str k t, x] n) := hk' a _ (by simpa using (hL2 _ hm).2) (hk a _ (hL2 _ hm).1 (hL2 _ hm).2 (hL _ hm))
    have hd1 : h'.DictOf (strKind prog w) d (kvs.take i) := by
      obtain ⟨o, es, ep, ho, r⟩ := hd
      exact ⟨o, es, ep, hk' d o (by simpa using hdI) ho, r⟩
    have hTa : (⟨h', s.gens, s.drawn, tk', s.os⟩ : Shared).TypeIs (.ref a) "tuple" := ⟨_, ha, rfl⟩
    refine wpAny_bind (wpAny_holding ?_)
    refine wpAny_bind (wpAny_tryCatch ?_)
    unfold Builtin.Dict.pairItems
    refine wpAny_bind (wpAny_typeOf hTa ?_)
    rw [if_pos (by decide)]
    refine wpAny_bind (wpAny_seqItems ha rfl (wpAny_pure ?_))
    show wpAny _ _ (holding [.str k t, x] (dictSet d (.str k t) x)) _ _ _
    refine wpAny_holding (wpAny_dictSet_pairs (strKind_is prog w k t) hd1 (fun h2 hd2 hs2 => ?_) (by rw [sizeLine_eq, List.length_take]; omega))
    rw [nodup_take_fresh hn hkv] at hd2
    refine wpAny_pure ⟨Code.quiet_builtin _ (by decide +kernel), ?_⟩
    have hit2 : h2.IsListIter I l (i + 1) := hst'.1.at fun o e => hs2.extBut I o (Ne.symm hdI) e
    exact ih (i + 1) h2 _ (by omega) hlt hd2 hit2 fun b o h1 h3 q => hs2.extBut b o h1 (hk' b o (by simpa using h3) (hk b o h1 h3 q))

theorem call_dict_pairs {l : Addr} {vs : List Value} {n : Nat} {kvs : List (Str × Value)} {L : List (Addr × Obj)} {Q : Value → Shared → Prop} (hh : A.handled = none) (hl : s.heap.get? l = some (listOf vs.toArray n))
    (hL : ∀ p ∈ L, s.heap.get? p.1 = some p.2) (hv : KvAre L vs kvs) (hn : (kvs.map (·.1)).Nodup) (hsz : vs.length ≤ 1000)
    (h : ∀ h' tk', h'.DictOf (strKind prog w) s.heap.objs.size kvs → (∀ b o, s.heap.get? b = some o → h'.get? b = some o) → Q (.ref s.heap.objs.size) { s with heap := h', toks := tk' }) :
    wpAny (model prog w) A (call (.type "dict") [.ref l]) Q E s := by
  refine callType_codes (Q₁ := fun obj s₁ => obj = .ref s.heap.objs.size ∧ s₁ = { s with heap := s.heap.push { cls := .type "dict", data := .dict #[] } }) F.kt_called_dict (F.kt_typeCall_dict_1 _) F.entry_dict_init (kt_code_dict_new _ ⟨rfl, rfl⟩) ?_
  rintro obj s₁ ⟨rfl, rfl⟩
  have hnew : (s.heap.push { cls := .type "dict", data := .dict #[] }).DictOf (strKind prog w) s.heap.objs.size [] := Heap.DictOf.new s.heap
  have hl1 : (s.heap.push { cls := .type "dict", data := .dict #[] }).get? l = some (listOf vs.toArray n) := Heap.get?_push_of_some _ hl
  have hlt := Heap.lt_size hl
  refine ⟨hnew.typeIs, F.args_dict_init_2 _ _, ?_⟩
  unfold Builtin.«dict.__init__»
  refine wpAny_bind ?_
  unfold Builtin.Dict.selfAndRest
  refine wpAny_bind (wpAny_notOrdered_dict hnew.typeIs ?_)
  show wpAny _ _ (pure (s.heap.objs.size, [Value.ref l])) _ _ _
  refine wpAny_pure ?_
  show wpAny _ _ (Builtin.Dict.updateFrom "dict.__init__" s.heap.objs.size (.ref l) [] .none) _ _ _
  unfold Builtin.Dict.updateFrom
  refine wpAny_bind (wpAny_typeOf (PySem.IsL.isList hl1).typeIs ?_)
  rw [if_pos (by decide)]
  refine wpAny_bind ?_
  refine list_no_keys hl1 hh fun h2 tk2 hk2 => ?_
  simp only [Option.isNone_none, if_true]
  refine wpAny_bind (wpAny_rule ?_)
  have hl2 : h2.IsList l vs.toArray := (PySem.IsL.isList hl1).at fun o e => hk2 l o e
  have hd2 : h2.DictOf (strKind prog w) s.heap.objs.size [] := by
    obtain ⟨o, es, ep, ho, r⟩ := hnew
    exact ⟨o, es, ep, hk2 _ _ ho, r⟩
  have hdlt : s.heap.objs.size < h2.objs.size := by
    obtain ⟨o, es, ep, ho, r⟩ := hd2
    exact Heap.lt_size ho
  refine wpAny_bind (wpAny_pyIter_list hl2 ?_)
  refine wpAny_pure ⟨Code.quiet_builtin _ (by decide +kernel), ?_⟩
  have hup : ∀ b o, s.heap.get? b = some o → (h2.push { cls := .type "list_iterator", data := .fields #[.ref l, .int 0 0] }).get? b = some o :=
    fun b o e => Heap.get?_push_of_some _ (hk2 b o (Heap.get?_push_of_some _ e))
  refine upd_loop (prog := prog) (w := w) (A := A.in1) (s := ⟨h2.push { cls := .type "list_iterator", data := .fields #[.ref l, .int 0 0] }, s.gens, s.drawn, tk2, s.os⟩) (vs := vs) (kvs := kvs) (L := L) (H0 := h2.push { cls := .type "list_iterator", data := .fields #[.ref l, .int 0 0] }) (d := s.heap.objs.size) (I := h2.objs.size) (l := l) hh
    (Nat.ne_of_lt hdlt) (Nat.ne_of_lt (Nat.lt_trans hlt hdlt)) (Nat.ne_of_lt hlt) (fun p hp => hup _ _ (hL p hp)) (fun p hp => ⟨Nat.ne_of_lt (Heap.lt_size (hL p hp)), Nat.ne_of_lt (Nat.lt_trans (Heap.lt_size (hL p hp)) hdlt)⟩)
    (hl2.push _) hv hn hsz (fun h' tk' hd' hk' => ?_) vs.length 0 _ _ (by omega) (Nat.zero_le _) ?_ ⟨_, Heap.get?_push_size _ rfl, rfl, rfl⟩ (fun _ _ _ _ e => e)
  · refine ⟨rfl, h h' tk' hd' fun b o e => hk' b o (Nat.ne_of_lt (Heap.lt_size e)) (Nat.ne_of_lt (Nat.lt_trans (Heap.lt_size e) hdlt)) (hup b o e)⟩
  · exact hd2.push _

theorem dict_K {h₀ : Heap} {L l : Addr} {m : Str → Option Value} {news : List (Addr × Obj)} {vs : List Value} {n : Nat} {kvs : List (Str × Value)} {Q : Value → Shared → Prop} (hh : A.handled = none) (F : Fr h₀ L s.heap m) (N : News h₀ L s.heap news) (hbig : h₀.NoLimit)
    (hm : (l, listOf vs.toArray n) ∈ news) (hv : KvAre news vs kvs) (hn : (kvs.map (·.1)).Nodup) (hsz : vs.length ≤ 1000)
    (h : ∀ D o h' tk', Fr h₀ L h' m → News h₀ L h' ((D, o) :: news) → (∀ p ∈ news, p.1 < D) → o.IsDictOf (strKind prog w) kvs → (D == sysModules) = false → Q (.ref D) { s with heap := h', toks := tk' }) :
    wpAny (model prog w) A (call (.type "dict") [.ref l]) Q E s := by
  refine call_dict_pairs hh (N _ hm).1 (fun p hp => (N p hp).1) hv hn hsz fun h' tk' hd hk => ?_
  obtain ⟨o, ho, hd'⟩ := Heap.dictOf_iff.mp hd
  have F' : Fr h₀ L h' m := F.keeps hk
  have hnew : h₀.get? s.heap.objs.size = none := by
    cases e : h₀.get? s.heap.objs.size with
    | none => rfl
    | some o' => exact absurd (Heap.lt_size (F.keep _ _ e)) (Nat.lt_irrefl _)
  refine h _ o h' tk' F' (fun p hp => ?_) (fun p hp => Heap.lt_size (N p hp).1) hd' (F.notModules (modules_low hbig))
  rcases List.mem_cons.mp hp with rfl | hp
  · exact ⟨ho, Nat.ne_of_gt F.ns.lt, hnew⟩
  · exact ⟨hk _ _ (N p hp).1, (N p hp).2⟩
end
end Mine


/- part E -/
namespace Mine

def has (ss : List Str) (k : Str) : Prop := (ss.any fun x => x == k) = true
def Opt (c : Prop) (L : List (Addr × Obj)) (key : Str) (G : Value → Prop) (e : List Value) : Prop := (c ∧ ∃ a t y n, e = [.ref a] ∧ (a, TUP [.str key t, y] n) ∈ L ∧ G y) ∨ (¬ c ∧ e = [])
def GMin (xs : List Int) (y : Value) : Prop := ∃ k t, y = .int k t ∧ k ∈ xs ∧ ∀ a ∈ xs, k ≤ a
def GMax (xs : List Int) (y : Value) : Prop := ∃ k t, y = .int k t ∧ k ∈ xs ∧ ∀ a ∈ xs, a ≤ k
def GAll (L : List (Addr × Obj)) (xs : List Int) (y : Value) : Prop := ∃ T us ns, y = .ref T ∧ (T, TUP us 0) ∈ L ∧ PrsAre L us (ranges ns) ∧ ns.Perm xs ∧ ns.Pairwise (· ≤ ·)
def GCount (xs : List Int) (y : Value) : Prop := ∃ t, y = .int (xs.length : Int) t
def ESP (L : List (Addr × Obj)) (xs : List Int) (ss : List Str) (es : List Value) : Prop :=
  ∃ e1 e2 e3 e4, Opt (xs ≠ [] ∧ has ss (Str.ofString "MIN")) L (Str.ofString "MIN") (GMin xs) e1 ∧ Opt (xs ≠ [] ∧ has ss (Str.ofString "MAX")) L (Str.ofString "MAX") (GMax xs) e2 ∧
    Opt (xs ≠ [] ∧ (has ss (Str.ofString "ALL") ∨ ss = [])) L (Str.ofString "ALL") (GAll L xs) e3 ∧ Opt (has ss (Str.ofString "COUNT")) L (Str.ofString "COUNT") (GCount xs) e4 ∧ es = e1 ++ (e2 ++ (e3 ++ e4))

theorem opt_no {c : Prop} {L : List (Addr × Obj)} {key : Str} {G : Value → Prop} (h : ¬ c) : Opt c L key G [] := Or.inr ⟨h, rfl⟩
theorem opt_yes {c : Prop} {L : List (Addr × Obj)} {key : Str} {G : Value → Prop} {a : Addr} {t : Tok} {y : Value} {n : Nat} (h : c) (hg : G y) (hm : (a, TUP [.str key t, y] n) ∈ L) : Opt c L key G [.ref a] := Or.inl ⟨h, a, t, y, n, rfl, hm, hg⟩
theorem prs_mono {news news' : List (Addr × Obj)} {vs : List Value} {ps : List (Int × Int)} (h : PrsAre news vs ps) (hs : ∀ p ∈ news, p ∈ news') : PrsAre news' vs ps := h.mono hs
theorem len0 {ss : List Str} (h : (ss.length : Int) = 0) : ss = [] := List.eq_nil_of_length_eq_zero (by omega)
theorem no_all {xs : List Int} {ss : List Str} {k : Str} (h : (ss.any fun x => x == k) = false) (hn : (ss.length : Int) ≠ 0) : ¬ (xs ≠ [] ∧ (has ss k ∨ ss = [])) := by
  rintro ⟨_, h1 | rfl⟩
  · unfold has at h1; rw [h] at h1; exact Bool.false_ne_true h1
  · exact hn rfl
theorem has_t {ss : List Str} {k : Str} (h : (ss.any fun x => x == k) = true) : has ss k := h
theorem has_f {ss : List Str} {k : Str} (h : (ss.any fun x => x == k) = false) : ¬ has ss k := fun q => by unfold has at q; rw [h] at q; exact Bool.false_ne_true q
theorem no_min {xs : List Int} {ss : List Str} {k : Str} (h : (ss.any fun x => x == k) = false) : ¬ (xs ≠ [] ∧ has ss k) := fun q => has_f h q.2
local macro_rules | `(tactic| kst_in) => `(tactic| ((repeat (first | with_reducible exact sub_refl | with_reducible exact sub_nil | with_reducible exact sub_left | with_reducible exact sub_right | with_reducible refine sub_keep ?_ | with_reducible refine sub_skip ?_)); done))
local macro_rules | `(tactic| k_all) => `(tactic| (refine List.forall_mem_append.mpr ⟨ne_of_allLt ?_, OwnOff.ne (by assumption) (by k_memK)⟩; first | assumption | exact And.right (by assumption) | exact And.right (And.right (by assumption)) | exact And.right (And.right (And.right (by assumption)))))
local macro_rules | `(tactic| walk_at "call builtin:len") => `(tactic| (k_here; (with_reducible show wpAny _ _ (call (Value.builtin "len") [Value.ref _]) _ _ _); k_dflt (refine' kst_len ?k1 ?k2 ?k3 ?k4 ?_; (case k1 => k_asm); (case k2 => k_mem); (case k3 => exact StrsAre.length (by assumption)); (case k4 => omega))))
local macro_rules | `(tactic| walk_at "call ref") => `(tactic| (k_here; (with_reducible show wpAny _ _ (PySem.call (Value.ref 21) [Value.ref _]) _ _ _); k_dflt ((refine' ranges_call ?k1 ?k2 ?k3 ?k4 ?k5 ?k6 ?hm ?ns ?q1 ?hd ?hu ?_); (case k1 => k_asm); (case k2 => k_asm); (case k3 => k_asm); (case k4 => k_asm); (case k5 => k_asm); (case k6 => first | exact rfl | assumption); (case hm => k_mem); (case ns => assumption); (case q1 => omega); (case hd => ktr_room); (case hu => ktr_units)); intro T' us' ex' h' tk' pr' of' lt' F' N'; (try simp only [List.cons_append] at N' lt' pr'); (try simp only [List.map_cons] at of'); (try simp only [AllLt] at lt')))

set_option maxHeartbeats 8000000 in
theorem esearch_tells (w : World) (p : Program) (loose : List Str) (mean : ExcName → Option Value) (mg mb : Str → Option Value) (nA wA : Addr) (vs : List Value) (xs : List Int) (nn : Nat) (ws : List Value) (ss : List Str) (nw : Nat) (rest : List (Addr × Obj))
    (hns : IntsAre vs xs) (hlen : xs.length ≤ 20) (hws : StrsAre ws ss) (hwl : ss.length ≤ 100) :
    Tells w p loose mean mg mb 28 8 80 ((nA, listOf vs.toArray nn) :: (wA, listOf ws.toArray nw) :: rest) [.ref nA, .ref wA]
      (fun K Q => ∀ D (es : List Value) n L' h' tk', ESP L' xs ss es → (∀ p ∈ (nA, listOf vs.toArray nn) :: (wA, listOf ws.toArray nw) :: rest, p ∈ L') → (D, listOf es.toArray n) ∈ L' → K h' L' → Q (.ref D) h' tk') := by
  w_top off
  unfold Tells
  k_fill
  intro dp un gd cn sc a ccd cl outer A₀ base h₀ L m s Q E B F X N T hk hd hu hret
  refine wpAny_call ?_
  k_dflt cell_enter
  rcases Nat.eq_zero_or_pos xs.length with hx0 | hx0
  · obtain rfl := List.eq_nil_of_length_eq_zero hx0
    cases hns
    have hnn : ∀ c : Prop, ¬ (([] : List Int) ≠ [] ∧ c) := fun c h => h.1 rfl
    k_steps
    all_goals (
      rename News h₀ _ _ _ => nE'
      (try simp only [List.push_toArray, List.nil_append, List.cons_append] at nE')
      refine' hret _ _ _ _ _ _ ⟨[], [], [], _, Or.inr ⟨hnn _, rfl⟩, Or.inr ⟨hnn _, rfl⟩, Or.inr ⟨hnn _, rfl⟩, ?o4, rfl⟩ ?sub ?mem ⟨by assumption, nE'⟩
      case sub => kst_in
      case mem => k_mem
      case o4 => first | (refine' opt_yes ?c1 ?c2 ?c3; (case c1 => exact has_t (by assumption)); (case c3 => k_mem); (case c2 => exact ⟨_, rfl⟩)) | (refine opt_no ?_; exact has_f (by assumption)))
  have hne : xs ≠ [] := fun h => by rw [h] at hx0; exact Nat.lt_irrefl _ hx0
  k_steps
  all_goals (
    rename News h₀ _ _ _ => nE'
    (try simp only [List.push_toArray, List.nil_append, List.cons_append] at nE')
    refine' hret _ _ _ _ _ _ ⟨_, _, _, _, ?o1, ?o2, ?o3, ?o4, rfl⟩ ?sub ?mem ⟨by assumption, nE'⟩
    case o4 => first | (refine' opt_yes ?c1 ?c2 ?c3; (case c1 => exact has_t (by assumption)); (case c3 => k_mem); (case c2 => exact ⟨_, rfl⟩)) | (refine opt_no ?_; exact has_f (by assumption))
    case o1 => first | (refine' opt_yes ?c1 ?c2 ?c3; (case c1 => exact ⟨hne, has_t (by assumption)⟩); (case c3 => k_mem); (case c2 => exact ⟨_, _, rfl, by assumption, by assumption⟩)) | (refine opt_no ?_; exact no_min (by assumption))
    case o2 => first | (refine' opt_yes ?c1 ?c2 ?c3; (case c1 => exact ⟨hne, has_t (by assumption)⟩); (case c3 => k_mem); (case c2 => exact ⟨_, _, rfl, by assumption, by assumption⟩)) | (refine opt_no ?_; exact no_min (by assumption))
    case o3 => first
      | (refine' opt_yes ?c1 ?c2 ?c3; (case c1 => exact ⟨hne, Or.inl (has_t (by assumption))⟩); (case c3 => k_mem); (case c2 => exact ⟨_, _, _, rfl, by k_mem, prs_mono (by assumption) (by (intro p hp; kst_mem)), by assumption, by assumption⟩))
      | (refine' opt_yes ?c1 ?c2 ?c3; (case c1 => exact ⟨hne, Or.inr (len0 (by assumption))⟩); (case c3 => k_mem); (case c2 => exact ⟨_, _, _, rfl, by k_mem, prs_mono (by assumption) (by (intro p hp; kst_mem)), by assumption, by assumption⟩))
      | (refine opt_no ?_; exact no_all (by assumption) (by assumption))
    case sub => kst_in
    case mem => k_mem)

theorem esearch_call {w : World} {p : Program} {loose : List Str} {mean : ExcName → Option Value} {mg mb : Str → Option Value} {nA wA : Addr} {vs : List Value} {xs : List Int} {nn : Nat} {ws : List Value} {ss : List Str} {nw : Nat} {news : List (Addr × Obj)}
    {dp un : Nat} {gd : Option (List Code)} {cn : Str} {cs : Scope} {a : Addr} {ccd : Value} {cl : List (Str × Addr)} {outer : List Env} {A₀ : Around} {base h₀ : Heap} {L : Addr} {m : Str → Option Value} {s : Shared} {Q E : Value → Shared → Prop}
    (B : Below A₀ base outer h₀) (F : Fr h₀ L s.heap m) (X : (hd.heap_39 w.params).In h₀) (N : News h₀ L s.heap news) (T : Top p loose mean mg mb h₀) (hk : cs.kind = .function)
    (hm : (nA, listOf vs.toArray nn) ∈ news) (hm2 : (wA, listOf ws.toArray nw) ∈ news) (hns : IntsAre vs xs) (hlen : xs.length ≤ 20) (hws : StrsAre ws ss) (hwl : ss.length ≤ 100) (hd' : dp + 8 < recursionLimit) (hu : un + 80 < cLine)
    (ret : ∀ D (es : List Value) n L' h' tk', ESP L' xs ss es → (∀ p ∈ news, p ∈ L') → (D, listOf es.toArray n) ∈ L' → Fr h₀ L h' m → News h₀ L h' L' → Q (.ref D) { s with heap := h', toks := tk' }) :
    wpAny (model PySem.Challenge.rw_nz0263_01.prog w) (ktrTop dp un gd cn cs L a ccd cl outer) (call (.ref 28) [.ref nA, .ref wA]) Q E s := by
  refine esearch_tells w p loose mean mg mb nA wA vs xs nn ws ss nw news hns hlen hws hwl dp un gd cn cs a ccd cl outer A₀ base h₀ L m s Q E B F X (fun q hq => ?_) T hk hd' hu ?_
  · rcases List.mem_cons.mp hq with rfl | hq
    · exact N _ hm
    · rcases List.mem_cons.mp hq with rfl | hq
      · exact N _ hm2
      · exact N _ hq
  · rintro D es n L' h' tk' a1 a2 a3 ⟨f, k⟩
    exact ret D es n L' h' tk' a1 (fun q hq => a2 q (.tail _ (.tail _ hq))) a3 f k
end Mine


/- part C -/
namespace Mine
open Sem (wp)

theorem wp_execs_app {M : Model} {Γ : PySem.Ctx} {env : Env} {l2 : List Stmt} {Q : Flow → Pos → Shared → Prop} {E : Value → Pos → Shared → Prop} : ∀ (l1 : List Stmt) (p : Pos) (s : Shared),
    wp M Γ (execs l1 env) (fun f p' s' => match f with | .next => wp M Γ (execs l2 env) Q E p' s' | f => Q f p' s') E p s → wp M Γ (execs (l1 ++ l2) env) Q E p s
  | [], p, s, h => h
  | a :: l1, p, s, h => by
    show wp M Γ (exec a env >>= _) Q E p s
    have h' : wp M Γ (exec a env >>= fun f => match f with | .next => execs l1 env | f => pure f) (fun f p' s' => match f with | .next => wp M Γ (execs l2 env) Q E p' s' | f => Q f p' s') E p s := h
    rw [Sem.wp_bind'] at h' ⊢
    refine Sem.wp_mono M Γ _ (fun f p' s' hf => ?_) (fun _ _ _ x => x) p s h'
    cases f with
    | next => exact wp_execs_app l1 p' s' hf
    | ret v => exact hf
    | brk => exact hf
    | cont => exact hf

theorem execs_app {M : Model} {A : Around} {env : Env} {l1 l2 : List Stmt} {Q : Flow → Shared → Prop} {E : Value → Shared → Prop} {s : Shared}
    (h : wpAny M A (execs l1 env) (fun f s' => match f with | .next => wpAny M A (execs l2 env) Q E s' | f => Q f s') E s) : wpAny M A (execs (l1 ++ l2) env) Q E s := fun Γ p hΓ => by
  refine wp_execs_app l1 p s (Sem.wp_mono M Γ _ (fun f p' s' hf => ?_) (fun _ _ _ x => x) p s (h Γ p hΓ))
  cases f with
  | next => exact hf Γ p' hΓ
  | ret v => exact hf
  | brk => exact hf
  | cont => exact hf

/-- what the statements ahead of a cut leave behind: the frame but for one name, a ledger -/
def Cut (h₀ : Heap) (L : Addr) (m : Str → Option Value) (xs : List Str) (J : List (Addr × Obj) → Prop) (s : Shared) (f : Flow) (s' : Shared) : Prop :=
  f = .next ∧ ∃ (h' : Heap) (tk' : Nat) (u : Str → Option Value) (Lj : List (Addr × Obj)), s' = { s with heap := h', toks := tk' } ∧ Fr h₀ L h' (fun y => if xs.contains y then u y else m y) ∧ News h₀ L h' Lj ∧ J Lj

theorem cut {M : Model} {A : Around} {env : Env} {l1 l2 : List Stmt} {Q : Flow → Shared → Prop} {E : Value → Shared → Prop} {s : Shared} {h₀ : Heap} {L : Addr} {m : Str → Option Value} (xs : List Str) (J : List (Addr × Obj) → Prop)
    (_F : Fr h₀ L s.heap m) (h1 : wpAny M A (execs l1 env) (Cut h₀ L m xs J s) E s)
    (h2 : ∀ (h' : Heap) (tk' : Nat) (u : Str → Option Value) (Lj : List (Addr × Obj)), Fr h₀ L h' (fun y => if xs.contains y then u y else m y) → News h₀ L h' Lj → J Lj → wpAny M A (execs l2 env) Q E { s with heap := h', toks := tk' }) :
    wpAny M A (execs (l1 ++ l2) env) Q E s := by
  refine execs_app (wpAny_mono h1 (fun f s' h => ?_) fun _ _ x => x)
  obtain ⟨rfl, h', tk', u, Lj, rfl, F, N, j⟩ := h
  exact h2 h' tk' u Lj F N j

theorem cut_end {h₀ : Heap} {L : Addr} {m m' : Str → Option Value} {xs : List Str} {J : List (Addr × Obj) → Prop} {s : Shared} {h' : Heap} {tk' : Nat} {Lj : List (Addr × Obj)}
    (F : Fr h₀ L h' m') (N : News h₀ L h' Lj) (hm : ∀ y, xs.contains y = false → m' y = m y) (j : J Lj) : Cut h₀ L m xs J s .next { s with heap := h', toks := tk' } := by
  refine ⟨rfl, h', tk', m', Lj, rfl, ?_, N, j⟩
  have e : (fun y => if xs.contains y = true then m' y else m y) = m' := by
    funext y
    cases h : xs.contains y with
    | true => simp
    | false => simp [hm y h]
  rw [e]
  exact F

/-- what pairs tells, as keys and worths -/
def OptK (c : Prop) (key : Str) (G : Value → Prop) (k : List (Str × Value)) : Prop := (c ∧ ∃ y, k = [(key, y)] ∧ G y) ∨ (¬ c ∧ k = [])
def KVP (L : List (Addr × Obj)) (xs : List Int) (ss : List Str) (kvs : List (Str × Value)) : Prop :=
  ∃ k1 k2 k3 k4, OptK (xs ≠ [] ∧ has ss (Str.ofString "MIN")) (Str.ofString "MIN") (GMin xs) k1 ∧ OptK (xs ≠ [] ∧ has ss (Str.ofString "MAX")) (Str.ofString "MAX") (GMax xs) k2 ∧
    OptK (xs ≠ [] ∧ (has ss (Str.ofString "ALL") ∨ ss = [])) (Str.ofString "ALL") (GAll L xs) k3 ∧ OptK (has ss (Str.ofString "COUNT")) (Str.ofString "COUNT") (GCount xs) k4 ∧ kvs = k1 ++ (k2 ++ (k3 ++ k4))
theorem opt_kv {c : Prop} {L : List (Addr × Obj)} {key : Str} {G : Value → Prop} {e : List Value} (h : Opt c L key G e) : ∃ k, KvAre L e k ∧ OptK c key G k := by
  rcases h with ⟨hc, a, t, y, n, rfl, hm, hg⟩ | ⟨hc, rfl⟩
  · exact ⟨[(key, y)], .cons hm .nil, .inl ⟨hc, y, rfl, hg⟩⟩
  · exact ⟨[], .nil, .inr ⟨hc, rfl⟩⟩
theorem esp_kv {L : List (Addr × Obj)} {xs : List Int} {ss : List Str} {es : List Value} (h : ESP L xs ss es) : ∃ kvs, KvAre L es kvs ∧ KVP L xs ss kvs := by
  obtain ⟨e1, e2, e3, e4, o1, o2, o3, o4, rfl⟩ := h
  obtain ⟨k1, a1, b1⟩ := opt_kv o1
  obtain ⟨k2, a2, b2⟩ := opt_kv o2
  obtain ⟨k3, a3, b3⟩ := opt_kv o3
  obtain ⟨k4, a4, b4⟩ := opt_kv o4
  exact ⟨_, a1.append (a2.append (a3.append a4)), k1, k2, k3, k4, b1, b2, b3, b4, rfl⟩
theorem kvp_nodup {L : List (Addr × Obj)} {xs : List Int} {ss : List Str} {kvs : List (Str × Value)} (h : KVP L xs ss kvs) : (kvs.map (·.1)).Nodup := by
  obtain ⟨k1, k2, k3, k4, o1, o2, o3, o4, rfl⟩ := h
  rcases o1 with ⟨_, y1, rfl, _⟩ | ⟨_, rfl⟩ <;> rcases o2 with ⟨_, y2, rfl, _⟩ | ⟨_, rfl⟩ <;> rcases o3 with ⟨_, y3, rfl, _⟩ | ⟨_, rfl⟩ <;> rcases o4 with ⟨_, y4, rfl, _⟩ | ⟨_, rfl⟩ <;>
    (simp only [List.cons_append, List.nil_append, List.append_nil, List.map_cons, List.map_nil]; decide)
theorem kvp_len {L : List (Addr × Obj)} {xs : List Int} {ss : List Str} {kvs : List (Str × Value)} (h : KVP L xs ss kvs) : kvs.length ≤ 4 := by
  obtain ⟨k1, k2, k3, k4, o1, o2, o3, o4, rfl⟩ := h
  rcases o1 with ⟨_, y1, rfl, _⟩ | ⟨_, rfl⟩ <;> rcases o2 with ⟨_, y2, rfl, _⟩ | ⟨_, rfl⟩ <;> rcases o3 with ⟨_, y3, rfl, _⟩ | ⟨_, rfl⟩ <;> rcases o4 with ⟨_, y4, rfl, _⟩ | ⟨_, rfl⟩ <;> simp

def isT (p : Addr × Obj) : Bool := match p.2.data with
  | .seq _ _ => p.2.cls == .type "tuple"
  | _ => false
theorem isT_tup {a : Addr} {vs : List Value} {n : Nat} : isT (a, TUP vs n) = true := by unfold isT; simp
theorem mem_filt {L : List (Addr × Obj)} {a : Addr} {vs : List Value} {n : Nat} (h : (a, TUP vs n) ∈ L) : (a, TUP vs n) ∈ L.filter isT := List.mem_filter.mpr ⟨h, isT_tup⟩
theorem kv_filt {L : List (Addr × Obj)} {vs : List Value} {kvs : List (Str × Value)} (h : KvAre L vs kvs) : KvAre (L.filter isT) vs kvs := by
  induction h with
  | nil => exact .nil
  | cons hm _ ih => exact .cons (mem_filt hm) ih
theorem kv_mono {L L' : List (Addr × Obj)} {vs : List Value} {kvs : List (Str × Value)} (h : KvAre L vs kvs) (hs : ∀ p ∈ L, p ∈ L') : KvAre L' vs kvs := by
  induction h with
  | nil => exact .nil
  | cons hm _ ih => exact .cons (hs _ hm) ih
theorem prs_filt {L : List (Addr × Obj)} {vs : List Value} {ps : List (Int × Int)} (h : PrsAre L vs ps) : PrsAre (L.filter isT) vs ps := by
  induction h with
  | nil => exact .nil
  | cons hm _ ih => exact .cons (mem_filt hm) ih
theorem optk_mono {c : Prop} {key : Str} {G G' : Value → Prop} {k : List (Str × Value)} (h : OptK c key G k) (hg : ∀ y, G y → G' y) : OptK c key G' k := by
  rcases h with ⟨hc, y, rfl, g⟩ | h
  · exact .inl ⟨hc, y, rfl, hg y g⟩
  · exact .inr h
theorem gall_filt {L : List (Addr × Obj)} {xs : List Int} {y : Value} (h : GAll L xs y) : GAll (L.filter isT) xs y := by
  obtain ⟨T, us, ns, rfl, hm, hp, h1, h2⟩ := h
  exact ⟨T, us, ns, rfl, mem_filt hm, prs_filt hp, h1, h2⟩
theorem kvp_filt {L : List (Addr × Obj)} {xs : List Int} {ss : List Str} {kvs : List (Str × Value)} (h : KVP L xs ss kvs) : KVP (L.filter isT) xs ss kvs := by
  obtain ⟨k1, k2, k3, k4, o1, o2, o3, o4, e⟩ := h
  exact ⟨k1, k2, k3, k4, o1, o2, optk_mono o3 fun _ => gall_filt, o4, e⟩
theorem off_cell {h₀ h : Heap} {Lf c : Addr} {o : Obj} {v : Option Value} {L : List (Addr × Obj)} (N : News h₀ Lf h L) (hm : (c, o) ∈ L) (hd : o.data = .cell v) : ∀ p ∈ L.filter isT, p.1 ≠ c := by
  intro p hp e
  obtain ⟨h1, h2⟩ := List.mem_filter.mp hp
  have a := (N p h1).1
  rw [e, (N _ hm).1] at a
  have e2 : o = p.2 := Option.some.inj a
  unfold isT at h2
  rw [← e2, hd] at h2
  exact Bool.false_ne_true h2
theorem ne_cell {h₀ h : Heap} {Lf c D : Addr} {o : Obj} {its : Array Value} {n : Nat} {v : Option Value} {L : List (Addr × Obj)} (N : News h₀ Lf h L) (hD : (D, listOf its n) ∈ L) (hm : (c, o) ∈ L) (hd : o.data = .cell v) : @Ne Nat D c := by
  intro e
  have a := (N _ hD).1
  dsimp only at a
  rw [e, (N _ hm).1] at a
  have e2 : o = listOf its n := Option.some.inj a
  rw [e2] at hd
  cases hd
theorem ownoff5 {L : List (Addr × Obj)} {a b c d e : Addr} (h1 : ∀ p ∈ L, p.1 ≠ a) (h2 : ∀ p ∈ L, p.1 ≠ b) (h3 : ∀ p ∈ L, p.1 ≠ c) (h4 : ∀ p ∈ L, p.1 ≠ d) (h5 : ∀ p ∈ L, p.1 ≠ e) : OwnOff L [a, b, c, d, e] := by
  intro p hp x hx
  simp only [List.mem_cons, List.not_mem_nil, or_false] at hx
  rcases hx with rfl | rfl | rfl | rfl | rfl
  · exact h1 p hp
  · exact h2 p hp
  · exact h3 p hp
  · exact h4 p hp
  · exact h5 p hp
theorem kv_small {L : List (Addr × Obj)} {L2 : List (Addr × Obj)} {xs : List Int} {ss : List Str} {vs : List Value} {kvs : List (Str × Value)} (h : KvAre L vs kvs) (k : KVP L2 xs ss kvs) : vs.length ≤ 1000 := by
  have := h.length; have := kvp_len k; omega

theorem kv_nil_inv {L : List (Addr × Obj)} {vs : List Value} (h : KvAre L vs []) : vs = [] := by cases h; rfl
theorem kv_cons_inv {L : List (Addr × Obj)} {vs : List Value} {k : Str} {v : Value} {kvs : List (Str × Value)} (h : KvAre L vs ((k, v) :: kvs)) : ∃ a t n ws, vs = .ref a :: ws ∧ (a, TUP [.str k t, v] n) ∈ L ∧ KvAre L ws kvs := by
  cases h with
  | cons hm r => exact ⟨_, _, _, _, rfl, hm, r⟩
theorem optk_pos {xs : List Int} {p : Prop} {key : Str} {G : Value → Prop} {k : List (Str × Value)} (hx : xs ≠ []) (o : OptK (xs ≠ [] ∧ p) key G k) : (p ∧ ∃ y, k = [(key, y)] ∧ G y) ∨ (¬ p ∧ k = []) := by
  rcases o with ⟨h, r⟩ | ⟨h, r⟩
  · exact .inl ⟨h.2, r⟩
  · exact .inr ⟨fun q => h ⟨hx, q⟩, r⟩
theorem optk_nil {p : Prop} {key : Str} {G : Value → Prop} {k : List (Str × Value)} (o : OptK (([] : List Int) ≠ [] ∧ p) key G k) : k = [] := by
  rcases o with ⟨h, r⟩ | ⟨h, r⟩
  · exact absurd rfl h.1
  · exact r
theorem has_b {ss : List Str} {k : Str} (h : has ss k) : (ss.any fun x => x == k) = true := h
theorem nhas_b {ss : List Str} {k : Str} (h : ¬ has ss k) : (ss.any fun x => x == k) = false := by
  cases e : (ss.any fun x => x == k) with
  | true => exact absurd e h
  | false => rfl
end Mine


/- part X -/
namespace Mine
theorem rangeKs_take {a : Int} {n i : Nat} (h : i < n) : (rangeKs a n).take (i + 1) = (rangeKs a n).take i ++ [a + (i : Int)] := by
  have hk : (rangeKs a n)[i]? = some (a + (i : Int)) := by simp [rangeKs, h]
  simp [List.take_add_one, hk]
section
variable {prog : Program} {w : World} {A : Around} {E : Value → Shared → Prop} {s : Shared}

theorem ext_loop {S I : Addr} {vs : List Value} {a : Int} {n : Nat} {H0 : Heap} {R : Result → Shared → Prop} (hh : A.handled = none) (hSI : @Ne Nat S I) (hsz : vs.length + n ≤ 1000)
    (hR : ∀ h' tk' ws c', IntsAre ws (rangeKs a n) → h'.get? S = some (listOf (vs ++ ws).toArray c') → (∀ b o, b ≠ S → b ≠ I → H0.get? b = some o → h'.get? b = some o) → R (.ok (.ret .none)) { s with heap := h', toks := tk' }) :
    ∀ (r i : Nat) (h : Heap) (tk : Nat) (ws : List Value) (c : Nat), n - i = r → i ≤ n → IsRangeIter h I (a + (i : Nat) * 1) ((n : Int) - (i : Nat)) 1 → h.get? S = some (listOf (vs ++ ws).toArray c) → IntsAre ws ((rangeKs a n).take i) →
      (∀ b o, b ≠ S → b ≠ I → H0.get? b = some o → h.get? b = some o) → codeAny (model prog w) A (.builtin "list.extend.loop" ⟨[.ref S, .ref I, .none], []⟩) R { s with heap := h, toks := tk } := by
  have W := Walks.range (prog := prog) (w := w) (A := A.in1) hh I a 1 n
  intro r
  induction r with
  | zero =>
    intro i h tk ws c hr hi hit hS hws hk
    have e : i = n := by omega
    subst e
    refine codeAny_builtin F.entry_extend_loop ?_
    rw [Around.under_plainId F.plain_extend_loop _]
    show wpAny _ A.in1 (pyNext (.ref I) >>= _) _ _ _
    refine wpAny_bind (W.done _ _ _ hit fun h' tk' hk' => ?_)
    have hl : (rangeKs a i).take i = rangeKs a i := List.take_of_length_le (Nat.le_of_eq (rangeKs_length _ _))
    rw [hl] at hws
    exact wpAny_pure (hR h' tk' ws c hws (hk' S _ (by simpa using hSI) hS) fun b o h1 h2 q => hk' b o (by simpa using h2) (hk b o h1 h2 q))
  | succ r ih =>
    intro i h tk ws c hr hi hit hS hws hk
    have hlt : i < n := by omega
    refine codeAny_builtin F.entry_extend_loop ?_
    rw [Around.under_plainId F.plain_extend_loop _]
    show wpAny _ A.in1 (pyNext (.ref I) >>= _) _ _ _
    refine wpAny_bind (W.item i _ _ _ hlt hit fun v h' tk' hP hst' hk' => ?_)
    obtain ⟨t, rfl⟩ := hP
    have hS' := hk' S _ (by simpa using hSI) hS
    have hwl : ws.length ≤ n := by rw [hws.length, List.length_take, rangeKs_length]; omega
    show wpAny _ A.in1 (updateSeq S (·.push _) >>= _) _ _ _
    refine wpAny_bind ?_
    refine wpAny_updateSeq hS' rfl (wpAny_pure ⟨plainId_quiet F.plain_extend_loop _, ?_⟩) (by rw [sizeLine_eq, List.size_toArray, List.length_append]; omega) (by show (Array.push _ _).size ≤ sizeLine + 1; rw [sizeLine_eq, Array.size_push, List.size_toArray, List.length_append]; omega)
    have e1 : a + (i : Int) * 1 = a + (i : Int) := by omega
    have q := PySem.IsL.update hS' (·.push (Value.int (a + (i : Int) * 1) t))
    rw [List.push_toArray, List.append_assoc] at q
    refine ih (i + 1) _ _ (ws ++ [.int (a + (i : Int) * 1) t]) _ (by omega) hlt ((Heap.get?_update_other _ _ hSI).trans hst') q ?_ fun b o h1 h2 q => (Heap.get?_update_other _ _ (Ne.symm h1)).trans (hk' b o (by simpa using h2) (hk b o h1 h2 q))
    rw [rangeKs_take hlt, e1]
    exact IntsAre.append hws (.cons _ t .nil)

theorem extend_range {D r : Addr} {vs : List Value} {c : Nat} {a b : Int} {t u v : Tok} {n : Nat} {Q : Value → Shared → Prop} (hh : A.handled = none) (hD : s.heap.get? D = some (listOf vs.toArray c)) (hr : IsRange s.heap r a b 1 t u v)
    (hsmall : Builtin.Range.small a b 1 = true) (hn : Builtin.Range.rangeSize a b 1 = (n : Int)) (hsz : vs.length + n ≤ 1000)
    (h : ∀ h' tk' ws c', IntsAre ws (rangeKs a n) → h'.get? D = some (listOf (vs ++ ws).toArray c') → (∀ b o, b ≠ D → s.heap.get? b = some o → h'.get? b = some o) → Q .none { s with heap := h', toks := tk' }) :
    wpAny (model prog w) A (call (.builtin "list.extend") [.ref D, .ref r]) Q E s := by
  have hDr : @Ne Nat D r := fun e => by rw [e, hr] at hD; simp at hD
  have hDlt : D < s.heap.objs.size := Heap.lt_size hD
  have hDI : @Ne Nat D s.heap.objs.size := Nat.ne_of_lt hDlt
  refine wpAny_call (codeAny_call_builtin PySem.F.slot_list_extend.plain PySem.F.entry_list_extend (PySem.F.slot_list_extend.check _ _ _ _ _ _ _ _ ⟨_, hD, rfl⟩ (PySem.F.args_list_extend_2 _ _) ?_))
  show wpAny _ A.in1 (Builtin.List.listExtendWith (.ref D) (.ref r) .none) _ _ s
  have key : ∀ (h₁ : Heap) (c₁ tk : Nat), IsRangeIter h₁ s.heap.objs.size (a + ((0 : Nat) : Int) * 1) ((n : Int) - ((0 : Nat) : Int)) 1 → (∀ b o, b ≠ D → s.heap.get? b = some o → h₁.get? b = some o) →
      h₁.get? D = some (listOf vs.toArray c₁) → codeAny (model prog w) A (.builtin "list.extend.loop" ⟨[.ref D, .ref s.heap.objs.size, .none], []⟩) (wants Q E) { s with heap := h₁, toks := tk } := by
    intro h₁ c₁ tk hit hk hD₁
    refine ext_loop (S := D) (I := s.heap.objs.size) (vs := vs) (a := a) (n := n) (H0 := h₁) hh hDI hsz (fun h' tk' ws c' hws hD' hk' => h h' tk' ws c' hws hD' fun b o hb e => hk' b o hb (Nat.ne_of_lt (Heap.lt_size e)) (hk b o hb e)) n 0 h₁ tk [] c₁ rfl (Nat.zero_le _) hit (by simpa using hD₁) (by simpa using .nil) fun _ _ _ _ e => e
  unfold Builtin.List.listExtendWith
  refine wpAny_bind (wpAny_typeOf (T := "range") ⟨_, hr, rfl⟩ ?_)
  have h1 : Builtin.List.listSameRef (.ref D) (.ref r) = false := by simpa [Builtin.List.listSameRef] using hDr
  have h2 : (Value.type "range" == Value.type "list") = false := by decide
  have h3 : (Value.type "range" == Value.type "tuple") = false := by decide
  simp only [h1, h2, h3, Bool.or_false, Bool.false_eq_true, if_false]
  refine wpAny_bind (wpAny_pyIter_range hr hsmall ?_)
  refine wpAny_bind (wpAny_holding (wpAny_hint_range (n := n) (Heap.get?_push_of_some _ hr) hn (by omega) ?_))
  have hit₁ : IsRangeIter (s.heap.push { cls := .type "range_iterator", data := .fields #[rawInt a, rawInt (Builtin.Range.rangeSize a b 1), rawInt 1] }) s.heap.objs.size (a + ((0 : Nat) : Int) * 1) ((n : Int) - ((0 : Nat) : Int)) 1 := by
    show IsRangeIter _ _ _ _ _; rw [hn]; simpa using Heap.get?_push_size _ rfl
  have hS₁ := Heap.get?_push_of_some { cls := .type "range_iterator", data := .fields #[rawInt a, rawInt (Builtin.Range.rangeSize a b 1), rawInt 1] } hD
  refine wpAny_ite_split (fun _ => ?_) (fun _ => wpAny_pure ⟨plainId_quiet F.plain_extend_loop _, key _ c _ hit₁ (fun b o _ e => Heap.get?_push_of_some _ e) hS₁⟩)
  refine wpAny_bind (wpAny_rule ?_)
  refine wpAny_bind ?_
  show wpAny _ _ (updateSeq D (·.push .none) >>= fun _ => updateSeq D (·.pop)) _ _ _
  refine wpAny_bind (wpAny_updateSeq hS₁ rfl ?_ (by rw [sizeLine_eq, List.size_toArray]; omega) (by show (Array.push _ _).size ≤ sizeLine + 1; rw [sizeLine_eq, Array.size_push, List.size_toArray]; omega))
  have hS₂ := PySem.IsL.update (l := D) hS₁ (·.push Value.none)
  refine wpAny_updateSeq hS₂ rfl ?_ (by rw [sizeLine_eq, Array.size_push, List.size_toArray]; omega) (by show (Array.pop _).size ≤ sizeLine + 1; rw [sizeLine_eq, Array.size_pop, Array.size_push, List.size_toArray]; omega)
  have hS₃ := PySem.IsL.update (l := D) hS₂ (·.pop)
  rw [Array.pop_push] at hS₃
  refine wpAny_pure ⟨plainId_quiet F.plain_extend_loop _, key _ _ _ ?_ (fun b o hb e => ?_) hS₃⟩
  · exact (Heap.get?_update_other _ _ hDI).trans ((Heap.get?_update_other _ _ hDI).trans hit₁)
  · exact (Heap.get?_update_other _ _ (Ne.symm hb)).trans ((Heap.get?_update_other _ _ (Ne.symm hb)).trans (Heap.get?_push_of_some _ e))

theorem extend_range_K {h₀ : Heap} {L D r : Addr} {m : Str → Option Value} {news : List (Addr × Obj)} {g : Obj → List (Addr × Obj)} {vs : List Value} {c : Nat} {a b : Int} {t u v : Tok} {n : Nat} {Q : Value → Shared → Prop}
    (hh : A.handled = none) (F : Fr h₀ L s.heap m) (N : News h₀ L s.heap news) (U : UpdF D (listOf vs.toArray c) news g) (hr : IsRange s.heap r a b 1 t u v)
    (hsmall : Builtin.Range.small a b 1 = true) (hn : Builtin.Range.rangeSize a b 1 = (n : Int)) (hsz : vs.length + n ≤ 1000)
    (h : ∀ h' tk' ws c', IntsAre ws (rangeKs a n) → Fr h₀ L h' m → News h₀ L h' (g (listOf (vs ++ ws).toArray c')) → Q .none { s with heap := h', toks := tk' }) :
    wpAny (model prog w) A (call (.builtin "list.extend") [.ref D, .ref r]) Q E s := by
  obtain ⟨pre, post, rfl, hg, h1, h2⟩ := U.split
  have z := N (D, listOf vs.toArray c) (List.mem_append.mpr (.inr (.head _)))
  refine extend_range hh z.1 hr hsmall hn hsz fun h' tk' ws c' hws hD' hk => ?_
  refine h h' tk' ws c' hws ⟨F.ns.at fun o e => hk L o (Ne.symm z.2.1) e, fun b o e => hk b o (fun q => ?_) (F.keep b o e), F.above⟩ ?_
  · have := z.2.2
    rw [q] at e
    rw [e] at this
    cases this
  · rw [hg]
    intro p hp
    rcases List.mem_append.mp hp with h3 | h3
    · have q := N p (List.mem_append.mpr (.inl h3))
      exact ⟨hk _ _ (h1 p h3) q.1, q.2⟩
    · rcases List.mem_cons.mp h3 with rfl | h3
      · exact ⟨hD', z.2⟩
      · have q := N p (List.mem_append.mpr (.inr (.tail _ h3)))
        exact ⟨hk _ _ (h2 p h3) q.1, q.2⟩
end
end Mine


/- part Z -/
namespace Mine
def seg (p : Int × Int) : List Int := rangeKs p.1 (p.2 + 1 - p.1).toNat
def flat (ps : List (Int × Int)) : List Int := ps.flatMap seg
def okp : Int → List (Int × Int) → Prop
  | _, [] => True
  | l, p :: r => l + 1 < p.1 ∧ p.1 ≤ p.2 ∧ okp p.2 r
def lastOf : Int → List (Int × Int) → Int
  | l, [] => l
  | _, p :: r => lastOf p.2 r
theorem lastOf_snoc (p : Int × Int) : ∀ (ps : List (Int × Int)) (l : Int), lastOf l (ps ++ [p]) = p.2
  | [], _ => rfl
  | q :: r, l => lastOf_snoc p r q.2
theorem okp_split {p : Int × Int} {post : List (Int × Int)} : ∀ (ps : List (Int × Int)) (l : Int), okp l (ps ++ p :: post) → lastOf l ps + 1 < p.1 ∧ p.1 ≤ p.2
  | [], _, h => ⟨h.1, h.2.1⟩
  | q :: r, _, h => okp_split r q.2 h.2.2
theorem okp_snoc {p : Int × Int} : ∀ (ps : List (Int × Int)) (l : Int), okp l ps → lastOf l ps + 1 < p.1 → p.1 ≤ p.2 → okp l (ps ++ [p])
  | [], _, _, h1, h2 => ⟨h1, h2, trivial⟩
  | q :: r, _, h, h1, h2 => ⟨h.1, h.2.1, okp_snoc r q.2 h.2.2 h1 h2⟩
theorem okp_pre {p : Int × Int} {post : List (Int × Int)} : ∀ (ps : List (Int × Int)) (l : Int), okp l (ps ++ p :: post) → okp l ps
  | [], _, _ => trivial
  | q :: r, _, h => ⟨h.1, h.2.1, okp_pre r q.2 h.2.2⟩
theorem flat_snoc (ps : List (Int × Int)) (p : Int × Int) : flat (ps ++ [p]) = flat ps ++ seg p := by simp [flat]
theorem seg_mem {a b x : Int} : x ∈ seg (a, b) ↔ a ≤ x ∧ x ≤ b := by
  unfold seg rangeKs
  simp only [List.mem_map, List.mem_range]
  constructor
  · rintro ⟨i, hi, rfl⟩; omega
  · rintro ⟨h1, h2⟩; exact ⟨(x - a).toNat, by omega, by omega⟩
theorem seg_one (k : Int) : seg (k, k) = [k] := by
  unfold seg rangeKs
  have : (k + 1 - k).toNat = 1 := by omega
  simp [this, List.range_succ]
theorem seg_join {a b : Int} (h : a ≤ b) : seg (a, b + 1) = seg (a, b) ++ [b + 1] := by
  unfold seg rangeKs
  have e : (b + 1 + 1 - a).toNat = (b + 1 - a).toNat + 1 := by omega
  simp only [e, List.range_succ, List.map_append, List.map_cons, List.map_nil]
  congr 2
  omega
theorem rstep_good {ps : List (Int × Int)} {pre : List Int} {k : Int} (hf : flat ps = pre) (ho : okp (-1) ps) (hk : 1 ≤ k) (hlt : ∀ x ∈ pre, x < k) : flat (rstep ps k) = pre ++ [k] ∧ okp (-1) (rstep ps k) := by
  rcases List.eq_nil_or_concat ps with rfl | ⟨qs, ⟨a, b⟩, rfl⟩
  · subst hf
    refine ⟨?_, ?_⟩
    · show flat [(k, k)] = _
      simp [flat, seg_one]
    · exact ⟨by show (-1 : Int) + 1 < k; omega, Int.le_refl _, trivial⟩
  · rw [List.concat_eq_append] at *
    have hs := okp_split qs _ ho
    have hb : b ∈ pre := by
      rw [← hf, flat_snoc]
      exact List.mem_append.mpr (.inr (seg_mem.mpr ⟨hs.2, Int.le_refl _⟩))
    have hbk := hlt b hb
    by_cases hj : k ≤ b + 1
    · have e : k = b + 1 := by omega
      subst e
      rw [rstep_join hj, flat_snoc, seg_join hs.2, ← List.append_assoc, ← flat_snoc, hf]
      exact ⟨rfl, okp_snoc qs _ (okp_pre qs _ ho) hs.1 (by have := hs.2; show a ≤ b + 1; dsimp only at this; omega)⟩
    · rw [rstep_new hj, flat_snoc, hf, seg_one]
      refine ⟨rfl, okp_snoc _ _ ho ?_ (Int.le_refl _)⟩
      rw [lastOf_snoc]
      show b + 1 < k
      omega
theorem fold_good : ∀ (ns pre : List Int) (ps : List (Int × Int)), flat ps = pre → okp (-1) ps → (∀ x ∈ ns, 1 ≤ x) → (pre ++ ns).Pairwise (· < ·) → flat (ns.foldl rstep ps) = pre ++ ns ∧ okp (-1) (ns.foldl rstep ps)
  | [], pre, ps, hf, ho, _, _ => ⟨by simpa using hf, ho⟩
  | k :: r, pre, ps, hf, ho, h1, hp => by
    have hlt : ∀ x ∈ pre, x < k := fun x hx => (List.pairwise_append.mp hp).2.2 x hx k (.head _)
    obtain ⟨g1, g2⟩ := rstep_good hf ho (h1 k (.head _)) hlt
    have hp' : ((pre ++ [k]) ++ r).Pairwise (· < ·) := by rw [List.append_assoc]; exact hp
    have := fold_good r (pre ++ [k]) (rstep ps k) g1 g2 (fun x hx => h1 x (.tail _ hx)) hp'
    rw [List.append_assoc] at this
    exact this
theorem lt_of_le_nodup : ∀ {ns : List Int}, ns.Pairwise (· ≤ ·) → ns.Nodup → ns.Pairwise (· < ·)
  | [], _, _ => .nil
  | k :: r, h, hn => by
    rw [List.pairwise_cons] at h ⊢
    rw [List.nodup_cons] at hn
    refine ⟨fun x hx => ?_, lt_of_le_nodup h.2 hn.2⟩
    have h1 := h.1 x hx
    have h2 : k ≠ x := fun e => hn.1 (e ▸ hx)
    omega
/-- what the pairs of ALL are -/
theorem ranges_good {ns xs : List Int} (hp : ns.Perm xs) (hs : ns.Pairwise (· ≤ ·)) (hn : xs.Nodup) (hx : ∀ x ∈ xs, 1 ≤ x ∧ x ≤ 20020) : flat (ranges ns) = ns ∧ okp (-1) (ranges ns) ∧ ∀ p ∈ ranges ns, 1 ≤ p.1 ∧ p.2 ≤ 20020 := by
  have h1 := lt_of_le_nodup hs (hp.nodup_iff.mpr hn)
  have hb : ∀ x ∈ ns, 1 ≤ x ∧ x ≤ 20020 := fun x hx' => hx x (hp.mem_iff.mp hx')
  obtain ⟨g1, g2⟩ := fold_good ns [] [] rfl trivial (fun x hx' => (hb x hx').1) h1
  refine ⟨g1, g2, fun p hp' => ?_⟩
  have hle : p.1 ≤ p.2 := by
    obtain ⟨pre, post, e⟩ := List.append_of_mem hp'
    unfold ranges at e
    rw [e] at g2
    exact (okp_split pre _ g2).2
  have m1 : ∀ x ∈ seg p, x ∈ ns := fun x hx' => by
    have g1' : flat (ranges ns) = ns := g1
    rw [← g1']
    exact List.mem_flatMap.mpr ⟨p, hp', hx'⟩
  have a1 := hb p.1 (m1 _ (seg_mem.mpr ⟨Int.le_refl _, hle⟩))
  have a2 := hb p.2 (m1 _ (seg_mem.mpr ⟨hle, Int.le_refl _⟩))
  exact ⟨a1.1, a2.2⟩
theorem sorted_unique {as bs : List Int} (hp : as.Perm bs) (h1 : as.Pairwise (· ≤ ·)) (h2 : bs.Pairwise (· ≤ ·)) : as = bs :=
  hp.eq_of_pairwise (fun a b _ _ x y => Int.le_antisymm x y) h1 h2
theorem seg_len {a b : Int} : (seg (a, b)).length = (b + 1 - a).toNat := by unfold seg; exact rangeKs_length _ _
theorem turn_facts {ns : List Int} {pre post : List (Int × Int)} {a b : Int} (hf : flat (pre ++ (a, b) :: post) = ns) (ho : okp (-1) (pre ++ (a, b) :: post)) (hl : ns.length ≤ 20) :
    lastOf (-1) pre + 1 < a ∧ a ≤ b ∧ (flat pre).length + (b + 1 - a).toNat ≤ 20 ∧ (flat pre).length ≤ 20 := by
  obtain ⟨h1, h2⟩ := okp_split pre _ ho
  have e : flat (pre ++ (a, b) :: post) = flat pre ++ (seg (a, b) ++ flat post) := by simp [flat]
  rw [e] at hf
  have hlen : (flat pre).length + ((seg (a, b)).length + (flat post).length) = ns.length := by rw [← hf, List.length_append, List.length_append]
  rw [seg_len] at hlen
  exact ⟨h1, h2, by omega, by omega⟩
end Mine


/- part Y -/
namespace Mine
structure HS where
  vs : List Value
  xs : List Int
  n : Nat
  last : Int
  tl : Tok

theorem PrsAre.at {L : List (Addr × Obj)} {vs : List Value} {ps : List (Int × Int)} (h : PrsAre L vs ps) : ∀ {i : Nat} {v : Value}, vs[i]? = some v → ∃ q x t y u n, v = .ref q ∧ (q, TUP [.int x t, .int y u] n) ∈ L ∧ ps[i]? = some (x, y) := by
  induction h with
  | nil => intro i v hv; simp at hv
  | @cons a x y t u n vs ps hm _ ih =>
    intro i v hv
    cases i with
    | zero => exact ⟨a, x, t, y, u, n, by simpa using hv.symm, hm, rfl⟩
    | succ i => exact ih (by simpa using hv)

/-- the map ahead of a turn -/
def hmap (xl : Str) (stored : List Str) (u m₀ : Str → Option Value) (l : Int) (t : Tok) : Str → Option Value := fun y => if y = xl then some (.int l t) else if stored.contains y = true then u y else m₀ y

/-- the end of a turn -/
def PTurn (h₀ : Heap) (L D : Addr) (R : List (Addr × Obj)) (xl : Str) (stored : List Str) (m₀ : Str → Option Value) (Pn : HS → Prop) (s₁ : Shared) (f : Flow) (s₂ : Shared) : Prop :=
  f = .next ∧ ∃ (c : HS) (h' : Heap) (tk : Nat) (m' : Str → Option Value), s₂ = { s₁ with heap := h', toks := tk } ∧ Fr h₀ L h' m' ∧ News h₀ L h' ((D, listOf c.vs.toArray c.n) :: R) ∧ IntsAre c.vs c.xs ∧ m' xl = some (.int c.last c.tl) ∧ (∀ z, z ≠ xl → stored.contains z = false → m' z = m₀ z) ∧ Pn c

theorem hmap_eq {xl : Str} {stored : List Str} {m m₀ : Str → Option Value} {l : Int} {t : Tok} (h1 : m xl = some (.int l t)) (h2 : ∀ z, z ≠ xl → stored.contains z = false → m z = m₀ z) : m = hmap xl stored m m₀ l t := by
  funext z
  unfold hmap
  by_cases e : z = xl
  · rw [if_pos e, e, h1]
  · rw [if_neg e]
    cases hc : stored.contains z with
    | true => simp
    | false => rw [if_neg (by simp)]; exact h2 z e hc

section
variable {prog : Program} {w : World} {A : Around} {E : Value → Shared → Prop} {s : Shared} {env : Env} {h₀ : Heap} {target : Expr} {body : List Stmt} {Q : Flow → Shared → Prop}
set_option maxHeartbeats 3200000 in
theorem pairs_loop {L : Addr} {ax D : Addr} {us : List Value} {kT n₀ : Nat} {ps : List (Int × Int)} {cst : List (Addr × Obj)} {m₀ : Str → Option Value} {l₀ : Int} {t₀ : Tok} (xl : Str) (stored : List Str) (P : List (Int × Int) → HS → Prop)
    (hL : env.locals = L) (hh : A.handled = none) (hT : (ax, TUP us kT) ∈ cst) (hps : PrsAre cst us ps) (hD : ∀ p ∈ cst, p.1 ≠ D) (F : Fr h₀ L s.heap m₀) (N : News h₀ L s.heap ((D, listOf #[] n₀) :: cst))
    (hm : m₀ xl = some (.int l₀ t₀)) (hp : P [] ⟨[], [], n₀, l₀, t₀⟩)
    (turn : ∀ (c : HS) (pre : List (Int × Int)) a b post t u (q : Addr) nq (um : Str → Option Value) (s₁ : Shared) R, ps = pre ++ (a, b) :: post → IntsAre c.vs c.xs → P pre c → OwnOff R [D] → @Ne Nat q D →
      Fr h₀ L s₁.heap (hmap xl stored um m₀ c.last c.tl) → News h₀ L s₁.heap ((D, listOf c.vs.toArray c.n) :: (q, TUP [.int a t, .int b u] nq) :: R) →
      wpAny (model prog w) A (assign target env (.ref q)) (fun _ s₃ => wpAny (model prog w) A (execs body env) (PTurn h₀ L D R xl stored m₀ (P (pre ++ [(a, b)])) s₁) E s₃) E s₁)
    (done : ∀ (c : HS) (um : Str → Option Value) h tk, IntsAre c.vs c.xs → P ps c → Fr h₀ L h (hmap xl stored um m₀ c.last c.tl) → News h₀ L h ((D, listOf c.vs.toArray c.n) :: cst) → Q .next { s with heap := h, toks := tk }) :
    wpAny (model prog w) A (pyIter (.ref ax)) (fun it s₂ => LoopAtT prog w A h₀ env target body Q E it s₂) E s := by
  subst hL
  have hot : s.heap.get? ax = some (TUP us kT) := (N _ (.tail _ hT)).1
  have hts : s.heap.IsTuple ax us.toArray := ⟨_, hot, rfl, kT, rfl⟩
  have hne : ax ≠ s.heap.objs.size := Nat.ne_of_lt (Heap.lt_size hot)
  have hDlt : D < s.heap.objs.size := Heap.lt_size (N _ (.head _)).1
  have hul := hps.length
  refine wpAny_pyIter_tuple hts ?_
  have W := Walks.tuple (prog := prog) (w := w) hh s.heap.objs.size ax hne us.toArray
  have hlen : us.toArray.size = us.length := by simp
  rw [hlen] at W
  have hcI : ∀ p ∈ cst, p.1 ≠ s.heap.objs.size := fun p hp => Nat.ne_of_lt (Heap.lt_size (N p (.tail _ hp)).1)
  refine ⟨_, _, _, us.length, _, _, m₀, (D, listOf #[] n₀) :: cst, (fun i m nx => ∃ c : HS, nx = (D, listOf c.vs.toArray c.n) :: cst ∧ IntsAre c.vs c.xs ∧ m xl = some (.int c.last c.tl) ∧ (∀ z, z ≠ xl → stored.contains z = false → m z = m₀ z) ∧ P (ps.take i) c), rfl, W, ?_, ?_, ?_,
    ⟨⟨_, Heap.get?_push_size _ rfl, rfl, rfl⟩, hts.at fun o e => Heap.get?_push_of_some _ e⟩, F.push _, (fun p hp => ⟨Heap.get?_push_of_some _ (N p hp).1, (N p hp).2⟩), (fun i s' v Q' st hQ' => letGo_tupleiter st.1 hQ'), ⟨⟨[], [], n₀, l₀, t₀⟩, rfl, .nil, hm, fun _ _ _ => rfl, by simpa using hp⟩, ?_, ?_⟩
  · intro hm'
    rcases List.mem_cons.mp hm' with e | hm'
    · exact absurd F.ns.lt (e ▸ Nat.lt_irrefl _)
    · exact (N _ (.tail _ hT)).2.1 ((List.mem_singleton.mp hm').symm)
  · intro b hb
    rw [List.mem_singleton.mp hb]
    exact next_is_new F
  · intro p hp' hI
    exact absurd (Heap.lt_size (N p hp').1) ((List.mem_singleton.mp hI) ▸ Nat.lt_irrefl _)
  · rintro i v m₁ news₁ s₁ own hin hP ⟨c, rfl, hints, h1, h2, hPc⟩ hoff hown hget hfp hst F₁ N₁
    have hv : us[i]? = some v := by simpa using hP
    obtain ⟨q, a, ta, b, tb, nq, rfl, hq, hpi⟩ := hps.at hv
    have hI0 : h₀.get? s.heap.objs.size = none := next_is_new F
    have hown' : ∀ p ∈ own.filter (fun p => decide (p.1 = s.heap.objs.size)), p.1 = s.heap.objs.size := fun p hp => by simpa using (List.mem_filter.mp hp).2
    have hs : ps.take (i + 1) = ps.take i ++ [(a, b)] := by rw [List.take_add_one, hpi]; rfl
    have e : ps = ps.take i ++ (a, b) :: ps.drop (i + 1) := by
      have h9 := List.take_append_drop (i + 1) ps
      rw [hs, List.append_assoc] at h9
      exact h9.symm
    have hao : s₁.heap.get? ax = some (TUP us kT) := (N₁ _ (List.mem_append.mpr (.inr (.tail _ hT)))).1
    rw [hmap_eq h1 h2] at F₁
    have hOff : OwnOff (cst ++ own.filter (fun p => decide (p.1 = s.heap.objs.size))) [D] := by
      intro p hp' d hd
      rw [List.mem_singleton.mp hd]
      rcases List.mem_append.mp hp' with h3 | h3
      · exact hD p h3
      · rw [hown' p h3]; exact Ne.symm (Nat.ne_of_lt hDlt)
    have hN : News h₀ env.locals s₁.heap ((D, listOf c.vs.toArray c.n) :: (q, TUP [.int a ta, .int b tb] nq) :: (cst ++ own.filter (fun p => decide (p.1 = s.heap.objs.size)))) := by
      intro p hp'
      rcases List.mem_cons.mp hp' with rfl | hp'
      · exact N₁ _ (List.mem_append.mpr (.inr (.head _)))
      rcases List.mem_cons.mp hp' with rfl | hp'
      · exact N₁ _ (List.mem_append.mpr (.inr (.tail _ hq)))
      rcases List.mem_append.mp hp' with h3 | h3
      · exact N₁ _ (List.mem_append.mpr (.inr (.tail _ h3)))
      · exact N₁ _ (List.mem_append.mpr (.inl (List.mem_filter.mp h3).1))
    refine wpAny_mono (turn c _ a b _ ta tb q nq m₁ s₁ _ e hints hPc hOff (hD _ hq) F₁ hN) (fun _ s₃ h₃ => wpAny_mono h₃ (fun f s₄ h₄ => ?_) fun _ _ x => x) fun _ _ x => x
    obtain ⟨rfl, c', h', tk', m', rfl, F', N', hi', h1', h2', hP'⟩ := h₄
    refine ⟨rfl, h', tk', m', (D, listOf c'.vs.toArray c'.n) :: cst, rfl, F', fun p hp => ?_, fun p hp hI => ?_, c', rfl, hi', h1', h2', by rw [hs]; exact hP'⟩
    · rcases List.mem_append.mp hp with h3 | h3
      · by_cases hI : p.1 = s.heap.objs.size
        · exact N' p (.tail _ (List.mem_append.mpr (.inr (List.mem_filter.mpr ⟨h3, by simpa using hI⟩))))
        · have h4 : p.1 = ax := by
            rcases List.mem_cons.mp (hown p h3) with h5 | h5
            · exact absurd h5 hI
            · exact List.mem_singleton.mp h5
          have h5 : s₁.heap.get? p.1 = some p.2 := hget p h3
          rw [h4, hao] at h5
          have h6 : p = (ax, TUP us kT) := Prod.ext h4 (Option.some.inj h5).symm
          rw [h6]
          exact N' _ (.tail _ (List.mem_append.mpr (.inl hT)))
      · rcases List.mem_cons.mp h3 with rfl | h3
        · exact N' _ (.head _)
        · exact N' _ (.tail _ (List.mem_append.mpr (.inl h3)))
    · rw [List.mem_singleton] at hI
      rcases List.mem_cons.mp hp with rfl | hp
      · exact absurd hI (Nat.ne_of_lt hDlt)
      · exact hcI p hp hI
  · rintro h' tk m' news' F' N' _ ⟨c, rfl, hints, h1, h2, hPc⟩
    rw [hul, List.take_length] at hPc
    rw [hmap_eq h1 h2] at F'
    exact done c m' h' tk hints hPc F' N'
/-- the end of a turn, any state -/
def TEnd (h₀ : Heap) (L : Addr) (own : List (Addr × Obj)) (Jn : (Str → Option Value) → List (Addr × Obj) → Prop) (s₁ : Shared) (f : Flow) (s₂ : Shared) : Prop := f = .next ∧ InvEndG h₀ L Jn own s₁ s₂

set_option maxHeartbeats 3200000 in
theorem tup_iterT {L : Addr} {ax : Addr} {us : List Value} {kT : Nat} {m₀ : Str → Option Value} {news : List (Addr × Obj)} (J : Nat → (Str → Option Value) → List (Addr × Obj) → Prop)
    (hL : env.locals = L) (hh : A.handled = none) (hJT : ∀ i m nx, J i m nx → (ax, TUP us kT) ∈ nx) (F : Fr h₀ L s.heap m₀) (N : News h₀ L s.heap news) (hj : J 0 m₀ news)
    (turn : ∀ i v m₁ news₁ (s₁ : Shared) own, us[i]? = some v → OwnOff own (news₁.map (·.1)) → J i m₁ news₁ → Fr h₀ L s₁.heap m₁ → News h₀ L s₁.heap (news₁ ++ own) →
      wpAny (model prog w) A (assign target env v) (fun _ s₃ => wpAny (model prog w) A (execs body env) (TEnd h₀ L own (J (i + 1)) s₁) E s₃) E s₁)
    (done : ∀ m₁ news₁ h tk, J us.length m₁ news₁ → Fr h₀ L h m₁ → News h₀ L h news₁ → Q .next { s with heap := h, toks := tk }) :
    wpAny (model prog w) A (pyIter (.ref ax)) (fun it s₂ => LoopAtT prog w A h₀ env target body Q E it s₂) E s := by
  subst hL
  have hT := hJT _ _ _ hj
  have hot : s.heap.get? ax = some (TUP us kT) := (N _ hT).1
  have hts : s.heap.IsTuple ax us.toArray := ⟨_, hot, rfl, kT, rfl⟩
  have hne : ax ≠ s.heap.objs.size := Nat.ne_of_lt (Heap.lt_size hot)
  refine wpAny_pyIter_tuple hts ?_
  have W := Walks.tuple (prog := prog) (w := w) hh s.heap.objs.size ax hne us.toArray
  have hlen : us.toArray.size = us.length := by simp
  rw [hlen] at W
  refine ⟨_, _, _, us.length, _, _, m₀, news, J, rfl, W, ?_, ?_, ?_,
    ⟨⟨_, Heap.get?_push_size _ rfl, rfl, rfl⟩, hts.at fun o e => Heap.get?_push_of_some _ e⟩, F.push _, (fun p hp => ⟨Heap.get?_push_of_some _ (N p hp).1, (N p hp).2⟩), (fun i s' v Q' st hQ' => letGo_tupleiter st.1 hQ'), hj, ?_, ?_⟩
  · intro hm'
    rcases List.mem_cons.mp hm' with e | hm'
    · exact absurd F.ns.lt (e ▸ Nat.lt_irrefl _)
    · exact (N _ hT).2.1 ((List.mem_singleton.mp hm').symm)
  · intro b hb
    rw [List.mem_singleton.mp hb]
    exact next_is_new F
  · intro p hp' hI
    exact absurd (Heap.lt_size (N p hp').1) ((List.mem_singleton.mp hI) ▸ Nat.lt_irrefl _)
  · rintro i v m₁ news₁ s₁ own hin hP hJ hoff hown hget hfp hst F₁ N₁
    have hv : us[i]? = some v := by simpa using hP
    have hI0 : h₀.get? s.heap.objs.size = none := next_is_new F
    have hT₁ := hJT _ _ _ hJ
    have hao : s₁.heap.get? ax = some (TUP us kT) := (N₁ _ (List.mem_append.mpr (.inr hT₁))).1
    obtain ⟨⟨oI, hoI, _⟩, _⟩ := id hst
    have hIown : (s.heap.objs.size, oI) ∈ own.filter fun p => decide (p.1 = s.heap.objs.size) := List.mem_filter.mpr ⟨hfp _ (List.mem_cons.mpr (.inl rfl)) hI0 _ hoI, by simp⟩
    have hsep : OwnOff (own.filter fun p => decide (p.1 = s.heap.objs.size)) (news₁.map (·.1)) := by
      intro p hp b hb e
      obtain ⟨q, hq, rfl⟩ := List.mem_map.mp hb
      have h1 : p.1 = s.heap.objs.size := by simpa using (List.mem_filter.mp hp).2
      exact hoff q hq (List.mem_singleton.mpr (e ▸ h1))
    have N₂ : News h₀ env.locals s₁.heap (news₁ ++ own.filter fun p => decide (p.1 = s.heap.objs.size)) := fun p hp => N₁ p ((List.mem_append.mp hp).elim (fun h => List.mem_append.mpr (.inr h)) fun h => List.mem_append.mpr (.inl ((List.mem_filter.mp h).1)))
    refine wpAny_mono (turn i v m₁ news₁ s₁ _ hv hsep hJ F₁ N₂) (fun _ s₃ h₃ => wpAny_mono h₃ (fun f s₄ h₄ => ?_) fun _ _ x => x) fun _ _ x => x
    obtain ⟨rfl, h', tk, m', news', nx, e, F', N', hn, ho, ha, hm⟩ := h₄
    refine ⟨rfl, h', tk, m', nx, e, F', fun p hp => ?_, fun p hp hq => ?_, hm⟩
    · rcases List.mem_append.mp hp with h | h
      · by_cases hI : p.1 = s.heap.objs.size
        · exact N' p (ho p (List.mem_filter.mpr ⟨h, by simpa using hI⟩))
        · have h1 : p.1 = ax := by
            rcases List.mem_cons.mp (hown p h) with h2 | h2
            · exact absurd h2 hI
            · exact List.mem_singleton.mp h2
          have h2 : s₁.heap.get? p.1 = some p.2 := hget p h
          rw [h1, hao] at h2
          have h3 : p = (ax, TUP us kT) := Prod.ext h1 (Option.some.inj h2).symm
          rw [h3]
          exact N' _ (hn _ (hJT _ _ _ hm))
      · exact N' p (hn p h)
    · exact ha _ hIown p.1 (List.mem_map.mpr ⟨p, hp, rfl⟩) (List.mem_singleton.mp hq).symm
  · rintro h' tk m' news' F' N' _ hJ
    exact done m' news' h' tk hJ F' N'
end

/-- between the turns of the loop over two words: two cells and one name may have been changed -/
def SJ (a5 a4 : Addr) (cst : List (Addr × Obj)) (xs : List Str) (M : Str → Option Value) (_i : Nat) (m : Str → Option Value) (nx : List (Addr × Obj)) : Prop :=
  ∃ o3 o4 v3 v4, o3.data = .cell v3 ∧ o4.data = .cell v4 ∧ (∀ z, xs.contains z = false → m z = M z) ∧ nx = (a5, o4) :: (a4, o3) :: cst

theorem sj_end {h₀ h' : Heap} {L a5 a4 : Addr} {cst own news' : List (Addr × Obj)} {xs : List Str} {M m' : Str → Option Value} {i tk : Nat} {s₁ : Shared} {o3 o4 p3 p4 : Obj} {v3 v4 : Option Value} (F : Fr h₀ L h' m') (N : News h₀ L h' news')
    (m4 : (a5, o4) ∈ news') (m3 : (a4, o3) ∈ news') (d4 : o4.data = .cell v4) (d3 : o3.data = .cell v3) (hm : ∀ z, xs.contains z = false → m' z = M z) (hoff : OwnOff own (((a5, p4) :: (a4, p3) :: cst).map (·.1)))
    (hr : ∀ p ∈ cst, p ∈ news') (ho : ∀ p ∈ own, p ∈ news') : TEnd h₀ L own (SJ a5 a4 cst xs M i) s₁ .next { s₁ with heap := h', toks := tk } :=
  ⟨rfl, InvEndG.intro F N ⟨o3, o4, v3, v4, d3, d4, hm, rfl⟩ hoff (fun p hp => by
    rcases List.mem_cons.mp hp with rfl | hp
    · exact m4
    · rcases List.mem_cons.mp hp with rfl | hp
      · exact m3
      · exact hr p hp) ho⟩
theorem cut_map {xs : List Str} {m m' : Str → Option Value} (hm : ∀ y, xs.contains y = false → m' y = m y) : m' = fun y => if xs.contains y = true then m' y else m y := by
  funext y
  cases h : xs.contains y with
  | true => simp
  | false => simp [hm y h]
theorem off_app {own LT : List (Addr × Obj)} {adr all : List Addr} (h1 : OwnOff LT adr) (h2 : OwnOff own all) (hs : ∀ b ∈ adr, b ∈ all) : OwnOff (LT ++ own) adr := by
  intro p hp b hb
  rcases List.mem_append.mp hp with hp | hp
  · exact h1 p hp b hb
  · exact h2 p hp b (hs b hb)
theorem ints_item {vs : List Value} {ns : List Int} (h : IntsAre vs ns) : ∀ {i : Nat} {v : Value}, vs[i]? = some v → ∃ n t, v = .int n t ∧ n ∈ ns := by
  induction h with
  | nil => intro i v hv; simp at hv
  | cons n t _ ih =>
    intro i v hv
    cases i with
    | zero => exact ⟨n, t, by simpa using hv.symm, .head _⟩
    | succ i => obtain ⟨k, u, e, hk⟩ := ih (by simpa using hv); exact ⟨k, u, e, .tail _ hk⟩
theorem any_abs {xs : List Int} {w : Int} {p : Int → Bool} (hw : w ∈ xs) (h : xs.any p = false) (hp : p w = true) : False := by
  rw [List.any_eq_false] at h
  exact h w hw hp
theorem fr_only {h₀ h : Heap} {L : Addr} {m : Str → Option Value} (F : Fr h₀ L h m) (x : Str) (v : Value) (hx : m x = some v) : ∃ u : Str → Option Value, Fr h₀ L h (fun y => if y = x then some v else u y) := by
  refine ⟨m, ?_⟩
  have e : (fun y => if y = x then some v else m y) = m := by
    funext y
    by_cases h : y = x
    · rw [if_pos h, h, hx]
    · rw [if_neg h]
  rw [e]
  exact F
end Mine


/- part G -/
namespace Mine

section
variable {prog : Program} {w : World} {A : Around} {E : Value → Shared → Prop} {s : Shared} {h₀ : Heap} {L : Addr} {m : Str → Option Value} {env : Env}

/-- a source that is a tuple of the ledger -/
def TupSrc (prog : Program) (w : World) (A : Around) (h₀ : Heap) (L : Addr) (m : Str → Option Value) (env : Env) (ct elt : Expr) (x : Str) (scope : Scope) (cl : List (Str × Addr)) (Fin : Shared → List Value → List (Addr × Obj) → Prop) (xv : Value) (s₁ : Shared) : Prop :=
  ∃ (ax : Addr) (its : Array Value) (k : Nat) (news : List (Addr × Obj)), xv = .ref ax ∧ A.handled = none ∧ Fr h₀ L s₁.heap m ∧ News h₀ L s₁.heap news ∧ (ax, ({ cls := .type "tuple", data := .seq its k } : Obj)) ∈ news ∧ its.size ≤ sizeLine ∧
    ∀ g : Heap, LCt.CompRestT prog w A h₀ L m env ct elt x scope cl { s₁ with heap := g } (fun nw => (ax, ({ cls := .type "tuple", data := .seq its k } : Obj)) ∈ nw) (fun i v => its[i]? = some v) (Fin { s₁ with heap := g }) its.size 0 [] news

theorem assign_comp_tup {ct elt iter : Expr} {x y : Str} {px py : Pos} {scope : Scope} {cl : List (Str × Addr)} {pos spos : Pos} {Q : Flow → Shared → Prop} (_F₀ : Fr h₀ L s.heap m) (hLe : env.locals = L)
    (hsw : swapsWith (.ListComp elt [⟨.Name x px, iter, [ct], 0⟩] scope pos) (some (.Name y py)) spos.line env = pure true)
    (hclos : closureFor scope env = pure cl) (hcell : ∀ z ∈ scope.names, z.2 ≠ .cell) (hkind : scope.kind = .function)
    (hnames : ∀ z ∈ scope.names, z.2 = .local → scope.names.lookup z.1 = some .local) (hx : scope.names.lookup x = some .local)
    (hy : env.kindOf y = some .local) (hp : (env.scope.kind == .class || (env.scope.kind == .module && env.locals != env.globals)) = false)
    (h : wpAny (model prog w) A (eval iter env) (TupSrc prog w A h₀ L m env ct elt x scope cl (fun s₂ => LCg.FinA h₀ L m s₂ y Q)) E s)
    (hs : ∀ x, foldedSetIterable iter env x = pure x := by intro _; rfl) :
    wpAny (model prog w) A (exec (.Assign [.Name y py] (.ListComp elt [⟨.Name x px, iter, [ct], 0⟩] scope pos) spos) env) Q E s := by
  subst hLe
  rw [exec_Assign_Name_used _ _ _ _ hsw]
  refine wpAny_bind (wpAny_standAt (wpAny_bind ?_))
  show wpAny _ A (do let _ ← comprehension (.ListComp elt [⟨.Name x px, iter, [ct], 0⟩] scope pos) scope env _ (newList []) false (eval iter env) (some (assign (.Name y py) env))) _ _ s
  refine wpAny_bind (wpAny_mono (wpAny_comprehension_free (use := some (assign (.Name y py) env)) (Q := fun _ s' => Q .next s') rfl hs hclos hkind hnames
    (wpAny_mono h (fun xv s₁ h₁ => ?_) fun _ _ e => e)) (fun _ s' hq => wpAny_pure (wpAny_pure hq)) fun _ _ e => e)
  obtain ⟨ax, its, k, news, rfl, hh, F, N, hm, hsz, R⟩ := h₁
  have hto : s₁.heap.get? ax = some ({ cls := .type "tuple", data := .seq its k } : Obj) := (N _ hm).1
  have ht : s₁.heap.IsTuple ax its := ⟨_, hto, rfl, k, rfl⟩
  have hlt : ax < s₁.heap.objs.size := Heap.lt_size hto
  refine wpAny_pyIter_tuple ht ?_
  have up : ∀ b o, s₁.heap.get? b = some o → (s₁.heap.push { cls := .type "tuple_iterator", data := .fields #[.ref ax, .int 0 0] }).get? b = some o := fun b o e => Heap.get?_push_of_some _ e
  refine LCt.block_T (Walks.tuple hh s₁.heap.objs.size ax (Nat.ne_of_lt hlt) its) hsz (fun i h st => by obtain ⟨o, e, _⟩ := st.1; exact ⟨o, e⟩)
    (fun i h h' o nw st e e' _ Nw S => ⟨by obtain ⟨o', q, r⟩ := st.1; rw [e] at q; cases q; exact ⟨o, e', r⟩, ⟨_, (Nw _ S).1, rfl, k, rfl⟩⟩)
    hcell hkind hx ⟨⟨_, Heap.get?_push_size _ rfl, rfl, rfl⟩, ht.push _⟩ (fun b hb => ?_)
    (F.keeps up) (N.grown up) (Nat.ne_of_lt F.ns.lt) (next_is_new F) (fun p hp => Nat.ne_of_lt (Heap.lt_size (N p hp).1)) hm (R _) ?_
  · show b < (s₁.heap.push _).objs.size
    rw [Heap.size_push]
    rcases List.mem_cons.mp hb with rfl | hb
    · exact Nat.lt_succ_self _
    · rw [List.mem_singleton.mp hb]; exact Nat.lt_succ_of_lt hlt
  · intro D C h' tk m' ys news' F' N' o1 hn hC₀ hD₀ hCL hDL hCD offC fin
    show wpAny _ A (assign (.Name y py) env (.ref D)) _ _ _
    refine wpAny_assign_Name (wpAny_storeName_local hy F'.ns (fun h₂ hn₂ hs₂ => ?_) hp)
    have hL₀ : h₀.get? env.locals = none := Heap.get?_none_of_le F'.above
    have F₂ : Fr h₀ env.locals h₂ (fun z => if z = y then some (.ref D) else m z) := ⟨hn₂, fun b o e => hs₂.extBut b o (fun q => by rw [q, hL₀] at e; cases e) (F'.keep b o e), F'.above⟩
    refine ⟨m', hn.sameBut hs₂ hCL, fun h'' hs'' => fin D h'' _ (F₂.change hs'' hCL hC₀) (fun p hp => ?_) o1⟩
    have z : h₂.get? p.1 = some p.2 := hs₂.extBut _ _ (N' p hp).2.1 (N' p hp).1
    refine ⟨hs''.extBut _ _ ?_ z, (N' p hp).2⟩
    rcases List.mem_cons.mp hp with rfl | hp
    · exact Ne.symm hCD
    · exact offC p hp

theorem comp_restT {ct elt : Expr} {x : Str} {scope : Scope} {cl : List (Str × Addr)} {S : List (Addr × Obj) → Prop} {P : Nat → Value → Prop} {Fin : List Value → List (Addr × Obj) → Prop} {n : Nat} (Inv : Nat → List Value → List (Addr × Obj) → Prop)
    (turn : ∀ i ys news, i < n → Inv i ys news → ∀ v I oI C oC D m₂ h tk (E' : Value → Shared → Prop), P i v → LCg.NsObj oC m₂ → m₂ x = some v → Fr h₀ L h m → News h₀ L h ((I, oI) :: (C, oC) :: (D, LCg.lst ys) :: news) → LCg.Off3 I C D news → ((@Ne Nat I C) ∧ (@Ne Nat I D) ∧ (@Ne Nat C D)) →
      wpAny (model prog w) A (isTrue ct (compEnvC scope cl C env) (eval ct (compEnvC scope cl C env))) (fun ok s' => if ok = true then
        wpAny (model prog w) A (eval elt (compEnvC scope cl C env)) (LCg.CompEnd h₀ L m { s with heap := h, toks := tk } I oI C oC D (LCg.lst ys) S (fun y news' => Inv (i + 1) (ys ++ [y]) news')) E' s'
        else LCg.CompEnd h₀ L m { s with heap := h, toks := tk } I oI C oC D (LCg.lst ys) S (fun _ news' => Inv (i + 1) ys news') Value.none s') E' { s with heap := h, toks := tk })
    (fin : ∀ ys news, Inv n ys news → Fin ys news) : ∀ (j i : Nat) (ys : List Value) (news : List (Addr × Obj)), i + j = n → Inv i ys news → LCt.CompRestT prog w A h₀ L m env ct elt x scope cl s S P Fin j i ys news := by
  intro j
  induction j with
  | zero =>
    intro i ys news hi hI
    have e : i = n := by omega
    subst e
    exact LCt.CompRestT.zero (fin ys news hI)
  | succ j ih =>
    intro i ys news hi hI
    refine LCt.CompRestT.succ ?_
    intro v I oI C oC D m₂ h tk E' hv hC hx F N off ne
    refine wpAny_mono (turn i ys news (by omega) hI v I oI C oC D m₂ h tk E' hv hC hx F N off ne) (fun ok s₁ h1 => ?_) fun _ _ e => e
    cases ok with
    | true =>
      simp only [if_true] at h1 ⊢
      refine wpAny_mono h1 (fun y s₂ hq => ?_) fun _ _ e => e
      obtain ⟨h', tk', nw, e, F', N', off', hS, hn⟩ := hq
      exact ⟨h', tk', nw, e, F', N', off', hS, ih (i + 1) _ _ (by omega) hn⟩
    | false =>
      simp only [Bool.false_eq_true, if_false] at h1 ⊢
      obtain ⟨h', tk', nw, e, F', N', off', hS, hn⟩ := h1
      exact ⟨h', tk', nw, e, F', N', off', hS, ih (i + 1) _ _ (by omega) hn⟩

theorem comp_restP {elt : Expr} {x x₂ : Str} {scope : Scope} {cl : List (Str × Addr)} {S : List (Addr × Obj) → Prop} {P : Nat → Value → Prop} {Fin : List Value → List (Addr × Obj) → Prop} {n : Nat} (Inv : Nat → List Value → List (Addr × Obj) → Prop)
    (turn : ∀ i ys news, i < n → Inv i ys news → ∀ v, P i v → ∃ (t : Addr) (ot : Obj) (v₁ v₂ : Value) (nt : Nat), v = .ref t ∧ (t, ot) ∈ news ∧ ot.cls = .type "tuple" ∧ ot.data = .seq #[v₁, v₂] nt ∧
      ∀ I oI C oC D m₂ h tk (E' : Value → Shared → Prop), LCg.NsObj oC m₂ → m₂ x = some v₁ → m₂ x₂ = some v₂ → Fr h₀ L h m → News h₀ L h ((I, oI) :: (C, oC) :: (D, LCg.lst ys) :: news) → LCg.Off3 I C D news → ((@Ne Nat I C) ∧ (@Ne Nat I D) ∧ (@Ne Nat C D)) →
      wpAny (model prog w) A (eval elt (compEnvC scope cl C env)) (LCg.CompEnd h₀ L m { s with heap := h, toks := tk } I oI C oC D (LCg.lst ys) S (fun y news' => Inv (i + 1) (ys ++ [y]) news')) E' { s with heap := h, toks := tk })
    (fin : ∀ ys news, Inv n ys news → Fin ys news) : ∀ (j i : Nat) (ys : List Value) (news : List (Addr × Obj)), i + j = n → Inv i ys news → LCp.CompRestP prog w A h₀ L m env elt x x₂ scope cl s S P Fin j i ys news := by
  intro j
  induction j with
  | zero =>
    intro i ys news hi hI
    have e : i = n := by omega
    subst e
    exact LCp.CompRestP.zero (fin ys news hI)
  | succ j ih =>
    intro i ys news hi hI
    refine LCp.CompRestP.succ ?_
    intro v hv
    obtain ⟨t, ot, v₁, v₂, nt, e1, e2, e3, e4, hw⟩ := turn i ys news (by omega) hI v hv
    refine ⟨t, ot, v₁, v₂, nt, e1, e2, e3, e4, ?_⟩
    intro I oI C oC D m₂ h tk E' hC hx hx2 F N off ne
    refine wpAny_mono (hw I oI C oC D m₂ h tk E' hC hx hx2 F N off ne) (fun y s₂ hq => ?_) fun _ _ e => e
    obtain ⟨h', tk', nw, e, F', N', off', hS, hn⟩ := hq
    exact ⟨h', tk', nw, e, F', N', off', hS, ih (i + 1) _ _ (by omega) hn⟩

/-- the end of a comprehension's turn: all that the ledger bears stands -/
def TurnEnd (h₀ : Heap) (L : Addr) (m : Str → Option Value) (s₁ : Shared) (led : List (Addr × Obj)) (Pv : Value → Prop) (y : Value) (s₂ : Shared) : Prop :=
  ∃ (h' : Heap) (tk : Nat) (all : List (Addr × Obj)), s₂ = { s₁ with heap := h', toks := tk } ∧ Fr h₀ L h' m ∧ News h₀ L h' all ∧ (∀ p ∈ led, p ∈ all) ∧ Pv y
theorem turn_end {led all : List (Addr × Obj)} {Pv : Value → Prop} {y : Value} {s₁ : Shared} {h' : Heap} {tk : Nat} (F : Fr h₀ L h' m) (N : News h₀ L h' all) (hs : ∀ p ∈ led, p ∈ all) (hp : Pv y) : TurnEnd h₀ L m s₁ led Pv y { s₁ with heap := h', toks := tk } := ⟨h', tk, all, rfl, F, N, hs, hp⟩
theorem turn_comp {I C D : Addr} {oI oC oD : Obj} {S : List (Addr × Obj) → Prop} {news : List (Addr × Obj)} {Pv : Value → Prop} {rest : Value → List (Addr × Obj) → Prop} {y : Value} {s₁ s₂ : Shared} (h : TurnEnd h₀ L m s₁ ((I, oI) :: (C, oC) :: (D, oD) :: news) Pv y s₂)
    (off : LCg.Off3 I C D news) (hS : S news) (hr : Pv y → rest y news) : LCg.CompEnd h₀ L m s₁ I oI C oC D oD S rest y s₂ := by
  obtain ⟨h', tk, all, rfl, F, N, hs, hp⟩ := h
  exact LCg.CompEnd.intro F N news hs off hS (hr hp)

theorem tup_src {ct elt : Expr} {x : Str} {scope : Scope} {cl : List (Str × Addr)} {Fin : Shared → List Value → List (Addr × Obj) → Prop} {ax : Addr} {its : Array Value} {k : Nat} {news : List (Addr × Obj)} {s₁ : Shared}
    (hh : A.handled = none) (F : Fr h₀ L s₁.heap m) (N : News h₀ L s₁.heap news) (hm : (ax, ({ cls := .type "tuple", data := .seq its k } : Obj)) ∈ news) (hsz : its.size ≤ sizeLine) (Inv : Nat → List Value → Prop) (h0 : Inv 0 [])
    (turn : ∀ (g : Heap) i ys, i < its.size → Inv i ys → ∀ v I oI C oC D m₂ h tk (E' : Value → Shared → Prop), its[i]? = some v → LCg.NsObj oC m₂ → m₂ x = some v → Fr h₀ L h m → News h₀ L h ((I, oI) :: (C, oC) :: (D, LCg.lst ys) :: news) → LCg.Off3 I C D news → ((@Ne Nat I C) ∧ (@Ne Nat I D) ∧ (@Ne Nat C D)) →
      wpAny (model prog w) A (isTrue ct (compEnvC scope cl C env) (eval ct (compEnvC scope cl C env))) (fun ok s' => if ok = true then
        wpAny (model prog w) A (eval elt (compEnvC scope cl C env)) (TurnEnd h₀ L m { s₁ with heap := h, toks := tk } ((I, oI) :: (C, oC) :: (D, LCg.lst ys) :: news) (fun y => Inv (i + 1) (ys ++ [y]))) E' s'
        else TurnEnd h₀ L m { s₁ with heap := h, toks := tk } ((I, oI) :: (C, oC) :: (D, LCg.lst ys) :: news) (fun _ => Inv (i + 1) ys) Value.none s') E' { s₁ with heap := h, toks := tk })
    (fin : ∀ (g : Heap) ys, Inv its.size ys → Fin { s₁ with heap := g } ys news) : TupSrc prog w A h₀ L m env ct elt x scope cl Fin (.ref ax) s₁ := by
  refine ⟨ax, its, k, news, rfl, hh, F, N, hm, hsz, fun g => ?_⟩
  refine comp_restT (fun i ys nw => nw = news ∧ Inv i ys) ?_ ?_ its.size 0 [] news (Nat.zero_add _) ⟨rfl, h0⟩
  · rintro i ys nw hi ⟨rfl, hI⟩ v I oI C oC D m₂ h tk E' hv hC hx F' N' off ne
    refine wpAny_mono (turn g i ys hi hI v I oI C oC D m₂ h tk E' hv hC hx F' N' off ne) (fun ok s' h1 => ?_) fun _ _ e => e
    cases ok with
    | true =>
      simp only [if_true] at h1 ⊢
      exact wpAny_mono h1 (fun y s₂ hq => turn_comp hq off hm fun q => ⟨rfl, q⟩) fun _ _ e => e
    | false =>
      simp only [Bool.false_eq_true, if_false] at h1 ⊢
      exact turn_comp h1 off hm fun q => ⟨rfl, q⟩
  · rintro ys nw ⟨rfl, hI⟩
    exact fin g ys hI

theorem lst_srcT {ct elt : Expr} {x : Str} {scope : Scope} {cl : List (Str × Addr)} {Fin : Shared → List Value → List (Addr × Obj) → Prop} {ax : Addr} {its : Array Value} {k : Nat} {news : List (Addr × Obj)} {s₁ : Shared}
    (hh : A.handled = none) (F : Fr h₀ L s₁.heap m) (N : News h₀ L s₁.heap news) (hm : (ax, ({ cls := .type "list", data := .seq its k } : Obj)) ∈ news) (hsz : its.size ≤ sizeLine) (Inv : Nat → List Value → Prop) (h0 : Inv 0 [])
    (turn : ∀ (g : Heap) i ys, i < its.size → Inv i ys → ∀ v I oI C oC D m₂ h tk (E' : Value → Shared → Prop), its[i]? = some v → LCg.NsObj oC m₂ → m₂ x = some v → Fr h₀ L h m → News h₀ L h ((I, oI) :: (C, oC) :: (D, LCg.lst ys) :: news) → LCg.Off3 I C D news → ((@Ne Nat I C) ∧ (@Ne Nat I D) ∧ (@Ne Nat C D)) →
      wpAny (model prog w) A (isTrue ct (compEnvC scope cl C env) (eval ct (compEnvC scope cl C env))) (fun ok s' => if ok = true then
        wpAny (model prog w) A (eval elt (compEnvC scope cl C env)) (TurnEnd h₀ L m { s₁ with heap := h, toks := tk } ((I, oI) :: (C, oC) :: (D, LCg.lst ys) :: news) (fun y => Inv (i + 1) (ys ++ [y]))) E' s'
        else TurnEnd h₀ L m { s₁ with heap := h, toks := tk } ((I, oI) :: (C, oC) :: (D, LCg.lst ys) :: news) (fun _ => Inv (i + 1) ys) Value.none s') E' { s₁ with heap := h, toks := tk })
    (fin : ∀ (g : Heap) ys, Inv its.size ys → Fin { s₁ with heap := g } ys news) : LCt.CompSrcT prog w A h₀ L m env ct elt x scope cl Fin (.ref ax) s₁ := by
  refine LCt.CompSrcT.ledger hh F N hm hsz fun g => ?_
  have hS : LCg.SrcAt h₀ ax its news := .inr ⟨_, hm, rfl, _, rfl⟩
  refine comp_restT (fun i ys nw => nw = news ∧ Inv i ys) ?_ ?_ its.size 0 [] news (Nat.zero_add _) ⟨rfl, h0⟩
  · rintro i ys nw hi ⟨rfl, hI⟩ v I oI C oC D m₂ h tk E' hv hC hx F' N' off ne
    refine wpAny_mono (turn g i ys hi hI v I oI C oC D m₂ h tk E' hv hC hx F' N' off ne) (fun ok s' h1 => ?_) fun _ _ e => e
    cases ok with
    | true =>
      simp only [if_true] at h1 ⊢
      exact wpAny_mono h1 (fun y s₂ hq => turn_comp hq off hS fun q => ⟨rfl, q⟩) fun _ _ e => e
    | false =>
      simp only [Bool.false_eq_true, if_false] at h1 ⊢
      exact turn_comp h1 off hS fun q => ⟨rfl, q⟩
  · rintro ys nw ⟨rfl, hI⟩
    exact fin g ys hI

theorem lst_srcP {elt : Expr} {x x₂ : Str} {scope : Scope} {cl : List (Str × Addr)} {Fin : Shared → List Value → List (Addr × Obj) → Prop} {ax : Addr} {its : Array Value} {k : Nat} {news : List (Addr × Obj)} {s₁ : Shared}
    (hh : A.handled = none) (F : Fr h₀ L s₁.heap m) (N : News h₀ L s₁.heap news) (hm : (ax, ({ cls := .type "list", data := .seq its k } : Obj)) ∈ news) (hsz : its.size ≤ sizeLine) (Inv : Nat → List Value → Prop) (h0 : Inv 0 [])
    (turn : ∀ (g : Heap) i ys, i < its.size → Inv i ys → ∀ v, its[i]? = some v → ∃ (t : Addr) (ot : Obj) (v₁ v₂ : Value) (nt : Nat), v = .ref t ∧ (t, ot) ∈ news ∧ ot.cls = .type "tuple" ∧ ot.data = .seq #[v₁, v₂] nt ∧
      ∀ I oI C oC D m₂ h tk (E' : Value → Shared → Prop), LCg.NsObj oC m₂ → m₂ x = some v₁ → m₂ x₂ = some v₂ → Fr h₀ L h m → News h₀ L h ((I, oI) :: (C, oC) :: (D, LCg.lst ys) :: news) → LCg.Off3 I C D news → ((@Ne Nat I C) ∧ (@Ne Nat I D) ∧ (@Ne Nat C D)) →
      wpAny (model prog w) A (eval elt (compEnvC scope cl C env)) (TurnEnd h₀ L m { s₁ with heap := h, toks := tk } ((I, oI) :: (C, oC) :: (D, LCg.lst ys) :: news) (fun y => Inv (i + 1) (ys ++ [y]))) E' { s₁ with heap := h, toks := tk })
    (fin : ∀ (g : Heap) ys, Inv its.size ys → Fin { s₁ with heap := g } ys news) : LCp.SrcLP prog w A h₀ L m env elt x x₂ scope cl Fin (.ref ax) s₁ := by
  refine LCp.SrcLP.ledger hh F N hm hsz fun g => ?_
  have hS : LCg.SrcAt h₀ ax its news := .inr ⟨_, hm, rfl, _, rfl⟩
  refine comp_restP (fun i ys nw => nw = news ∧ Inv i ys) ?_ ?_ its.size 0 [] news (Nat.zero_add _) ⟨rfl, h0⟩
  · rintro i ys nw hi ⟨rfl, hI⟩ v hv
    obtain ⟨t, ot, v₁, v₂, nt, e1, e2, e3, e4, hw⟩ := turn g i ys hi hI v hv
    refine ⟨t, ot, v₁, v₂, nt, e1, e2, e3, e4, ?_⟩
    intro I oI C oC D m₂ h tk E' hC hx hx2 F' N' off ne
    exact wpAny_mono (hw I oI C oC D m₂ h tk E' hC hx hx2 F' N' off ne) (fun y s₂ hq => turn_comp hq off hS fun q => ⟨rfl, q⟩) fun _ _ e => e
  · rintro ys nw ⟨rfl, hI⟩
    exact fin g ys hI
end

def MENU : List Str := [Str.ofString "MIN", Str.ofString "MAX", Str.ofString "ALL", Str.ofString "COUNT"]
def dueP (ss : List Str) (k : Str) : Bool := (ss.any fun x => x == k) || ((k == Str.ofString "ALL") && decide (ss = []))
theorem menu_yes {i : Nat} {k : Str} {ys : List Value} {t : Tok} {l : List Str} {p : Str → Bool} (h : l[i]? = some k) (hI : StrsAre ys ((l.take i).filter p)) (hd : p k = true) : StrsAre (ys ++ [.str k t]) ((l.take (i + 1)).filter p) := by
  rw [List.take_add_one, h, List.filter_append]
  have e : List.filter p (some k).toList = [k] := by simp [hd]
  rw [e]
  exact kct_snoc hI
theorem menu_no {i : Nat} {k : Str} {ys : List Value} {l : List Str} {p : Str → Bool} (h : l[i]? = some k) (hI : StrsAre ys ((l.take i).filter p)) (hd : p k = false) : StrsAre ys ((l.take (i + 1)).filter p) := by
  rw [List.take_add_one, h, List.filter_append]
  have e : List.filter p (some k).toList = [] := by simp [hd]
  rw [e, List.append_nil]
  exact hI

theorem dueP_t {ss : List Str} {k : Str} (h : (ss.any fun x => x == k) = true) : dueP ss k = true := by unfold dueP; rw [h]; rfl
theorem dueP_f {ss : List Str} {k : Str} (h : (ss.any fun x => x == k) = false) (hk : (k == Str.ofString "ALL") = false) : dueP ss k = false := by unfold dueP; rw [h, hk]; rfl
theorem dueP_at {ss : List Str} (e : ss = []) : dueP ss (Str.ofString "ALL") = true := by unfold dueP; subst e; decide +kernel
theorem dueP_af {ss : List Str} (h : (ss.any fun x => x == Str.ofString "ALL") = false) (e : ss ≠ []) : dueP ss (Str.ofString "ALL") = false := by unfold dueP; rw [h, decide_eq_false e]; rfl
end Mine


/- part Q -/
namespace Mine
open PySem.SeqAt

def WORDS : List Str := [Str.ofString "MIN", Str.ofString "MAX", Str.ofString "ALL", Str.ofString "COUNT", Str.ofString "SAVE", Str.ofString "min"]
def okw (ss : List Str) : Prop := ∀ x ∈ ss, PyData.strOk x = true
theorem okw_nil : okw [] := fun _ h => nomatch h
theorem okw_snoc {ss : List Str} {x : Str} (h : okw ss) (hx : PyData.strOk x = true) : okw (ss ++ [x]) := fun y hy => by
  rcases List.mem_append.mp hy with hy | hy
  · exact h y hy
  · rw [List.mem_singleton.mp hy]; exact hx
theorem readsAll_of_strs {h : Heap} : ∀ {vs : List Value} {ss : List Str}, StrsAre vs ss → ReadsAll h vs (ss.map PyData.str) []
  | _, _, .nil => .nil
  | _, _, .cons k t r => by
    have := ReadsAll.cons (Reads.str (h := h) k t) (readsAll_of_strs (h := h) r)
    simpa using this
theorem canLayAll0_strs : ∀ {ss : List Str}, okw ss → PyData.canLayAll0 (ss.map PyData.str) = true
  | [], _ => by simp [PyData.canLayAll0]
  | n :: r, h => by
    have h1 := canLayAll0_strs (ss := r) (fun x hx => h x (.tail _ hx))
    have h2 := h n (.head _)
    simp [PyData.canLayAll0, PyData.canLay0, h1, h2]
theorem depthAll_strs : ∀ ss : List Str, PyData.depthAll (ss.map PyData.str) ≤ 1
  | [] => by simp [PyData.depthAll]
  | n :: r => by
    have := depthAll_strs r
    simp only [List.map_cons, PyData.depthAll, PyData.depth]
    omega
theorem shaped_strs {ss : List Str} (h : okw ss) : shaped (.list (ss.map PyData.str)) = true := by
  have h1 := depthAll_strs ss
  have h2 : PyData.depth (.list (ss.map PyData.str)) ≤ 64 := by simp only [PyData.depth]; omega
  show (PyData.canLay0 (.list (ss.map PyData.str)) && decide (PyData.depth (.list (ss.map PyData.str)) ≤ 64)) = true
  rw [Bool.and_eq_true]
  exact ⟨by simp only [PyData.canLay0]; exact canLayAll0_strs h, decide_eq_true h2⟩
theorem eqv_strs : ∀ ns ms : List Str, PyData.eqvAll (ns.map PyData.str) (ms.map PyData.str) = decide (ns = ms)
  | [], [] => by simp [PyData.eqvAll]
  | [], _ :: _ => by simp [PyData.eqvAll]
  | _ :: _, [] => by simp [PyData.eqvAll]
  | n :: r, k :: q => by
    simp only [List.map_cons, PyData.eqvAll, PyData.eqv, eqv_strs r q]
    by_cases h : n = k <;> simp [h]
section
variable {prog : Program} {w : World} {A : Around} {E : Value → Shared → Prop} {s : Shared} {h₀ : Heap} {L a b : Addr} {news : List (Addr × Obj)} {oa ob : Obj} {xs ys : List Value} {ka kb : Nat} {ds es : List Str} {Q : Value → Shared → Prop}
theorem eq_strsL (N : News h₀ L s.heap news) (ma : (a, oa) ∈ news) (ca : oa.cls = .type "list") (da : oa.data = .seq xs.toArray ka) (Da : StrsAre xs ds)
    (mb : (b, ob) ∈ news) (cb : ob.cls = .type "list") (db : ob.data = .seq ys.toArray kb) (Db : StrsAre ys es)
    (ha : okw ds) (hb : okw es) (hu : A.units + 64 < cLine) (h : Q (.bool (decide (ds = es))) s) : wpAny (model prog w) A (compareOp .Eq (.ref a) (.ref b)) Q E s := by
  refine eq_dataH (reads_list_at (N.get ma) ca da (by simpa using readsAll_of_strs Da)) (reads_list_at (N.get mb) cb db (by simpa using readsAll_of_strs Db)) (shaped_strs ha) (shaped_strs hb) hu ?_
  rw [PyData.eqv, eqv_strs]; exact h
theorem ne_strsL (N : News h₀ L s.heap news) (ma : (a, oa) ∈ news) (ca : oa.cls = .type "list") (da : oa.data = .seq xs.toArray ka) (Da : StrsAre xs ds)
    (mb : (b, ob) ∈ news) (cb : ob.cls = .type "list") (db : ob.data = .seq ys.toArray kb) (Db : StrsAre ys es)
    (ha : okw ds) (hb : okw es) (hu : A.units + 64 < cLine) (h : Q (.bool (!decide (ds = es))) s) : wpAny (model prog w) A (compareOp .NotEq (.ref a) (.ref b)) Q E s := by
  refine ne_dataH (reads_list_at (N.get ma) ca da (by simpa using readsAll_of_strs Da)) (reads_list_at (N.get mb) cb db (by simpa using readsAll_of_strs Db)) (shaped_strs ha) (shaped_strs hb) hu ?_
  rw [PyData.eqv, eqv_strs]; exact h
end

theorem okw_words {ss : List Str} (h : ∀ x ∈ ss, x ∈ WORDS) : okw ss := fun x hx => by
  have := h x hx
  have e : ∀ y ∈ WORDS, PyData.strOk y = true := by decide +kernel
  exact e x this
theorem okw_filter {ss : List Str} {p : Str → Bool} (h : okw ss) : okw (ss.filter p) := fun x hx => h x (List.mem_filter.mp hx).1
theorem okw_menu : okw MENU := by
  have e : ∀ y ∈ MENU, PyData.strOk y = true := by decide +kernel
  exact e

/-- what is due, in the end -/
def dueL (xs : List Int) (ss : List Str) : List Str := if xs = [] then (MENU.filter (dueP ss)).filter (· == Str.ofString "COUNT") else MENU.filter (dueP ss)
theorem okw_due {xs : List Int} {ss : List Str} : okw (dueL xs ss) := by
  unfold dueL; split
  · exact okw_filter (okw_filter okw_menu)
  · exact okw_filter okw_menu
theorem dueP_min {ss : List Str} : dueP ss (Str.ofString "MIN") = ss.any fun x => x == Str.ofString "MIN" := by
  unfold dueP; rw [show (Str.ofString "MIN" == Str.ofString "ALL") = false from by decide +kernel]; simp
theorem dueP_max {ss : List Str} : dueP ss (Str.ofString "MAX") = ss.any fun x => x == Str.ofString "MAX" := by
  unfold dueP; rw [show (Str.ofString "MAX" == Str.ofString "ALL") = false from by decide +kernel]; simp
theorem dueP_count {ss : List Str} : dueP ss (Str.ofString "COUNT") = ss.any fun x => x == Str.ofString "COUNT" := by
  unfold dueP; rw [show (Str.ofString "COUNT" == Str.ofString "ALL") = false from by decide +kernel]; simp
theorem dueP_all {ss : List Str} : dueP ss (Str.ofString "ALL") = ((ss.any fun x => x == Str.ofString "ALL") || decide (ss = [])) := by
  unfold dueP; rw [show (Str.ofString "ALL" == Str.ofString "ALL") = true from by decide +kernel]; simp
theorem opt_keys {c : Prop} {key : Str} {G : Value → Prop} {k : List (Str × Value)} {b : Bool} (h : OptK c key G k) (hc : c ↔ b = true) : k.map (·.1) = if b = true then [key] else [] := by
  rcases h with ⟨hh, y, rfl, _⟩ | ⟨hh, rfl⟩
  · rw [if_pos (hc.mp hh)]; rfl
  · rw [if_neg (fun q => hh (hc.mpr q))]; rfl
theorem filt1 {p : Str → Bool} {a : Str} {r : List Str} : (a :: r).filter p = (if p a = true then [a] else []) ++ r.filter p := by
  rw [List.filter_cons]; split <;> simp
theorem kvp_keys {L : List (Addr × Obj)} {xs : List Int} {ss : List Str} {kvs : List (Str × Value)} (h : KVP L xs ss kvs) : kvs.map (·.1) = dueL xs ss := by
  obtain ⟨k1, k2, k3, k4, o1, o2, o3, o4, rfl⟩ := h
  have e4 := opt_keys (b := dueP ss (Str.ofString "COUNT")) o4 (by rw [dueP_count]; exact Iff.rfl)
  by_cases hx : xs = []
  · subst hx
    rw [optk_nil o1, optk_nil o2, optk_nil o3]
    simp only [List.nil_append, e4]
    unfold dueL MENU
    rw [if_pos rfl]
    simp only [filt1, List.filter_nil, List.filter_append, List.append_nil]
    have n1 : (Str.ofString "MIN" == Str.ofString "COUNT") = false := by decide +kernel
    have n2 : (Str.ofString "MAX" == Str.ofString "COUNT") = false := by decide +kernel
    have n3 : (Str.ofString "ALL" == Str.ofString "COUNT") = false := by decide +kernel
    have n4 : (Str.ofString "COUNT" == Str.ofString "COUNT") = true := by decide +kernel
    generalize dueP ss (Str.ofString "MIN") = b1
    generalize dueP ss (Str.ofString "MAX") = b2
    generalize dueP ss (Str.ofString "ALL") = b3
    generalize dueP ss (Str.ofString "COUNT") = b4
    cases b1 <;> cases b2 <;> cases b3 <;> cases b4 <;> simp [filt1, n1, n2, n3, n4]
  · have e1 := opt_keys (b := dueP ss (Str.ofString "MIN")) o1 (by rw [dueP_min]; exact ⟨fun q => q.2, fun q => ⟨hx, q⟩⟩)
    have e2 := opt_keys (b := dueP ss (Str.ofString "MAX")) o2 (by rw [dueP_max]; exact ⟨fun q => q.2, fun q => ⟨hx, q⟩⟩)
    have e3 := opt_keys (b := dueP ss (Str.ofString "ALL")) o3 (by
      rw [dueP_all, Bool.or_eq_true, decide_eq_true_iff]; exact ⟨fun q => q.2, fun q => ⟨hx, q⟩⟩)
    unfold dueL MENU
    rw [if_neg hx]
    simp only [filt1, List.filter_nil, List.append_nil, List.map_append, e1, e2, e3, e4]

theorem val_opt_ne {c : Prop} {key k' : Str} {G : Value → Prop} {k : List (Str × Value)} (h : OptK c key G k) (hne : (key == k') = false) (r : List (Str × Value)) : valueAt (k ++ r) k' = valueAt r k' := by
  rcases h with ⟨hh, y, rfl, _⟩ | ⟨hh, rfl⟩
  · simp only [List.cons_append, List.nil_append, valueAt]
    have : key ≠ k' := fun e => by rw [e] at hne; simp at hne
    simp [this]
  · rfl
theorem val_opt_eq {c : Prop} {key : Str} {G : Value → Prop} {k : List (Str × Value)} (h : OptK c key G k) (r : List (Str × Value)) (hr : valueAt r key = none) : (∃ y, valueAt (k ++ r) key = some y ∧ G y) ∨ valueAt (k ++ r) key = none := by
  rcases h with ⟨hh, y, rfl, g⟩ | ⟨hh, rfl⟩
  · exact .inl ⟨y, by simp [valueAt], g⟩
  · exact .inr hr
theorem val_opt_no {c : Prop} {key k' : Str} {G : Value → Prop} {k : List (Str × Value)} (h : OptK c key G k) (hne : (key == k') = false) : valueAt k k' = none := by
  have := val_opt_ne h hne []
  rw [List.append_nil] at this
  rw [this]; rfl
theorem kvp_min {L : List (Addr × Obj)} {xs : List Int} {ss : List Str} {kvs : List (Str × Value)} (h : KVP L xs ss kvs) : (∃ y, valueAt kvs (Str.ofString "MIN") = some y ∧ GMin xs y) ∨ valueAt kvs (Str.ofString "MIN") = none := by
  obtain ⟨k1, k2, k3, k4, o1, o2, o3, o4, rfl⟩ := h
  refine val_opt_eq o1 _ ?_
  rw [val_opt_ne o2 (by decide +kernel), val_opt_ne o3 (by decide +kernel)]
  exact val_opt_no o4 (by decide +kernel)
theorem kvp_max {L : List (Addr × Obj)} {xs : List Int} {ss : List Str} {kvs : List (Str × Value)} (h : KVP L xs ss kvs) : (∃ y, valueAt kvs (Str.ofString "MAX") = some y ∧ GMax xs y) ∨ valueAt kvs (Str.ofString "MAX") = none := by
  obtain ⟨k1, k2, k3, k4, o1, o2, o3, o4, rfl⟩ := h
  rw [val_opt_ne o1 (by decide +kernel)]
  refine val_opt_eq o2 _ ?_
  rw [val_opt_ne o3 (by decide +kernel)]
  exact val_opt_no o4 (by decide +kernel)
theorem kvp_all {L : List (Addr × Obj)} {xs : List Int} {ss : List Str} {kvs : List (Str × Value)} (h : KVP L xs ss kvs) : (∃ y, valueAt kvs (Str.ofString "ALL") = some y ∧ GAll L xs y) ∨ valueAt kvs (Str.ofString "ALL") = none := by
  obtain ⟨k1, k2, k3, k4, o1, o2, o3, o4, rfl⟩ := h
  rw [val_opt_ne o1 (by decide +kernel), val_opt_ne o2 (by decide +kernel)]
  refine val_opt_eq o3 _ ?_
  exact val_opt_no o4 (by decide +kernel)
theorem kvp_count {L : List (Addr × Obj)} {xs : List Int} {ss : List Str} {kvs : List (Str × Value)} (h : KVP L xs ss kvs) : (∃ y, valueAt kvs (Str.ofString "COUNT") = some y ∧ GCount xs y) ∨ valueAt kvs (Str.ofString "COUNT") = none := by
  obtain ⟨k1, k2, k3, k4, o1, o2, o3, o4, rfl⟩ := h
  rw [val_opt_ne o1 (by decide +kernel), val_opt_ne o2 (by decide +kernel), val_opt_ne o3 (by decide +kernel)]
  have := val_opt_eq o4 [] rfl
  rwa [List.append_nil] at this
theorem due_nil {xs : List Int} {ss : List Str} {zs zs2 : List Value} (hx : xs = []) (h : StrsAre zs2 (((MENU.filter (dueP ss)).take zs.toArray.size).filter (· == Str.ofString "COUNT"))) (hz : StrsAre zs (MENU.filter (dueP ss))) : StrsAre zs2 (dueL xs ss) := by
  unfold dueL
  rw [if_pos hx]
  rw [List.take_of_length_le (by rw [List.size_toArray, hz.length]; exact Nat.le_refl _)] at h
  exact h
theorem due_cons {xs : List Int} {ss : List Str} {zs : List Value} (hx : xs ≠ []) (hz : StrsAre zs (MENU.filter (dueP ss))) : StrsAre zs (dueL xs ss) := by
  unfold dueL
  rw [if_neg hx]
  exact hz
theorem small_list {zs : List Value} {n : Nat} (h : zs.length ≤ n) (hn : n ≤ 1000 := by decide) : zs.toArray.size ≤ sizeLine := by
  rw [List.size_toArray, PySem.sizeLine_eq]; omega
theorem keys_snoc {i : Nat} {k : Str} {y : Value} {t : Tok} {ys : List Value} {kvs : List (Str × Value)} (h : kvs[i]? = some (k, y)) (hI : StrsAre ys ((kvs.map (·.1)).take i)) : StrsAre (ys ++ [.str k t]) ((kvs.map (·.1)).take (i + 1)) := by
  rw [List.take_add_one, List.getElem?_map, h]
  exact kct_snoc hI
theorem keys_all {L L2 : List (Addr × Obj)} {xs : List Int} {ss : List Str} {es zs : List Value} {kvs : List (Str × Value)} (hk : KvAre L es kvs) (hp : KVP L2 xs ss kvs) (h : StrsAre zs ((kvs.map (·.1)).take es.toArray.size)) : StrsAre zs (dueL xs ss) := by
  rw [List.take_of_length_le (by rw [List.size_toArray, List.length_map, hk.length]; exact Nat.le_refl _), kvp_keys hp] at h
  exact h
end Mine


/- part L -/
namespace Mine
theorem fm1009 {a : Int} : a.fmod 1009 ≤ 1009 := Int.le_of_lt (Int.fmod_lt_of_pos a (by decide))

theorem comp_rest {prog : Program} {w : World} {A : Around} {h₀ : Heap} {L : Addr} {m : Str → Option Value} {env : Env} {elt : Expr} {x : Str} {scope : Scope} {cl : List (Str × Addr)} {s : Shared} {S : List (Addr × Obj) → Prop} {P : Nat → Value → Prop}
    {Fin : List Value → List (Addr × Obj) → Prop} {n : Nat} (Inv : Nat → List Value → List (Addr × Obj) → Prop)
    (turn : ∀ i ys news, i < n → Inv i ys news → ∀ v I oI C oC D m₂ h tk (E' : Value → Shared → Prop), P i v → LCg.NsObj oC m₂ → m₂ x = some v → Fr h₀ L h m → News h₀ L h ((I, oI) :: (C, oC) :: (D, LCg.lst ys) :: news) → LCg.Off3 I C D news → ((@Ne Nat I C) ∧ (@Ne Nat I D) ∧ (@Ne Nat C D)) →
      wpAny (model prog w) A (eval elt (compEnvC scope cl C env)) (LCg.CompEnd h₀ L m { s with heap := h, toks := tk } I oI C oC D (LCg.lst ys) S (fun y news' => Inv (i + 1) (ys ++ [y]) news')) E' { s with heap := h, toks := tk })
    (fin : ∀ ys news, Inv n ys news → Fin ys news) : ∀ (j i : Nat) (ys : List Value) (news : List (Addr × Obj)), i + j = n → Inv i ys news → LCg.CompRest prog w A h₀ L m env elt x scope cl s S P Fin j i ys news := by
  intro j
  induction j with
  | zero =>
    intro i ys news hi hI
    have e : i = n := by omega
    subst e
    exact LCg.CompRest.zero (fin ys news hI)
  | succ j ih =>
    intro i ys news hi hI
    refine LCg.CompRest.succ ?_
    intro v I oI C oC D m₂ h tk E' hv hC hx F N off ne
    refine wpAny_mono (turn i ys news (by omega) hI v I oI C oC D m₂ h tk E' hv hC hx F N off ne) (fun y s₂ hq => ?_) fun _ _ e => e
    obtain ⟨h', tk', nw, e, F', N', off', hS, hn⟩ := hq
    exact ⟨h', tk', nw, e, F', N', off', hS, ih (i + 1) _ _ (by omega) hn⟩

local macro_rules | `(tactic| walk_at "call ref") => `(tactic| (k_here; refine stop_here ?_))
local macro_rules | `(tactic| walk_at "call ref") => `(tactic| (k_here; (with_reducible show wpAny _ _ (PySem.call (Value.ref 42) [Value.ref _]) _ _ _); k_dflt ((refine' numbers_call ?k1 ?k2 ?k3 ?k4 ?k5 ?k6 ?U ?c ?ns ?pc ?q1 ?q2 ?q3 ?q4 ?q5 ?q6 ?hd ?hu ?_); (case k1 => k_asm); (case k2 => k_asm); (case k3 => k_asm); (case k4 => k_asm); (case k5 => k_asm); (case k6 => first | exact rfl | assumption); (case U => k_updF); (case c => k_mem); (case ns => assumption); (case pc => (refine neN ?_; (try dsimp only); omega)); (case q1 => omega); (case q2 => omega); (case q3 => omega); (case q4 => omega); (case q5 => (first | exact Int.fmod_nonneg_of_pos _ (by decide) | exact fm1009)); (case q6 => (first | exact Int.fmod_nonneg_of_pos _ (by decide) | exact fm1009)); (case hd => ktr_room); (case hu => ktr_units)); intro D' ws' xs' nD' i' ti' b' tb' h' tk' hi' hl' hnd' hx' i0' i1' b0' l1 F' N'; (try dsimp only [List.nil_append, List.cons_append] at N'); (try k_lt l1)))
local macro_rules | `(tactic| walk_at "call ref") => `(tactic| (k_here; (with_reducible show wpAny _ _ (PySem.call (Value.ref 35) [Value.ref _, Value.int _ _]) _ _ _); k_dflt ((refine' draw_call ?k1 ?k2 ?k3 ?k4 ?k5 ?k6 ?U ?c ?ns ?pc ?q1 ?q2 ?q3 ?q4 ?q5 ?q6 ?q7 ?q8 ?hd ?hu ?_); (case k1 => k_asm); (case k2 => k_asm); (case k3 => k_asm); (case k4 => k_asm); (case k5 => k_asm); (case k6 => first | exact rfl | assumption); (case U => k_updF); (case c => k_mem); (case ns => assumption); (case pc => (refine neN ?_; (try dsimp only); omega)); (case q1 => omega); (case q2 => omega); (case q3 => omega); (case q4 => omega); (case q5 => (first | exact Int.fmod_nonneg_of_pos _ (by decide) | exact fm1009)); (case q6 => (first | exact Int.fmod_nonneg_of_pos _ (by decide) | exact fm1009)); (case q7 => first | omega | decide); (case q8 => first | omega | decide); (case hd => ktr_room); (case hu => ktr_units)); intro d' td' i' ti' b' tb' h' tk' d0 d1 i0' i1' b0' F' N'; (try dsimp only [List.nil_append, List.cons_append] at N')))
local macro_rules | `(tactic| walk_at "CompEnd") => `(tactic| (refine stop_here ?_))
local macro_rules | `(tactic| walk_at "CompSrc") => `(tactic| (refine stop_here ?_))
local macro_rules | `(tactic| walk_at "call ref") => `(tactic| (k_here; (with_reducible show wpAny _ _ (PySem.call (Value.ref 28) [Value.ref _, Value.ref _]) _ _ _); k_dflt ((refine' esearch_call ?k1 ?k2 ?k3 ?k4 ?k5 ?k6 ?m1 ?m2 ?ns ?q1 ?ws ?q2 ?hd ?hu ?_); (case k1 => k_asm); (case k2 => k_asm); (case k3 => k_asm); (case k4 => k_asm); (case k5 => k_asm); (case k6 => first | exact rfl | assumption); (case m1 => k_mem); (case m2 => k_mem); (case ns => assumption); (case q1 => assumption); (case ws => assumption); (case q2 => omega); (case hd => ktr_room); (case hu => ktr_units)); refine stop_here ?_))
local macro_rules | `(tactic| walk_at "execs cons") => `(tactic| ((with_reducible show wpAny _ _ (execs (Stmt.Assign [Expr.Name (PySem.Str.ofString "due") _] _ _ :: _ :: _ :: _ :: _) _) _ _ _); refine stop_here ?_))
local macro_rules | `(tactic| walk_at "call type:dict") => `(tactic| (k_here; (with_reducible show wpAny _ _ (call (Value.type "dict") [Value.ref _]) _ _ _); k_dflt (refine' dict_K ?hh ?F ?N ?bg ?m ?hv ?nd ?sz ?_; (case hh => exact rfl); (case F => k_asm); (case N => k_asm); (case bg => exact Top.nolimit (by k_asm)); (case m => k_mem); (case hv => exact kv_mono (by assumption) (by (intro p hp; kst_mem))); (case nd => exact kvp_nodup (by assumption)); (case sz => exact kv_small (by assumption) (by assumption))); intro D' o' h' tk' F' N' l1 od' sm'; (try k_lt l1)))
local macro_rules | `(tactic| walk_at "exec Assign cons ListComp") => `(tactic| (k_here; (with_reducible show wpAny _ _ (exec (Stmt.Assign [Expr.Name (PySem.Str.ofString "due") _] (Expr.ListComp _ [⟨_, Expr.Tuple _ _ _, _, _⟩] _ _) _) _) _ _ _); k_dflt (refine assign_comp_tup (_F₀ := by k_asm) (by rfl) (by with_unfolding_all rfl) (by with_unfolding_all rfl) (by decide) (by rfl) (by decide) (by rfl) (by rfl) (by rfl) ?_)))
local macro_rules | `(tactic| walk_at "CompSrcT") => `(tactic| (refine stop_here ?_))
local macro_rules | `(tactic| walk_at "SrcLP") => `(tactic| (refine stop_here ?_))
local macro_rules | `(tactic| walk_at "TurnEnd") => `(tactic| (refine stop_here ?_))
local macro_rules | `(tactic| walk_at "compareOp Eq ref ref") => `(tactic| (k_here; (with_reducible show wpAny _ _ (compareOp CmpOp.Eq (Value.ref _) (Value.ref _)) _ _ _); k_dflt (refine' eq_strsL ?N ?a ?c ?d ?s ?b ?e ?f ?t ?o1 ?o2 ?u ?_; (case N => k_asm); (case a => k_mem); (case c => exact rfl); (case d => exact rfl); (case s => with_reducible assumption); (case b => k_mem); (case e => exact rfl); (case f => exact rfl); (case t => first | with_reducible assumption | exact StrsAre.nil); (case o1 => with_reducible assumption); (case o2 => first | exact okw_nil | with_reducible assumption); (case u => ktr_units)); (try simp only [eq_self, decide_true, Bool.not_true])))
local macro_rules | `(tactic| walk_at "compareOp NotEq ref ref") => `(tactic| (k_here; (with_reducible show wpAny _ _ (compareOp CmpOp.NotEq (Value.ref _) (Value.ref _)) _ _ _); k_dflt (refine' ne_strsL ?N ?a ?c ?d ?s ?b ?e ?f ?t ?o1 ?o2 ?u ?_; (case N => k_asm); (case a => k_mem); (case c => exact rfl); (case d => exact rfl); (case s => with_reducible assumption); (case b => k_mem); (case e => exact rfl); (case f => exact rfl); (case t => first | with_reducible assumption | exact StrsAre.nil); (case o1 => with_reducible assumption); (case o2 => first | exact okw_nil | with_reducible assumption); (case u => ktr_units)); (try simp only [eq_self, decide_true, Bool.not_true])))
local macro_rules | `(tactic| walk_at "call builtin:dict.get") => `(tactic| (k_here; k_dflt (refine' kdg_get2 (knd := PySem.strKind _ _) ?N ?a ?b ?c ?d _ ?e ?_; (case N => k_asm); (case a => k_mem); (case b => with_reducible assumption); (case c => with_reducible assumption); (case d => exact strKind_is _ _ _ _); (case e => with_reducible assumption)); (try dsimp only [Option.getD])))
local macro_rules | `(tactic| walk_at "Cut") => `(tactic| (refine stop_here ?_))
theorem val_yes {kvs : List (Str × Value)} {k : Str} {v : Value} (h : valueAt kvs k = some v) : (valueAt kvs k).isSome = true := by rw [h]; rfl
theorem val_no {kvs : List (Str × Value)} {k : Str} (h : valueAt kvs k = none) : (valueAt kvs k).isSome = false := by rw [h]; rfl
local macro_rules | `(tactic| walk_at "compareOp In str ref") => `(tactic| (k_here; k_dflt (refine' kda_in (knd := PySem.strKind _ _) ?N ?a ?b ?c ?d _ ?e ?_; (case N => k_asm); (case a => k_mem); (case b => with_reducible assumption); (case c => with_reducible assumption); (case d => exact strKind_is _ _ _ _); (case e => first | exact val_yes (by with_reducible assumption) | exact val_no (by with_reducible assumption)))))
local macro_rules | `(tactic| walk_at "compareOp NotIn str ref") => `(tactic| (k_here; k_dflt (refine' kdg_notin (knd := PySem.strKind _ _) ?N ?a ?b ?c ?d _ ?e ?_; (case N => k_asm); (case a => k_mem); (case b => with_reducible assumption); (case c => with_reducible assumption); (case d => exact strKind_is _ _ _ _); (case e => first | exact val_yes (by with_reducible assumption) | exact val_no (by with_reducible assumption))); (try dsimp only [Bool.not_true, Bool.not_false])))
local macro_rules | `(tactic| walk_at "subscriptTail") => `(tactic| (k_here; (with_reducible show wpAny _ _ (subscriptTail _ _ (Value.ref _) (Value.str _ _)) _ _ _); k_dflt (refine' kda_item (knd := PySem.strKind _ _) ?N ?a ?b ?d ?e ?_; (case N => k_asm); (case a => k_mem); (case b => with_reducible assumption); (case d => exact strKind_is _ _ _ _); (case e => with_reducible assumption))))
local macro_rules | `(tactic| walk_at "exec For Tuple Tuple cons nil") => `(tactic| (k_here; (rename Fr _ _ _ _ => lF'); (with_unfolding_all refine' For_invTF lF' ?_ (by intro _; rfl)); k_whole))
local macro_rules | `(tactic| walk_at "pyIter ref") => `(tactic| (k_here; (with_reducible show wpAny _ _ (pyIter (Value.ref _)) (fun it s₂ => LoopAtT _ _ _ _ _ _ _ _ _ it s₂) _ _); refine stop_here ?_))
local macro_rules | `(tactic| walk_at "TEnd") => `(tactic| (refine stop_here ?_))
local macro_rules | `(tactic| kst_in) => `(tactic| ((repeat (first | with_reducible exact sub_refl | with_reducible exact sub_nil | with_reducible exact sub_left | with_reducible exact sub_right | with_reducible refine sub_keep ?_ | with_reducible refine sub_skip ?_)); done))
local macro_rules | `(tactic| walk_at "exec For Tuple Subscript") => `(tactic| (k_here; (rename Fr _ _ _ _ => lF'); (with_unfolding_all refine' For_invTF lF' ?_ (by intro _; rfl)); k_whole))
local macro_rules | `(tactic| walk_at "call builtin:list.extend") => `(tactic| (k_here; (with_reducible show wpAny _ _ (call (Value.builtin _) [Value.ref _, Value.ref _]) _ _ _); k_dflt (refine' extend_range_K ?hh ?F ?N ?U ?hr ?small ?hn ?sz ?_; (case hh => exact rfl); (case F => k_asm); (case N => k_asm); (case U => k_updF); (case hr => assumption); (case small => exact small_one (by omega) (by omega) (by omega) (by omega)); (case hn => exact rangeSize_nat _ _); (case sz => omega)); intro h' tk' ws' c' hws' F' N'; (try dsimp only [List.nil_append, List.cons_append] at N')))
local macro_rules | `(tactic| walk_at "PTurn") => `(tactic| (refine stop_here ?_))
theorem tup_type {h₀ : Heap} {L T : Addr} {news : List (Addr × Obj)} {us : List Value} {n : Nat} {s : Shared} (N : News h₀ L s.heap news) (h : (T, TUP us n) ∈ news) : s.TypeIs (.ref T) "tuple" := ⟨_, (N _ h).1, rfl⟩
local macro_rules | `(tactic| walk_at "call builtin:isinstance") => `(tactic| (k_here; (with_reducible show wpAny _ _ (call _ [Value.ref _, Value.type _]) _ _ _); k_dflt (refine' call_isinstance_yes (Tx := "tuple") (tup_type ?N ?m) ?ty ?sub ?_; (case N => k_asm); (case m => (repeat (first | with_reducible assumption | refine List.mem_cons_of_mem _ ?_))); (case ty => kernel_rfl); (case sub => (rw [isSubtype_type]; kernel_rfl)))))
theorem ite_isTrue {b : Bool} {p q : Prop} (h : b = true) (hp : p) : if b = true then p else q := by rw [h]; exact hp
local macro_rules | `(tactic| walk_at "ite") => `(tactic| ((with_reducible show (if ((PySem.Str.ofString _ == PySem.Str.ofString _) = true) then _ else _)); first | refine ite_isFalse (by decide +kernel) ?_ | refine ite_isTrue (by decide +kernel) ?_))
set_option maxHeartbeats 8000000 in
theorem law_holds : PySem.Challenge.rw_nz0263_01.Holds := hd (by
  w_top off
  k_go0
  all_goals try k_fold
  k_steps
  unfold Stop
  rename_i s1 _ _ _ _ _ _ _ _ _ _ _ _ _ _ _ _ _ _ _ _ _ _ _ _ sns _ _ _ _ _ _ _ _ _ _ _ _ _ _ _ _ _ _ _ _ _ _ c4 c3 c2 c1 _ lc4 lc3 lc2 _ _ _ _ wsA _ hIA hCA _ _ DC cC _ _ _ _ _ _ _ _ _ _ _ _ _ tk2 lP _ _ _ oP _ _ _ _ DN wsN xs nD _ _ _ _ _ _ hi hxl hnd hxb i00 i01 b00 _ _ _ _ d _ i1 ti1 b1 tb1 _ _ d0 d1 i10 i11 b10 _ _ _ _ _ _ _ R1 F2 N2 _
  have N3 : News _ _ _ ([(DN, listOf wsN.toArray nD), (lP, PEN DC i1 ti1 b1 tb1 ((if (List.take 63 sns).sum < 0 then -(List.take 63 sns).sum else (List.take 63 sns).sum).fmod 1009) (tk2 + 1) 0), (DC, listOf wsA.toArray cC), (s1.heap.objs.size + 1 + 1 + 1 + 1 + 1, c4), (s1.heap.objs.size + 1 + 1 + 1 + 1, c3), (s1.heap.objs.size + 1 + 1 + 1, c2), (s1.heap.objs.size + 1 + 1, c1), (s1.heap.objs.size + 1, oP)] : List (Addr × Obj)) := kst_newsOf N2 (by k_allIn)
  refine LCg.CompSrc.range (by rfl) (by k_asm) N3 R1 (small_one (by omega) (by omega) (by omega) (by omega)) (rangeSize_nat _ _) (by rw [PySem.sizeLine_eq]; omega) ?_
  intro g'
  refine comp_rest (fun i ys nw => ∃ ss i2 ti2 b2 tb2, StrsAre ys ss ∧ ss.length = i ∧ i1 ≤ i2 ∧ i2 ≤ i1 + i ∧ 0 ≤ b2 ∧
    okw ss ∧ nw = [(DN, listOf wsN.toArray nD), (lP, PEN DC i2 ti2 b2 tb2 ((if (List.take 63 sns).sum < 0 then -(List.take 63 sns).sum else (List.take 63 sns).sum).fmod 1009) (tk2 + 1) 0), (DC, listOf wsA.toArray cC), (s1.heap.objs.size + 1 + 1 + 1 + 1 + 1, c4), (s1.heap.objs.size + 1 + 1 + 1 + 1, c3), (s1.heap.objs.size + 1 + 1 + 1, c2), (s1.heap.objs.size + 1 + 1, c1), (s1.heap.objs.size + 1, oP)]) ?turn ?fin _ 0 [] _ (Nat.zero_add _) ⟨[], i1, ti1, b1, tb1, .nil, rfl, by omega, by omega, b10, okw_nil, rfl⟩
  case turn =>
    rintro i ys news hin ⟨ss, i2, ti2, b2, tb2, hss, hsl, e1, e2, e3, hok, rfl⟩ v I oI C oC D m2 h tk E' hv hC hx F N off ne
    simp only [LCg.Off3, and_true] at off
    k_steps
    all_goals (
      unfold Stop
      rename News _ _ _ _ => nE'
      refine' LCg.CompEnd.intro ?ceF nE' _ ?ceS ?ceO trivial ⟨_, _, _, _, _, kct_snoc hss, ?ceL, ?ceA, ?ceB, ?ceC, ?ceK, rfl⟩
      case ceF => assumption
      case ceS => kst_in
      case ceO => (simp only [LCg.Off3, and_true]; exact off)
      case ceL => simp [hsl]
      case ceA => omega
      case ceB => (have q9 := hin; omega)
      case ceC => assumption
      case ceK => exact okw_snoc hok (by decide +kernel))
  case fin =>
    rintro ys news ⟨ss, i2, ti2, b2, tb2, hss, hsl, e1, e2, e3, hok, rfl⟩
    k_steps
    unfold Stop
    rename_i DW _ _ _ _ oW dW _ _ _ _ _ _ _ F9 N9 l9
    intro D es n L' h' tk' hE hsub hD F' N'
    obtain ⟨kvs, hkv, hkp⟩ := esp_kv hE
    have hDW := hsub (DW, LCg.lst ys) (by k_mem)
    have hDN := hsub (DN, listOf wsN.toArray nD) (by k_mem)
    have h5 := hsub (s1.heap.objs.size + 1 + 1 + 1 + 1 + 1, c4) (by k_mem)
    have h4 := hsub (s1.heap.objs.size + 1 + 1 + 1 + 1, c3) (by k_mem)
    have h3 := hsub (s1.heap.objs.size + 1 + 1 + 1, c2) (by k_mem)
    have h2 := hsub (s1.heap.objs.size + 1 + 1, oW) (by k_mem)
    have h1 := hsub (s1.heap.objs.size + 1, oP) (by k_mem)
    have z5 := ne_cell N' hD h5 lc4
    have z4 := ne_cell N' hD h4 lc3
    have z3 := ne_cell N' hD h3 lc2
    obtain ⟨LT, hkv2, hkp2, hsubT, hoffT⟩ : ∃ LT : List (Addr × Obj), KvAre LT es kvs ∧ KVP LT xs ss kvs ∧ (∀ p ∈ LT, p ∈ L') ∧ OwnOff LT [s1.heap.objs.size + 1 + 1 + 1 + 1 + 1, s1.heap.objs.size + 1 + 1 + 1 + 1, s1.heap.objs.size + 1 + 1 + 1, s1.heap.objs.size + 1 + 1 + 1, s1.heap.objs.size + 1 + 1 + 1] :=
      ⟨L'.filter isT, kv_filt hkv, kvp_filt hkp, fun p hp => (List.mem_filter.mp hp).1, ownoff5 (off_cell N' h5 lc4) (off_cell N' h4 lc3) (off_cell N' h3 lc2) (off_cell N' h3 lc2) (off_cell N' h3 lc2)⟩
    have NB : News _ _ _ ((D, listOf es.toArray n) :: (DW, LCg.lst ys) :: (DN, listOf wsN.toArray nD) :: (s1.heap.objs.size + 1 + 1 + 1 + 1 + 1, c4) :: (s1.heap.objs.size + 1 + 1 + 1 + 1, c3) :: (s1.heap.objs.size + 1 + 1 + 1, c2) :: (s1.heap.objs.size + 1 + 1, oW) :: (s1.heap.objs.size + 1, oP) :: LT) :=
      kst_newsOf N' (List.forall_mem_cons.mpr ⟨hD, List.forall_mem_cons.mpr ⟨hDW, List.forall_mem_cons.mpr ⟨hDN, List.forall_mem_cons.mpr ⟨h5, List.forall_mem_cons.mpr ⟨h4, List.forall_mem_cons.mpr ⟨h3, List.forall_mem_cons.mpr ⟨h2, List.forall_mem_cons.mpr ⟨h1, hsubT⟩⟩⟩⟩⟩⟩⟩⟩)
    clear N' hkv hkp hE hsub hD hDW hDN h5 h4 h3 h2 h1 hsubT N9
    clear e1 e2 e3 hIA hCA i00 i01 b00
    (try dsimp only)
    k_steps
    unfold Stop
    rename_i D2 oD2 _ _ od2 sm2 l2 _ oT FX NX dT
    refine cut (l1 := [_, _, _]) [PySem.Str.ofString "due"] (fun Lj => ∀ p ∈ (((D2, oD2) :: (D, listOf es.toArray n) :: (DW, LCg.lst ys) :: (DN, listOf wsN.toArray nD) :: (s1.heap.objs.size + 1 + 1 + 1 + 1 + 1, c4) :: (s1.heap.objs.size + 1 + 1 + 1 + 1, c3) :: (s1.heap.objs.size + 1 + 1 + 1, oT) :: (s1.heap.objs.size + 1 + 1, oW) :: (s1.heap.objs.size + 1, oP) :: LT) : List (Addr × Obj)), p ∈ Lj) FX ?c1 ?c2
    case c1 =>
      k_steps
      rename News _ _ _ _ => NT
      refine tup_src (by rfl) (by assumption) NT (by k_mem) (by exact Nat.le_of_ble_eq_true rfl) (fun i ys => StrsAre ys ((MENU.take i).filter (dueP ss))) .nil ?turnD ?finD
      case turnD =>
        intro g i zs hi hI v I oI C oC D3 m2 h tk E' hv hC hx F N off ne
        have hi4 : i < 4 := hi
        obtain rfl | rfl | rfl | rfl : i = 0 ∨ i = 1 ∨ i = 2 ∨ i = 3 := by omega
        · simp only [List.getElem?_toArray, List.getElem?_cons_zero, List.getElem?_cons_succ, Option.some.injEq] at hv
          subst hv
          k_steps
          all_goals (
            unfold Stop
            rename News _ _ _ _ => nE'
            refine turn_end (by assumption) nE' ?tsub ?tiv
            case tsub => first | exact fun _ hp => hp | exact fun _ hp => List.mem_cons_of_mem _ hp | kst_in
            case tiv => first | exact menu_yes (l := MENU) (i := 0) rfl hI (dueP_t (by assumption)) | exact menu_no (l := MENU) (i := 0) rfl hI (dueP_f (by assumption) (by decide +kernel)))
        · simp only [List.getElem?_toArray, List.getElem?_cons_zero, List.getElem?_cons_succ, Option.some.injEq] at hv
          subst hv
          k_steps
          all_goals (
            unfold Stop
            rename News _ _ _ _ => nE'
            refine turn_end (by assumption) nE' ?tsub ?tiv
            case tsub => first | exact fun _ hp => hp | exact fun _ hp => List.mem_cons_of_mem _ hp | kst_in
            case tiv => first | exact menu_yes (l := MENU) (i := 1) rfl hI (dueP_t (by assumption)) | exact menu_no (l := MENU) (i := 1) rfl hI (dueP_f (by assumption) (by decide +kernel)))
        · simp only [List.getElem?_toArray, List.getElem?_cons_zero, List.getElem?_cons_succ, Option.some.injEq] at hv
          subst hv
          k_steps
          all_goals (
            unfold Stop
            rename News _ _ _ _ => nE'
            refine turn_end (by assumption) nE' ?tsub ?tiv
            case tsub => first | exact fun _ hp => hp | exact fun _ hp => List.mem_cons_of_mem _ hp | kst_in
            case tiv => first | exact menu_yes (l := MENU) (i := 2) rfl hI (dueP_t (by assumption)) | exact menu_yes (l := MENU) (i := 2) rfl hI (dueP_at (of_decide_eq_true (by assumption))) | exact menu_no (l := MENU) (i := 2) rfl hI (dueP_af (by assumption) (of_decide_eq_false (by assumption))))
        · simp only [List.getElem?_toArray, List.getElem?_cons_zero, List.getElem?_cons_succ, Option.some.injEq] at hv
          subst hv
          k_steps
          all_goals (
            unfold Stop
            rename News _ _ _ _ => nE'
            refine turn_end (by assumption) nE' ?tsub ?tiv
            case tsub => first | exact fun _ hp => hp | exact fun _ hp => List.mem_cons_of_mem _ hp | kst_in
            case tiv => first | exact menu_yes (l := MENU) (i := 3) rfl hI (dueP_t (by assumption)) | exact menu_no (l := MENU) (i := 3) rfl hI (dueP_f (by assumption) (by decide +kernel)))
      case finD =>
        intro g zs hI
        have hI2 : StrsAre zs (MENU.filter (dueP ss)) := hI
        have hokD : okw (dueL xs ss) := okw_due
        clear hI
        k_steps
        · unfold Stop
          rename Fr _ _ _ _ => FA
          rename News _ _ _ _ => NA
          rename_i hx0
          have hx1 : xs = [] := of_decide_eq_true hx0
          have hz4 : zs.length ≤ 4 := by rw [hI2.length]; exact Nat.le_trans (List.length_filter_le _ _) (by decide)
          refine lst_srcT (by rfl) FA NA (by k_mem) (small_list hz4) (fun i ys => StrsAre ys (((MENU.filter (dueP ss)).take i).filter (· == Str.ofString "COUNT"))) .nil ?turnC ?finC
          case turnC =>
            intro g i zs3 hi hI v I oI C oC D3 m2 h tk E' hv hC hx F N off ne
            obtain ⟨k, t, rfl, hk⟩ := hI2.item i v (by simpa using hv)
            k_steps
            all_goals (
              unfold Stop
              rename News _ _ _ _ => nE'
              refine turn_end (by assumption) nE' ?tsub ?tiv
              case tsub => first | exact fun _ hp => hp | exact fun _ hp => List.mem_cons_of_mem _ hp | kst_in
              case tiv => first | exact menu_yes hk hI (by assumption) | exact menu_no hk hI (by assumption))
          case finC =>
            intro g zs2 hI3
            have hI4 : StrsAre zs2 (dueL xs ss) := due_nil hx1 hI3 hI2
            clear hI3
            k_steps
            unfold Stop
            rename Fr _ _ _ _ => FB
            rename News _ _ _ _ => NB2
            refine lst_srcP (by rfl) FB NB2 (by k_mem) (small_list (n := 1000) (kv_small hkv2 hkp2)) (fun i ys => StrsAre ys ((kvs.map (·.1)).take i)) .nil ?turnK ?finK
            case turnK =>
              intro g i zs5 hi hI v hv
              obtain ⟨a, k, t, x, n5, rfl, hm, hk⟩ := hkv2.at (by simpa using hv)
              refine ⟨a, TUP [.str k t, x] n5, .str k t, x, n5, rfl, (by repeat' (first | exact hm | refine List.mem_cons_of_mem _ ?_)), rfl, rfl, ?_⟩
              intro I oI C oC D3 m2 h tk E' hC hx hx2 F N off ne
              k_steps
              all_goals (
                unfold Stop
                rename News _ _ _ _ => nE'
                refine turn_end (by assumption) nE' ?tsub ?tiv
                case tsub => first | exact fun _ hp => hp | exact fun _ hp => List.mem_cons_of_mem _ hp | kst_in
                case tiv => exact keys_snoc hk hI)
            case finK =>
              intro g zs5 hI5
              have hI6 := keys_all hkv2 hkp2 hI5
              clear hI5
              rcases kvp_count hkp2 with ⟨y, hvC, tC, rfl⟩ | hvC
              all_goals k_steps
              all_goals first
                | exact absurd rfl (by assumption)
                | (unfold Stop
                   rename Fr _ _ _ _ => FC
                   rename News _ _ _ _ => NC
                   refine cut_end FC NC ?cm ?cj
                   case cm =>
                     intro y hy
                     have hne : y ≠ Str.ofString "due" := by rintro rfl; revert hy; decide +kernel
                     refine (if_neg hne).trans ?_
                     first | with_reducible rfl | (refine (if_neg hne).trans ?_; with_reducible rfl)
                   case cj => intro p hp; repeat (first | with_reducible exact hp | refine List.mem_cons_of_mem _ ?_))
        · have hI4 : StrsAre zs (dueL xs ss) := due_cons (of_decide_eq_false (by assumption)) hI2
          unfold Stop
          rename Fr _ _ _ _ => FB
          rename News _ _ _ _ => NB2
          refine lst_srcP (by rfl) FB NB2 (by k_mem) (small_list (n := 1000) (kv_small hkv2 hkp2)) (fun i ys => StrsAre ys ((kvs.map (·.1)).take i)) .nil ?turnK ?finK
          case turnK =>
            intro g i zs5 hi hI v hv
            obtain ⟨a, k, t, x, n5, rfl, hm, hk⟩ := hkv2.at (by simpa using hv)
            refine ⟨a, TUP [.str k t, x] n5, .str k t, x, n5, rfl, (by repeat' (first | exact hm | refine List.mem_cons_of_mem _ ?_)), rfl, rfl, ?_⟩
            intro I oI C oC D3 m2 h tk E' hC hx hx2 F N off ne
            k_steps
            all_goals (
              unfold Stop
              rename News _ _ _ _ => nE'
              refine turn_end (by assumption) nE' ?tsub ?tiv
              case tsub => first | exact fun _ hp => hp | exact fun _ hp => List.mem_cons_of_mem _ hp | kst_in
              case tiv => exact keys_snoc hk hI)
          case finK =>
            intro g zs5 hI5
            have hI6 := keys_all hkv2 hkp2 hI5
            clear hI5
            rcases kvp_count hkp2 with ⟨y, hvC, tC, rfl⟩ | hvC
            all_goals k_steps
            all_goals first
              | exact absurd rfl (by assumption)
              | (unfold Stop
                 rename Fr _ _ _ _ => FC
                 rename News _ _ _ _ => NC
                 refine cut_end FC NC ?cm ?cj
                 case cm =>
                   intro y hy
                   have hne : y ≠ Str.ofString "due" := by rintro rfl; revert hy; decide +kernel
                   refine (if_neg hne).trans ?_
                   first | with_reducible rfl | (refine (if_neg hne).trans ?_; with_reducible rfl)
                 case cj => intro p hp; repeat (first | with_reducible exact hp | refine List.mem_cons_of_mem _ ?_))
    case c2 =>
      intro h9 tk9 u9 L9 F9 N0 hJ9
      have N9 := kst_newsOf N0 hJ9
      clear N0 hJ9
      obtain ⟨um, FM⟩ := fr_only F9 (PySem.Str.ofString "numbers") (.ref DN) (by rfl)
      clear F9

      refine cut (l1 := [_]) [PySem.Str.ofString "beyond"] (fun Lj => ∀ p ∈ (((D2, oD2) :: (DN, listOf wsN.toArray nD) :: (s1.heap.objs.size + 1 + 1 + 1, oT) :: LT) : List (Addr × Obj)), p ∈ Lj) FM ?d1 ?d2
      case d1 =>
        k_steps
        rename_i t1 _ _ t2 _ _ t3 _ FT NT lT
        unfold Stop
        refine' tup_iterT (us := [.ref t1, .ref t2]) (kT := 0) (m₀ := ?M) (SJ (s1.heap.objs.size + 1 + 1 + 1 + 1 + 1) (s1.heap.objs.size + 1 + 1 + 1 + 1) ((t3, TUP [.ref t1, .ref t2] 0) :: (t2, TUP [.str (PySem.Str.ofString "MAX") (tk9 + 1), .bool false] 0) :: (t1, TUP [.str (PySem.Str.ofString "MIN") tk9, .bool true] 0) ::
            (D2, oD2) :: (DN, listOf wsN.toArray nD) :: (s1.heap.objs.size + 1 + 1 + 1, oT) :: LT) [PySem.Str.ofString "beyond"] ?M) (by rfl) (by rfl) ?hJT FT (kst_newsOf NT (List.forall_mem_cons.mpr ⟨by k_mem, List.forall_mem_cons.mpr ⟨by k_mem, by kst_in⟩⟩)) ⟨c3, c4, none, none, lc3, lc4, fun _ _ => rfl, rfl⟩ ?turn ?done
        case hJT =>
          rintro i m nx ⟨o3, o4, v3, v4, _, _, _, rfl⟩
          exact .tail _ (.tail _ (.head _))
        case turn =>
          clear NT FT
          rintro i v m₁ news₁ s₁ own hiv hoff ⟨o3, o4, v3, v4, d3, d4, hm, rfl⟩ F₁ N₁
          rw [cut_map hm] at F₁
          have hoffR := off_app hoffT hoff (by simp)
          simp only [List.cons_append] at N₁

          have hSnil : StrsAre ([] : List Value) [] := .nil
          have hOnil : okw [] := okw_nil
          match i, hiv with
          | 0, hiv =>
            obtain rfl : Value.ref t1 = v := by simpa using hiv
            rcases kvp_min hkp2 with ⟨y1, hv1, w1, tw1, rfl, hw1, hm1⟩ | hv1
            · k_steps
              unfold Stop
              rename Fr _ _ _ _ => FB
              rename News _ _ _ _ => NB2
              refine lst_srcT (by rfl) FB NB2 (by k_mem) (small_list (n := 1000) (by rw [hi.length]; omega)) (fun i ys => ys = []) rfl ?turnB ?finB
              case turnB =>
                rintro g i zs hi2 rfl v I oI C oC D3 m2 h tk E' hv hC hx F N off ne
                obtain ⟨x, tx, rfl, hxm⟩ := ints_item hi (by simpa using hv)
                have hx1 := hm1 x hxm
                k_steps
                all_goals (
                  unfold Stop
                  rename News _ _ _ _ => nE'
                  refine turn_end (by assumption) nE' ?tsub rfl
                  case tsub => first | exact fun _ hp => hp | exact fun _ hp => List.mem_cons_of_mem _ hp | kst_in)
              case finB =>
                rintro g zs rfl
                k_steps
                all_goals first
                  | exact absurd rfl (by assumption)
                  | (exfalso; exact any_abs hw1 (by assumption) (by simp))
                  | (unfold Stop
                     rename Fr _ _ _ _ => FB
                     rename News _ _ _ _ => NB2
                     refine' sj_end FB NB2 ?m4 ?m3 ?d4 ?d3 ?q1 hoff ?q3 ?q4
                     case m4 => k_mem
                     case m3 => k_mem
                     case d4 => assumption
                     case d3 => assumption
                     case q1 =>
                       intro z hz
                       have hb : ¬ ([PySem.Str.ofString "beyond"].contains z = true) := by rw [hz]; exact Bool.false_ne_true
                       have hne : z ≠ PySem.Str.ofString "beyond" := by rintro rfl; revert hz; decide +kernel
                       first | exact if_neg hb | exact (if_neg hne).trans (if_neg hb)
                     case q3 => kst_in
                     case q4 => kst_in)
            · k_steps
              all_goals first
                | exact absurd rfl (by assumption)
                | (unfold Stop
                   rename Fr _ _ _ _ => FB
                   rename News _ _ _ _ => NB2
                   refine' sj_end FB NB2 ?m4 ?m3 ?d4 ?d3 ?q1 hoff ?q3 ?q4
                   case m4 => k_mem
                   case m3 => k_mem
                   case d4 => assumption
                   case d3 => assumption
                   case q1 =>
                     intro z hz
                     have hb : ¬ ([PySem.Str.ofString "beyond"].contains z = true) := by rw [hz]; exact Bool.false_ne_true
                     have hne : z ≠ PySem.Str.ofString "beyond" := by rintro rfl; revert hz; decide +kernel
                     first | exact if_neg hb | exact (if_neg hne).trans (if_neg hb)
                   case q3 => kst_in
                   case q4 => kst_in)
          | 1, hiv =>
            obtain rfl : Value.ref t2 = v := by simpa using hiv
            rcases kvp_max hkp2 with ⟨y1, hv1, w1, tw1, rfl, hw1, hm1⟩ | hv1
            · k_steps
              unfold Stop
              rename Fr _ _ _ _ => FB
              rename News _ _ _ _ => NB2
              refine lst_srcT (by rfl) FB NB2 (by k_mem) (small_list (n := 1000) (by rw [hi.length]; omega)) (fun i ys => ys = []) rfl ?turnB ?finB
              case turnB =>
                rintro g i zs hi2 rfl v I oI C oC D3 m2 h tk E' hv hC hx F N off ne
                obtain ⟨x, tx, rfl, hxm⟩ := ints_item hi (by simpa using hv)
                have hx1 := hm1 x hxm
                k_steps
                all_goals (
                  unfold Stop
                  rename News _ _ _ _ => nE'
                  refine turn_end (by assumption) nE' ?tsub rfl
                  case tsub => first | exact fun _ hp => hp | exact fun _ hp => List.mem_cons_of_mem _ hp | kst_in)
              case finB =>
                rintro g zs rfl
                k_steps
                all_goals first
                  | exact absurd rfl (by assumption)
                  | (exfalso; exact any_abs hw1 (by assumption) (by simp))
                  | (unfold Stop
                     rename Fr _ _ _ _ => FB
                     rename News _ _ _ _ => NB2
                     refine' sj_end FB NB2 ?m4 ?m3 ?d4 ?d3 ?q1 hoff ?q3 ?q4
                     case m4 => k_mem
                     case m3 => k_mem
                     case d4 => assumption
                     case d3 => assumption
                     case q1 =>
                       intro z hz
                       have hb : ¬ ([PySem.Str.ofString "beyond"].contains z = true) := by rw [hz]; exact Bool.false_ne_true
                       have hne : z ≠ PySem.Str.ofString "beyond" := by rintro rfl; revert hz; decide +kernel
                       first | exact if_neg hb | exact (if_neg hne).trans (if_neg hb)
                     case q3 => kst_in
                     case q4 => kst_in)
            · k_steps
              all_goals first
                | exact absurd rfl (by assumption)
                | (unfold Stop
                   rename Fr _ _ _ _ => FB
                   rename News _ _ _ _ => NB2
                   refine' sj_end FB NB2 ?m4 ?m3 ?d4 ?d3 ?q1 hoff ?q3 ?q4
                   case m4 => k_mem
                   case m3 => k_mem
                   case d4 => assumption
                   case d3 => assumption
                   case q1 =>
                     intro z hz
                     have hb : ¬ ([PySem.Str.ofString "beyond"].contains z = true) := by rw [hz]; exact Bool.false_ne_true
                     have hne : z ≠ PySem.Str.ofString "beyond" := by rintro rfl; revert hz; decide +kernel
                     first | exact if_neg hb | exact (if_neg hne).trans (if_neg hb)
                   case q3 => kst_in
                   case q4 => kst_in)
          | i + 2, hiv => simp at hiv
        case done =>
          rintro m₁ news₁ h tk hJ F₁ N₁
          obtain ⟨o3, o4, v3, v4, d3, d4, hm, rfl⟩ := hJ
          k_steps
          unfold Stop
          refine cut_end F₁ N₁ hm ?_
          intro p hp
          iterate 5 (refine List.mem_cons_of_mem _ ?_)
          exact hp
      case d2 =>
        intro h8 tk8 u8 L8 F8 N0 hJ8
        have N8 := kst_newsOf N0 hJ8
        obtain ⟨uk, FK⟩ := fr_only F8 (PySem.Str.ofString "numbers") (.ref DN) (by rfl)
        clear N0 hJ8 F8
        rcases kvp_all hkp2 with ⟨y3, hv3, T, us, ns, rfl, hT, hps, hpm, hso⟩ | hv3
        · k_steps
          unfold Stop
          rename_i lH _ lt1 _ _ _ _ _ _ FH NH
          have hsep : ∀ p ∈ ((D2, oD2) :: (DN, listOf wsN.toArray nD) :: (s1.heap.objs.size + 1 + 1 + 1, oT) :: LT : List (Addr × Obj)), p.1 ≠ lH := by
            obtain ⟨q1, q2, q3, q4⟩ := lt1
            exact List.forall_mem_cons.mpr ⟨Nat.ne_of_lt q1, List.forall_mem_cons.mpr ⟨Nat.ne_of_lt q2, List.forall_mem_cons.mpr ⟨Nat.ne_of_lt q3, ne_of_allLt q4⟩⟩⟩
          obtain ⟨g1, g2, g3⟩ := ranges_good hpm hso hnd hxb
          have hnl : ns.length ≤ 20 := by rw [hpm.length_eq]; exact hxl
          refine' pairs_loop (D := lH) (n₀ := 0) (ps := ranges ns) (cst := (D2, oD2) :: (DN, listOf wsN.toArray nD) :: (s1.heap.objs.size + 1 + 1 + 1, oT) :: LT) (l₀ := -1) (PySem.Str.ofString "last") [PySem.Str.ofString "low", PySem.Str.ofString "high"]
            (fun pre c => c.xs = flat pre ∧ c.last = lastOf (-1) pre) (by rfl) (by rfl) ?hT (prs_mono hps ?hsub) hsep FH (kst_newsOf NH (by kst_in)) (by rfl) ⟨rfl, rfl⟩ ?turn ?done
          case hT => exact List.mem_cons_of_mem _ (List.mem_cons_of_mem _ (List.mem_cons_of_mem _ hT))
          case hsub => kst_in
          case turn =>
            clear NH FH
            rintro c pre a b post ta tb q nq um2 s₁ R hps2 hints ⟨hP1, hP2⟩ hoffR hqD F₁ N₁
            rw [hps2] at g1 g2 g3
            have hst := turn_facts g1 g2 hnl
            have hab := g3 (a, b) (List.mem_append.mpr (.inr (.head _)))
            rw [← hP1, ← hints.length, ← hP2] at hst
            obtain ⟨hv1, hv2, hv3, hv4⟩ := hst
            dsimp only at hab
            obtain ⟨hb1, hb2⟩ := hab
            delta hmap at F₁

            k_steps
            unfold Stop
            rename Fr _ _ _ _ => FE
            rename News _ _ _ _ => NE
            rename IntsAre _ (rangeKs _ _) => hws
            refine ⟨rfl, ⟨_, c.xs ++ seg (a, b), _, b, _⟩, _, _, _, rfl, FE, kst_newsOf NE (sub_keep (sub_skip sub_refl)), hints.append hws, rfl, ?ot, ?pf, ?pl⟩
            case pf => (rw [flat_snoc, hP1])
            case pl => exact (lastOf_snoc (a, b) pre (-1)).symm
            case ot =>
              intro z h1 h2
              have hl : z ≠ PySem.Str.ofString "low" := by rintro rfl; revert h2; decide +kernel
              have hh : z ≠ PySem.Str.ofString "high" := by rintro rfl; revert h2; decide +kernel
              have hc : ¬ ([PySem.Str.ofString "low", PySem.Str.ofString "high"].contains z = true) := by rw [h2]; exact Bool.false_ne_true
              simp only [if_neg h1, if_neg hl, if_neg hh, if_neg hc]
          case done =>
            rintro c um2 h tk hints ⟨hP1, hP2⟩ F₁ N₁
            clear NH FH
            delta hmap at F₁
            rw [g1] at hP1

            k_steps
            all_goals (
              exfalso
              rename List.Perm _ _ => pp
              rename List.Pairwise _ _ => oo
              rename ¬ (_ = _) => nn
              refine nn (hP1.trans (sorted_unique ?_ hso oo))
              first | exact hpm.trans pp.symm | exact hpm.trans pp)
        · k_steps)
end Mine


theorem PySem.Challenge.cw_nz0263_01_holds : PySem.Challenge.rw_nz0263_01.Holds := by
  exact Mine.law_holds
