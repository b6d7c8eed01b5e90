import PyProof.Rows.All
import Wide.All
import OpenK.AllK
import Wide.FinOn
import PySem.Challenge.RW_xw0262_01
set_option Elab.async false
set_option maxRecDepth 100000
set_option maxHeartbeats 8000000
set_option compiler.extract_closed false
open PySem PySem.W PySem.Spec PySem.Calls PyProof.Rows
namespace Mine
def tag (n : Nat) : Nat := n
theorem tag_of (_h : PySem.Challenge.rw_xw0262_01.row.Holds) (n : Nat) : tag n = n := rfl
theorem hd : tag 0 = 0 ∨ True := by
  simp (disch := (refine' And.right (And.intro ?hl ?m); case' m => k_head)) only [tag_of, or_true]
def Does (w : World) (mean : ExcName → Option Value) (mg mb : Str → Option Value) (k : Nat) (f : Addr) (news : List (Addr × Obj)) (vs : List Value) (Res : Value → List (Addr × Obj) → Prop) : Prop :=
  ∀ (dp un : Nat) (gd : Option (List Code)) (cn : Str) (cs : Scope) (a : Addr) (ccd : Value) (cl : List (Str × Addr)) (outer : List Env) (A₀ : Around) (base h₀ : Heap) (L : Addr) (m : Str → Option Value) (s : Shared) (Q E : Value → Shared → Prop),
    Below A₀ base outer h₀ → Fr h₀ L s.heap m → (hd.heap_1 w.params).In h₀ → News h₀ L s.heap news → Top hd.view_1 (looseW hd.view_1 []) mean mg mb h₀ → cs.kind = .function →
    dp + k < recursionLimit → un + 8 * k + 100 < cLine →
    (∀ v tl h' tk', Res v tl → Fr h₀ L h' m → News h₀ L h' tl → Q v { s with heap := h', toks := tk' }) →
    wpAny (model PySem.Challenge.rw_xw0262_01.row.toRowW.prog w) (ktrTop dp un gd cn cs L a ccd cl outer) (call (.ref f) vs) Q E s
theorem item_at {prog : Program} {w : World} {A E s} {value slice : PySem.Expr} {h₀ : Heap} {L l : Addr} {news : List (Addr × Obj)} {n : Nat} {vs : List Value} {k : Int} {u : Tok} {v : Value} {Q : Value → Shared → Prop}
    (N : News h₀ L s.heap news) (hm : (l, listOf vs.toArray n) ∈ news) (h0 : 0 ≤ k) (hhi : k < 2 ^ 63) (hx : vs[k.toNat]? = some v) (h : Q v s)
    (hs : subscripted slice false (.ref l) (.int k u) = operate [.ref l, .int k u] (getItem (.ref l) (.int k u)) := by with_unfolding_all rfl) :
    wpAny (model prog w) A (subscriptTail value slice (.ref l) (.int k u)) Q E s :=
  have hl : s.heap.IsList l vs.toArray := ⟨_, (N _ hm).1, rfl, n, rfl⟩
  tail_any hl.typeIs slot_list_getitem.lookup (wpAny_getItem_list hl h0 hhi (by simpa using hx) h) hs

theorem draw_bound {xs : List Int} (hb : ∀ x ∈ xs, 0 ≤ x ∧ x < 999983) (hne : 0 < xs.length) {i : Int} (h0 : 0 ≤ i) (h1 : i ≤ 10) :
    0 ≤ xs.getD (i.fmod ↑xs.length).toNat 0 + 7919 * i.fdiv ↑xs.length ∧ xs.getD (i.fmod ↑xs.length).toNat 0 + 7919 * i.fdiv ↑xs.length < 1079173 := by
  have e1 : 0 ≤ i.fdiv (xs.length : Int) := Int.fdiv_nonneg h0 (by omega)
  have e2 : i.fdiv (xs.length : Int) ≤ 10 := by
    rw [Int.fdiv_eq_ediv_of_nonneg _ (by omega)]
    have := Int.ediv_le_self (xs.length : Int) h0
    omega
  have e3 : 0 ≤ xs.getD (i.fmod ↑xs.length).toNat 0 ∧ xs.getD (i.fmod ↑xs.length).toNat 0 < 999983 := by
    rw [List.getD_eq_getElem?_getD]
    cases hq : xs[(i.fmod ↑xs.length).toNat]? with
    | none => simp
    | some y => simpa using hb y (List.mem_of_getElem? hq)
  omega

section
local macro_rules | `(tactic| walk_at "call builtin:len") => `(tactic| ((refine' kst_len ?k1 ?k2 ?k3 ?k4 ?_; (case k1 => k_asm); (case k2 => assumption); (case k3 => exact IntsAre.length (by assumption)); (case k4 => omega); k_whole)))
theorem draw_does (w : World) (mean mg mb) (l : Addr) (xs : List Int) (vs : List Value) (n : Nat) (news) (hm : (l, listOf vs.toArray n) ∈ news) (hi : IntsAre vs xs) (hne : 0 < xs.length) (hlen : xs.length ≤ 11)
    (hb : ∀ x ∈ xs, 0 ≤ x ∧ x < 999983) (i : Int) (t) (h0 : 0 ≤ i) (h1 : i ≤ 10) :
    Does w mean mg mb 2 315 news [.ref l, .int i t] (fun v tl => tl = news ∧ ∃ r u, v = .int r u ∧ 0 ≤ r ∧ r < 1079173) := by
  unfold Does
  k_fill
  intro dp un gd cn cs a ccd cl outer A₀ base h₀ L m s Q E B F X N T hk hdp hun hret
  refine wpAny_call ?_
  k_dflt ktr_enter
  k_steps
  exact hret _ news _ _ ⟨rfl, _, _, rfl, draw_bound hb hne h0 h1⟩ (by k_asm) (by k_asm)
end



section
variable {prog : Program} {w : World} {A : Around} {E : Value → Shared → Prop} {s : Shared} {t u : Tok} {Q : Value → Shared → Prop}
theorem pow2 {n v : Int} (hv : (2 : Int) ^ n.toNat = v) (hn : 0 ≤ n) (hn2 : n ≤ 1000000) (h : Q (.int v s.toks) { s with toks := s.toks + 1 }) :
    wpAny (model prog w) A (binaryOp .Pow (.int 2 t) (.int n u)) Q E s := pow_int_small hn hn2 (by decide) (by rw [hv]; exact h)
theorem pow32 (h : Q (.int 4294967296 s.toks) { s with toks := s.toks + 1 }) : wpAny (model prog w) A (binaryOp .Pow (.int 2 t) (.int 32 u)) Q E s := pow2 (by decide) (by decide) (by decide) h
theorem pow40 (h : Q (.int 1099511627776 s.toks) { s with toks := s.toks + 1 }) : wpAny (model prog w) A (binaryOp .Pow (.int 2 t) (.int 40 u)) Q E s := pow2 (by decide) (by decide) (by decide) h
theorem pow48 (h : Q (.int 281474976710656 s.toks) { s with toks := s.toks + 1 }) : wpAny (model prog w) A (binaryOp .Pow (.int 2 t) (.int 48 u)) Q E s := pow2 (by decide) (by decide) (by decide) h
theorem pow62 (h : Q (.int 4611686018427387904 s.toks) { s with toks := s.toks + 1 }) : wpAny (model prog w) A (binaryOp .Pow (.int 2 t) (.int 62 u)) Q E s := pow2 (by decide) (by decide) (by decide) h
theorem pow63 (h : Q (.int 9223372036854775808 s.toks) { s with toks := s.toks + 1 }) : wpAny (model prog w) A (binaryOp .Pow (.int 2 t) (.int 63 u)) Q E s := pow2 (by decide) (by decide) (by decide) h
theorem pow64 (h : Q (.int 18446744073709551616 s.toks) { s with toks := s.toks + 1 }) : wpAny (model prog w) A (binaryOp .Pow (.int 2 t) (.int 64 u)) Q E s := pow2 (by decide) (by decide) (by decide) h
end
theorem far_bound (k : Nat) (hk : k < 6) : 1 ≤ [(1 : Int), 256, 4294967296, 65536, 281474976710656, 4611686018427387904].getD k 0 ∧ [(1 : Int), 256, 4294967296, 65536, 281474976710656, 4611686018427387904].getD k 0 ≤ 4611686018427387904 := by
  have h : ∀ k : Fin 6, 1 ≤ [(1 : Int), 256, 4294967296, 65536, 281474976710656, 4611686018427387904].getD k.val 0 ∧ [(1 : Int), 256, 4294967296, 65536, 281474976710656, 4611686018427387904].getD k.val 0 ≤ 4611686018427387904 := by decide
  exact h ⟨k, hk⟩
theorem fmod_lt6 (y : Int) : (y.fmod 6).toNat < 6 := by
  have h1 := Int.fmod_nonneg_of_pos y (b := 6) (by decide)
  have h2 := Int.fmod_lt_of_pos y (b := 6) (by decide)
  omega
theorem wide_bound (k : Nat) (hk : k < 8) : 0 ≤ [(0 : Int), 1, 256, 2, 65536, 4294967296, 9223372036854775808, 18446744073709551616 - 1].getD k 0 ∧ [(0 : Int), 1, 256, 2, 65536, 4294967296, 9223372036854775808, 18446744073709551616 - 1].getD k 0 < 18446744073709551616 := by
  have h : ∀ k : Fin 8, 0 ≤ [(0 : Int), 1, 256, 2, 65536, 4294967296, 9223372036854775808, 18446744073709551616 - 1].getD k.val 0 ∧ [(0 : Int), 1, 256, 2, 65536, 4294967296, 9223372036854775808, 18446744073709551616 - 1].getD k.val 0 < 18446744073709551616 := by decide
  exact h ⟨k, hk⟩
theorem fmod_lt8 (y : Int) : (y.fmod 8).toNat < 8 := by
  have h1 := Int.fmod_nonneg_of_pos y (b := 8) (by decide)
  have h2 := Int.fmod_lt_of_pos y (b := 8) (by decide)
  omega
theorem news1 {h₀ : Heap} {L : Addr} {h : Heap} {p : Addr × Obj} {news : List (Addr × Obj)} (N : News h₀ L h (p :: news)) : News h₀ L h news := fun q hq => N q (.tail _ hq)

section
local macro_rules | `(tactic| walk_at "binaryOp Pow int int") => `(tactic| with_reducible first | refine pow32 ?_ | refine pow40 ?_ | refine pow48 ?_ | refine pow62 ?_ | refine pow63 ?_ | refine pow64 ?_)
theorem wide_does (w : World) (mean mg mb) (news) (i : Int) (t) :
    Does w mean mg mb 2 322 news [.int i t] (fun v tl => tl = news ∧ ∃ r u, v = .int r u ∧ 0 ≤ r ∧ r < 18446744073709551616) := by
  unfold Does
  k_fill
  intro dp un gd cn cs a ccd cl outer A₀ base h₀ L m s Q E B F X N T hk hdp hun hret
  refine wpAny_call ?_
  k_dflt ktr_enter
  k_steps
  exact hret _ news _ _ ⟨rfl, _, _, rfl, wide_bound _ (fmod_lt8 _)⟩ (by k_asm) (news1 (by assumption))

theorem other_does (w : World) (mean mg mb) (news) (i : Int) (t) (h0 : 0 ≤ i) (h1 : i < 36893488147419103232) (y : Int) (t') :
    Does w mean mg mb 2 329 news [.int i t, .int y t'] (fun v tl => tl = news ∧ ∃ r u, v = .int r u ∧ 0 ≤ r ∧ r ≤ i + 4611686018427387904 ∧ r ≠ i) := by
  unfold Does
  k_fill
  intro dp un gd cn cs a ccd cl outer A₀ base h₀ L m s Q E B F X N T hk hdp hun hret
  refine wpAny_call ?_
  k_dflt ktr_enter
  k_steps
  all_goals (have hf := far_bound _ (fmod_lt6 y))
  · refine hret _ news _ _ ⟨rfl, _, _, rfl, ?_⟩ (by k_asm) (news1 (by assumption))
    omega
  · refine hret _ news _ _ ⟨rfl, _, _, rfl, ?_⟩ (by k_asm) (news1 (by assumption))
    omega
end
theorem does_use {w : World} {mean mg mb} {kk : Nat} {f : Addr} {news vs} {Res : Value → List (Addr × Obj) → Prop}
   {dp un : Nat} {gd : Option (List Code)} {cn : Str} {cs : Scope} {a : Addr} {ccd : Value} {cl : List (Str × Addr)} {outer : List Env} {A₀ : Around} {base h₀ : Heap} {L : Addr} {m : Str → Option Value} {s : Shared} {Q E : Value → Shared → Prop}
   (D : Does w mean mg mb kk f news vs Res)
   (B : Below A₀ base outer h₀) (F : Fr h₀ L s.heap m) (X : (hd.heap_1 w.params).In h₀) (N : News h₀ L s.heap news) (T : Top hd.view_1 (looseW hd.view_1 []) mean mg mb h₀) (hk : cs.kind = .function)
   (hd' : dp + kk < recursionLimit) (hu : un + 8 * kk + 100 < cLine)
   (ret : ∀ v tl h' tk', Res v tl → Fr h₀ L h' m → News h₀ L h' tl → Q v { s with heap := h', toks := tk' }) :
   wpAny (model PySem.Challenge.rw_xw0262_01.row.toRowW.prog w) (ktrTop dp un gd cn cs L a ccd cl outer) (call (.ref f) vs) Q E s :=
  D _ _ _ _ _ _ _ _ _ _ _ _ _ _ _ _ _ B F X N T hk hd' hu ret



abbrev hsD (p : Params) (a b c : Tok) (x : Int) (tx : Tok) (y : Int) (ty : Tok) (z : Int) (tz : Tok) : Obj :=
  dictOf [⟨PyData.keyHash p (Str.ofString "term"), .str (Str.ofString "term") a, .int x tx⟩, ⟨PyData.keyHash p (Str.ofString "vote"), .str (Str.ofString "vote") b, .int y ty⟩, ⟨PyData.keyHash p (Str.ofString "commit"), .str (Str.ofString "commit") c, .int z tz⟩] 3
abbrev tupO (vs : Array Value) : Obj := { cls := .type "tuple", data := .seq vs }
abbrev hsRow (x : Int) (tx : Tok) (y : Int) (ty : Tok) (z : Int) (tz : Tok) : Obj := tupO #[.int x tx, .int y ty, .int z tz]

theorem news2 {h₀ : Heap} {L : Addr} {h : Heap} {p q : Addr × Obj} {news : List (Addr × Obj)} (N : News h₀ L h (p :: q :: news)) : News h₀ L h news := fun r hr => N r (.tail _ (.tail _ hr))
theorem memOf {a : Addr × Obj} {l : List (Addr × Obj)} (h : a ∈ l) : List.Mem a l := h
theorem beqD (x y : Int) : (x == y) = decide (x = y) := by cases h : decide (x = y) <;> simp_all
section
local macro_rules | `(tactic| k_mem) => `(tactic| (refine' memOf ?_; ktr_member))
local macro_rules | `(tactic| k_room) => `(tactic| ktr_room)
local macro_rules | `(tactic| k_units) => `(tactic| ktr_units)
local macro_rules | `(tactic| ke_room) => `(tactic| ktr_units)
local macro_rules | `(tactic| units_room) => `(tactic| ktr_units)
theorem mk_does (w : World) (mean mg mb) (news) (x : Int) (t) (y : Int) (t') (z : Int) (t'') :
    Does w mean mg mb 3 180 news [.int x t, .int y t', .int z t''] (fun v tl => ∃ a d k1 k2 k3, v = .ref a ∧ tl = (a, instObj 180 d) :: (d, hsD w.params k1 k2 k3 x t y t' z t'') :: news ∧ (∀ p ∈ news, p.1 < d) ∧ d < a) := by
  unfold Does
  k_fill
  intro dp un gd cn cs a ccd cl outer A₀ base h₀ L m s Q E B F X N T hk hdp hun hret
  have kM := kstMark
  k_dflt (refine' call_cls ?k1 ?k2 ?k3 ?k4 ?k5 ?k6 ?_; (case k1 => k_asm); (case k2 => k_asm); (case k3 => k_asm); (case k4 => k_is); (case k5 => k_is); (case k6 => k_is); k_whole; intro x' d' h' F' N' l1 l2; (try k_lt2 l2); (try k_sweep); ktr_enter)
  k_steps
  apply hret
  rotate_left 2
  · k_asm
  · exact ⟨_, _, _, _, _, rfl, rfl, by assumption, by assumption⟩
  · k_asm
theorem row_does (w : World) (mean mg mb) (news) (o d : Addr) (k1 k2 k3) (x : Int) (t) (y : Int) (t') (z : Int) (t'') (hx : (o, instObj 180 d) ∈ news) (hd : (d, hsD w.params k1 k2 k3 x t y t' z t'') ∈ news) :
    Does w mean mg mb 3 156 news [.ref o] (fun v tl => ∃ r, v = .ref r ∧ tl = (r, hsRow x t y t' z t'') :: news ∧ (∀ p ∈ news, p.1 < r)) := by
  unfold Does
  k_fill
  intro dp un gd cn cs a ccd cl outer A₀ base h₀ L m s Q E B F X N T hk hdp hun hret
  have kM := kstMark
  refine wpAny_call ?_
  k_dflt ktr_enter
  k_steps
  exact hret _ _ _ _ ⟨_, rfl, rfl, by assumption⟩ (by k_asm) (by k_asm)
theorem empty_does (w : World) (mean mg mb) (news) (o d : Addr) (k1 k2 k3) (x : Int) (t) (y : Int) (t') (z : Int) (t'') (hx : (o, instObj 180 d) ∈ news) (hd : (d, hsD w.params k1 k2 k3 x t y t' z t'') ∈ news) :
    Does w mean mg mb 3 163 news [.ref o] (fun v tl => v = .bool (decide (x = 0) && decide (y = 0) && decide (z = 0)) ∧ tl = news) := by
  unfold Does
  k_fill
  intro dp un gd cn cs a ccd cl outer A₀ base h₀ L m s Q E B F X N T hk hdp hun hret
  have kM := kstMark
  refine wpAny_call ?_
  k_dflt ktr_enter
  k_steps
  all_goals (refine hret _ _ _ _ ⟨?_, rfl⟩ (by k_asm) (by k_asm))
  all_goals (simp_all [beqD])
theorem same_does (w : World) (mean mg mb) (news) (o d : Addr) (k1 k2 k3) (x : Int) (t) (y : Int) (t') (z : Int) (t'') (hx : (o, instObj 180 d) ∈ news) (hd : (d, hsD w.params k1 k2 k3 x t y t' z t'') ∈ news)
    (o2 d2 : Addr) (j1 j2 j3) (x2 : Int) (u) (y2 : Int) (u') (z2 : Int) (u'') (hx2 : (o2, instObj 180 d2) ∈ news) (hd2 : (d2, hsD w.params j1 j2 j3 x2 u y2 u' z2 u'') ∈ news) :
    Does w mean mg mb 5 170 news [.ref o, .ref o2] (fun v tl => v = .bool (decide (x = x2) && decide (y = y2) && decide (z = z2)) ∧ tl = news) := by
  unfold Does
  k_fill
  intro dp un gd cn cs a ccd cl outer A₀ base h₀ L m s Q E B F X N T hk hdp hun hret
  have kM := kstMark
  refine wpAny_call ?_
  k_dflt ktr_enter
  k_steps
  apply hret
  · exact ⟨by simp [beqD, Bool.and_assoc], rfl⟩
  · k_asm
  · exact news2 (by assumption)
theorem copy_does (w : World) (mean mg mb) (news) (o d : Addr) (k1 k2 k3) (x : Int) (t) (y : Int) (t') (z : Int) (t'') (hx : (o, instObj 180 d) ∈ news) (hd : (d, hsD w.params k1 k2 k3 x t y t' z t'') ∈ news) :
    Does w mean mg mb 5 177 news [.ref o] (fun v tl => ∃ a d k1 k2 k3, v = .ref a ∧ tl = (a, instObj 180 d) :: (d, hsD w.params k1 k2 k3 x t y t' z t'') :: news ∧ (∀ p ∈ news, p.1 < d) ∧ d < a) := by
  unfold Does
  k_fill
  intro dp un gd cn cs a ccd cl outer A₀ base h₀ L m s Q E B F X N T hk hdp hun hret
  have kM := kstMark
  refine wpAny_call ?_
  k_dflt ktr_enter
  k_steps
  apply hret
  rotate_left 2
  · k_asm
  · exact ⟨_, _, _, _, _, rfl, rfl, by assumption, by assumption⟩
  · k_asm
end
def Halt (P : Prop) : Prop := P
theorem Halt.go {P : Prop} (h : Halt P) : P := h
theorem Halt.go' {P : Prop} (h : P) : Halt P := h

section
variable {prog : Program} {w : World} {A : Around} {E : Value → Shared → Prop} {s : Shared} {env : Env} {h₀ : Heap} {x : Str} {body : List Stmt} {Q : Flow → Shared → Prop}

def TurnEnd (h₀ : Heap) (L : Addr) (led : List (Addr × Obj)) (x : Str) (stored : List Str) (m₀ : Str → Option Value) (s₁ s₂ : Shared) : Prop :=
  ∃ h' tk m', s₂ = { s₁ with heap := h', toks := tk } ∧ Fr h₀ L h' m' ∧ News h₀ L h' led ∧ ∀ z, z ≠ x → stored.contains z = false → m' z = m₀ z
def TurnPost (h₀ : Heap) (L : Addr) (led : List (Addr × Obj)) (x : Str) (stored : List Str) (m₀ : Str → Option Value) (s₁ : Shared) (Q : Flow → Shared → Prop) (f : Flow) (s₂ : Shared) : Prop :=
  match f with
  | .ret v => Q (.ret v) s₂
  | .brk => Q .next s₂
  | _ => TurnEnd h₀ L led x stored m₀ s₁ s₂
theorem skipA {z a : Str} {st : List Str} {v r q : Option Value} (h3 : st.contains z = false) (ha : st.contains a = true) (e : r = q) : (if z = a then v else r) = q := by
  rw [if_neg (fun h => by rw [h, ha] at h3; cases h3)]; exact e
theorem skipX {z x : Str} {v r q : Option Value} (h1 : z ≠ x) (e : r = q) : (if z = x then v else r) = q := by rw [if_neg h1]; exact e
theorem skipC {z : Str} {st st' : List Str} {v r q : Option Value} (h3 : st.contains z = false) (hs : st'.all (fun a => st.contains a) = true) (e : r = q) : (if st'.contains z = true then v else r) = q := by
  rw [if_neg (fun h => by
    have := List.all_eq_true.mp hs z (List.contains_iff_mem.mp h)
    rw [h3] at this; cases this)]
  exact e
theorem skipS {z : Str} {st : List Str} {u q : Option Value} (h3 : st.contains z = false) : (if st.contains z = true then u else q) = q := if_neg (by rw [h3]; exact Bool.false_ne_true)
theorem TurnEnd.intro {L : Addr} {led : List (Addr × Obj)} {stored : List Str} {m₀ m' : Str → Option Value} {s₁ : Shared} {h' : Heap} {tk : Nat} (F : Fr h₀ L h' m') (N : News h₀ L h' led) (hm : ∀ z, z ≠ x → stored.contains z = false → m' z = m₀ z) :
    TurnEnd h₀ L led x stored m₀ s₁ { s₁ with heap := h', toks := tk } := ⟨h', tk, m', rfl, F, N, hm⟩

theorem frIn {L : Addr} {h : Heap} {v : Value} {stored : List Str} {m₀ m₁ : Str → Option Value} (hm : ∀ z, z ≠ x → stored.contains z = false → m₁ z = m₀ z) (F : Fr h₀ L h (fun y => if y = x then some v else m₁ y)) :
    Fr h₀ L h (fun y => if y = x then some v else if stored.contains y = true then m₁ y else m₀ y) := by
  have e : (fun y => if y = x then some v else if stored.contains y = true then m₁ y else m₀ y) = fun y => if y = x then some v else m₁ y := by
    funext y
    by_cases h1 : y = x
    · simp [h1]
    · simp only [if_neg h1]
      cases h2 : stored.contains y with
      | true => simp
      | false => simp only [Bool.false_eq_true, if_false]; exact (hm y h1 h2).symm
  rw [e]; exact F
theorem frOut {L : Addr} {h : Heap} {stored : List Str} {m₀ m₁ : Str → Option Value} (hm : ∀ z, z ≠ x → stored.contains z = false → m₁ z = m₀ z) (F : Fr h₀ L h m₁) :
    Fr h₀ L h (fun y => if y = x then m₁ y else if stored.contains y = true then m₁ y else m₀ y) := by
  have e : (fun y => if y = x then m₁ y else if stored.contains y = true then m₁ y else m₀ y) = m₁ := by
    funext y
    by_cases h1 : y = x
    · simp [h1]
    · simp only [if_neg h1]
      cases h2 : stored.contains y with
      | true => simp
      | false => simp only [Bool.false_eq_true, if_false]; exact (hm y h1 h2).symm
  rw [e]; exact F

theorem loop_fix {I : Addr} {fp wr : List Addr} {n : Nat} {P : Nat → Value → Prop} {St : Nat → Heap → Prop} {m₀ : Str → Option Value} {news : List (Addr × Obj)} (stored : List Str)
    (W : Walks prog w A I fp wr n P St) (hLf : env.locals ∉ fp) (hwr : ∀ b ∈ wr, h₀.get? b = none) (hnw : ∀ p ∈ news, p.1 ∉ wr) (hst : St 0 s.heap) (F : Fr h₀ env.locals s.heap m₀) (N : News h₀ env.locals s.heap news)
    (turn : ∀ i v (u : Str → Option Value) h tk led, i < n → P i v → (∀ p ∈ news, p ∈ led) → Fr h₀ env.locals h (fun y => if y = x then some v else if stored.contains y = true then u y else m₀ y) → News h₀ env.locals h led →
      wpAny (model prog w) A (execs body env) (TurnPost h₀ env.locals led x stored m₀ { s with heap := h, toks := tk } Q) E { s with heap := h, toks := tk })
    (done : ∀ (u : Str → Option Value) h tk, Fr h₀ env.locals h (fun y => if y = x then u y else if stored.contains y = true then u y else m₀ y) → News h₀ env.locals h news → Q .next { s with heap := h, toks := tk }) :
    LoopAtV prog w A h₀ env x body Q E (.ref I) s := by
  refine ⟨I, fp, wr, n, P, St, m₀, news, (fun _ m nx => nx = news ∧ ∀ z, z ≠ x → stored.contains z = false → m z = m₀ z), rfl, W, hLf, hwr, hnw, hst, F, N, ⟨rfl, fun _ _ _ => rfl⟩, ?_, ?_⟩
  · rintro i v m₁ news₁ s₁ own ⟨hh', tk', rfl⟩ hin hP ⟨rfl, hm⟩ hoff hown _ _ _ F₁ N₁
    refine wpAny_mono (turn i v m₁ hh' tk' (own ++ news₁) hin hP (fun p hp => List.mem_append.mpr (.inr hp)) (frIn hm F₁) N₁) (fun f s₂ p => ?_) fun _ _ e => e
    have fin : TurnEnd h₀ env.locals (own ++ news₁) x stored m₀ { s with heap := hh', toks := tk' } s₂ →
        LoopStepU h₀ env.locals wr own (fun m nx => nx = news₁ ∧ ∀ z, z ≠ x → stored.contains z = false → m z = m₀ z) { s with heap := hh', toks := tk' } .next s₂ := by
      rintro ⟨h', tk, m', e, F', N', hm'⟩
      exact ⟨rfl, h', tk, m', news₁, e, F', N', hoff, rfl, hm'⟩
    cases f with
    | ret v => exact .ret p
    | brk => exact .brk p
    | next => exact .next (fin p)
    | cont => exact .cont (fin p)
  · rintro h' tk m' news' F' N' _ ⟨rfl, hm⟩
    exact done m' h' tk (frOut hm F') N'

theorem range_fix {r : Addr} {a₀ b₀ : Int} {t₀ u₀ v₀ : Tok} {n : Nat} {m₀ : Str → Option Value} {news : List (Addr × Obj)} {L : Addr} (stored : List Str)
    (hL : env.locals = L) (hh : A.handled = none) (hr : IsRange s.heap r a₀ b₀ 1 t₀ u₀ v₀) (hsmall : Builtin.Range.small a₀ b₀ 1 = true) (hn : Builtin.Range.rangeSize a₀ b₀ 1 = (n : Int)) (F : Fr h₀ L s.heap m₀) (N : News h₀ L s.heap news)
    (turn : ∀ (k : Int) t (u : Str → Option Value) h tk led, a₀ ≤ k → k < a₀ + (n : Int) → (∀ p ∈ news, p ∈ led) → Fr h₀ L h (fun y => if y = x then some (.int k t) else if stored.contains y = true then u y else m₀ y) → News h₀ L h led →
      wpAny (model prog w) A (execs body env) (TurnPost h₀ L led x stored m₀ { s with heap := h, toks := tk } Q) E { s with heap := h, toks := tk })
    (done : ∀ (u : Str → Option Value) h tk, Fr h₀ L h (fun y => if y = x then u y else if stored.contains y = true then u y else m₀ y) → News h₀ L h news → Q .next { s with heap := h, toks := tk }) :
    wpAny (model prog w) A (pyIter (.ref r)) (fun it s₂ => LoopAtV prog w A h₀ env x body Q E it s₂) E s := by
  subst hL
  refine wpAny_pyIter_range hr hsmall ?_
  have W : Walks prog w A s.heap.objs.size [s.heap.objs.size] [s.heap.objs.size] n (fun i v => i < n ∧ ∃ t, v = .int (a₀ + i * 1) t)
      (fun i h => IsRangeIter h s.heap.objs.size (a₀ + (i : Nat) * 1) ((n : Int) - (i : Nat)) 1) := (Walks.range hh _ a₀ 1 n).bound
  refine loop_fix stored W ?_ ?_ ?_ (by show IsRangeIter _ _ _ _ _; rw [hn]; simpa using Heap.get?_push_size _ rfl) (F.push _) (fun p hp => ⟨Heap.get?_push_of_some _ (N p hp).1, (N p hp).2⟩) ?_ ?_
  · intro hm
    exact absurd F.ns.lt ((List.mem_singleton.mp hm) ▸ Nat.lt_irrefl _)
  · intro b hb
    rw [List.mem_singleton.mp hb]
    exact next_is_new F
  · intro p hp hI
    exact absurd (Heap.lt_size (N p hp).1) ((List.mem_singleton.mp hI) ▸ Nat.lt_irrefl _)
  · rintro i v u h tk led hi ⟨_, t, rfl⟩ hs F₁ N₁
    have e1 : a₀ + (i : Int) * 1 = a₀ + (i : Int) := by omega
    rw [e1] at F₁
    exact turn _ t u h tk led (by omega) (by omega) hs F₁ N₁
  · rintro u h tk F₁ N₁
    exact done u h tk F₁ N₁

theorem list_fix {l : Addr} {vs : List Value} {nn : Nat} {m₀ : Str → Option Value} {news : List (Addr × Obj)} {L : Addr} (stored : List Str)
    (hL : env.locals = L) (hh : A.handled = none) (hl : (l, listOf vs.toArray nn) ∈ news) (F : Fr h₀ L s.heap m₀) (N : News h₀ L s.heap news)
    (turn : ∀ (i : Nat) v (u : Str → Option Value) h tk led, vs[i]? = some v → (∀ p ∈ news, p ∈ led) → Fr h₀ L h (fun y => if y = x then some v else if stored.contains y = true then u y else m₀ y) → News h₀ L h led →
      wpAny (model prog w) A (execs body env) (TurnPost h₀ L led x stored m₀ { s with heap := h, toks := tk } Q) E { s with heap := h, toks := tk })
    (done : ∀ (u : Str → Option Value) h tk, Fr h₀ L h (fun y => if y = x then u y else if stored.contains y = true then u y else m₀ y) → News h₀ L h news → Q .next { s with heap := h, toks := tk }) :
    wpAny (model prog w) A (pyIter (.ref l)) (fun it s₂ => LoopAtV prog w A h₀ env x body Q E it s₂) E s := by
  subst hL
  have hol : s.heap.get? l = some (listOf vs.toArray nn) := (N _ hl).1
  have hls : s.heap.IsList l vs.toArray := ⟨_, hol, rfl, nn, rfl⟩
  have hne : l ≠ s.heap.objs.size := Nat.ne_of_lt (Heap.lt_size hol)
  refine wpAny_pyIter_list hls ?_
  have W := Walks.list (prog := prog) (w := w) hh s.heap.objs.size l hne vs.toArray
  refine loop_fix stored W ?_ ?_ ?_ ⟨⟨_, Heap.get?_push_size _ rfl, rfl, rfl⟩, hls.at fun o e => Heap.get?_push_of_some _ e⟩ (F.push _) (fun p hp => ⟨Heap.get?_push_of_some _ (N p hp).1, (N p hp).2⟩) ?_ ?_
  · intro hm
    rcases List.mem_cons.mp hm with e | hm
    · exact absurd F.ns.lt (e ▸ Nat.lt_irrefl _)
    · exact (N _ hl).2.1 ((List.mem_singleton.mp hm).symm)
  · intro b hb
    rw [List.mem_singleton.mp hb]
    exact next_is_new F
  · intro p hp hI
    exact absurd (Heap.lt_size (N p hp).1) ((List.mem_singleton.mp hI) ▸ Nat.lt_irrefl _)
  · rintro i v u h tk led hi hP hs F₁ N₁
    exact turn i v u h tk led (by simpa using hP) hs F₁ N₁
  · rintro u h tk F₁ N₁
    exact done u h tk F₁ N₁
end

section
variable {prog : Program} {w : World} {A : Around} {s : Shared} {h₀ : Heap} {L : Addr} {m : Str → Option Value} {env : Env}
theorem comp_ind {elt : Expr} {x : Str} {scope : Scope} {cl : List (Str × Addr)} {S : List (Addr × Obj) → Prop} {P : Nat → Value → Prop} {Fin : List Value → List (Addr × Obj) → Prop} {n : Nat} {news : List (Addr × Obj)}
    (J : Nat → List Value → List (Addr × Obj) → Prop) (j0 : J 0 [] news)
    (step : ∀ i ys news, i < n → J i ys news → ∀ v I oI C oC D m₂ h tk (E' : Value → Shared → Prop), P i v → LCg.NsObj oC m₂ → m₂ x = some v → Fr h₀ L h m → News h₀ L h ((I, oI) :: (C, oC) :: (D, LCg.lst ys) :: news) → LCg.Off3 I C D news → ((@Ne Nat I C) ∧ (@Ne Nat I D) ∧ (@Ne Nat C D)) →
      wpAny (model prog w) A (eval elt (compEnvC scope cl C env)) (LCg.CompEnd h₀ L m { s with heap := h, toks := tk } I oI C oC D (LCg.lst ys) S (fun y news' => J (i + 1) (ys ++ [y]) news')) E' { s with heap := h, toks := tk })
    (fin : ∀ ys news, J n ys news → Fin ys news) :
    LCg.CompRest prog w A h₀ L m env elt x scope cl s S P Fin n 0 [] news := by
  have all : ∀ k i ys news, k + i = n → J i ys news → LCg.CompRest prog w A h₀ L m env elt x scope cl s S P Fin k i ys news := by
    intro k
    induction k with
    | zero =>
      intro i ys news e hj
      refine LCg.CompRest.zero (fin ys news ?_)
      have : i = n := by omega
      rw [← this]; exact hj
    | succ k ih =>
      intro i ys news e hj
      refine LCg.CompRest.succ (fun v I oI C oC D m₂ h tk E' hv hC hx F N off ne => ?_)
      refine wpAny_mono (step i ys news (by omega) hj v I oI C oC D m₂ h tk E' hv hC hx F N off ne) (fun y s₂ p => ?_) fun _ _ e => e
      obtain ⟨h', tk', news', e', F', N', off', hS, hJ⟩ := p
      exact ⟨h', tk', news', e', F', N', off', hS, ih (i + 1) _ _ (by omega) hJ⟩
  exact all n 0 [] news (by omega) j0
end
theorem turns_fix {prog : Program} {w : World} {A : Around} {E : Value → Shared → Prop} {s : Shared} {env : Env} {h₀ : Heap} {target : Expr} {body : List Stmt} {Q : Flow → Shared → Prop} {l : Addr} {vs : List Value} {nn : Nat} {m₀ : Str → Option Value} {news : List (Addr × Obj)} {L : Addr} (x : Str) (stored : List Str)
    (hL : env.locals = L) (hh : A.handled = none) (hl : (l, listOf vs.toArray nn) ∈ news) (F : Fr h₀ L s.heap m₀) (N : News h₀ L s.heap news)
    (turn : ∀ (i : Nat) v (u : Str → Option Value) h tk led, vs[i]? = some v → (∀ p ∈ news, p ∈ led) → Fr h₀ L h (fun y => if y = x then u y else if stored.contains y = true then u y else m₀ y) → News h₀ L h led →
      wpAny (model prog w) A (assign target env v) (fun _ s₃ => wpAny (model prog w) A (execs body env) (TurnPost h₀ L led x stored m₀ { s with heap := h, toks := tk } Q) E s₃) E { s with heap := h, toks := tk })
    (done : ∀ (u : Str → Option Value) h tk, Fr h₀ L h (fun y => if y = x then u y else if stored.contains y = true then u y else m₀ y) → News h₀ L h news → Q .next { s with heap := h, toks := tk }) :
    wpAny (model prog w) A (pyIter (.ref l)) (fun it s₂ => TurnsAt prog w A h₀ env target body Q E it s₂) E s := by
  subst hL
  have hol : s.heap.get? l = some (listOf vs.toArray nn) := (N _ hl).1
  have hls : s.heap.IsList l vs.toArray := ⟨_, hol, rfl, nn, rfl⟩
  have hne : l ≠ s.heap.objs.size := Nat.ne_of_lt (Heap.lt_size hol)
  refine wpAny_pyIter_list hls ?_
  refine ⟨s.heap.objs.size, _, _, _, _, _, _, m₀, news, (fun _ m nx => nx = news ∧ ∀ z, z ≠ x → stored.contains z = false → m z = m₀ z), rfl, KTurns.ofWalks (Walks.list (prog := prog) (w := w) hh s.heap.objs.size l hne vs.toArray) (fun i v s Q E st q => letGo_listiter st.1 q), ?_, ?_, ?_,
    ⟨⟨_, Heap.get?_push_size _ rfl, rfl, rfl⟩, hls.at fun o e => Heap.get?_push_of_some _ e⟩, F.push _, (fun p hp => ⟨Heap.get?_push_of_some _ (N p hp).1, (N p hp).2⟩), ⟨rfl, fun _ _ _ => rfl⟩, ?_, ?_⟩
  · intro hm
    rcases List.mem_cons.mp hm with e | hm
    · exact absurd F.ns.lt (e ▸ Nat.lt_irrefl _)
    · exact (N _ hl).2.1 ((List.mem_singleton.mp hm).symm)
  · intro b hb
    rw [List.mem_singleton.mp hb]
    exact next_is_new F
  · intro p hp hI
    exact absurd (Heap.lt_size (N p hp).1) ((List.mem_singleton.mp hI) ▸ Nat.lt_irrefl _)
  · rintro i v m₁ news₁ h₁ tk₁ own hin hP ⟨rfl, hm⟩ hoff hown _ _ _ F₁ N₁
    refine wpAny_mono (turn i v m₁ h₁ tk₁ (own ++ news₁) (by simpa using hP) (fun p hp => List.mem_append.mpr (.inr hp)) (frOut hm F₁) N₁) (fun _ s₃ q => wpAny_mono q (fun f s₂ p => ?_) fun _ _ e => e) fun _ _ e => e
    have fin : TurnEnd h₀ env.locals (own ++ news₁) x stored m₀ { s with heap := h₁, toks := tk₁ } s₂ →
        LoopStepU h₀ env.locals [s.heap.objs.size] own (fun m nx => nx = news₁ ∧ ∀ z, z ≠ x → stored.contains z = false → m z = m₀ z) { s with heap := h₁, toks := tk₁ } .next s₂ := by
      rintro ⟨h', tk, m', e, F', N', hm'⟩
      exact ⟨rfl, h', tk, m', news₁, e, F', N', hoff, rfl, hm'⟩
    cases f with
    | ret v => exact .ret p
    | brk => exact .brk p
    | next => exact .next (fin p)
    | cont => exact .cont (fin p)
  · rintro h' tk m' news' F' N' _ ⟨rfl, hm⟩
    exact done m' h' tk (frOut hm F') N'

theorem newsT {h₀ : Heap} {L : Addr} {h : Heap} {p : Addr × Obj} {l : List (Addr × Obj)} (N : News h₀ L h (p :: l)) : News h₀ L h l := fun q hq => N q (.tail _ hq)

theorem alike1 {x x2 y y2 z z2 : Int} (hc : ((decide (x = x2) && decide (y = y2) && decide (z = z2)) != (z == z2)) = true) (c1 : x = x2) (c2 : y = y2) : False := by
  simp only [beqD] at *; simp_all
theorem alike2 {x x2 y y2 z z2 : Int} (hc : ((decide (x = x2) && decide (y = y2) && decide (z = z2)) != (y == y2)) = true) (c2 : ¬ y = y2) : False := by
  simp only [beqD] at *; simp_all
theorem alike3 {x x2 y y2 z z2 : Int} (hc : ((decide (x = x2) && decide (y = y2) && decide (z = z2)) != (x == x2)) = true) (c1 : ¬ x = x2) : False := by
  simp only [beqD] at *; simp_all

theorem emp1 {x y z : Int} (hc : ((decide (x = 0) && decide (y = 0) && decide (z = 0)) != (x == 0 && (y == 0 && z == 0))) = true) : False := by
  simp only [beqD, Bool.and_assoc, bne_self_eq_false] at hc; cases hc
theorem store_mod3 {prog : Program} {w : World} {A : Around} {E : Value → Shared → Prop} {s : Shared} {env : Env} {x : Str} {e : Int} {t : Tok} {Q : Unit → Shared → Prop} (h0 : e.fmod 3 = 0 → wpAny (model prog w) A (storeName env x (.int 0 t)) Q E s)
    (h1 : e.fmod 3 = 1 → wpAny (model prog w) A (storeName env x (.int 1 t)) Q E s) (h2 : e.fmod 3 = 2 → wpAny (model prog w) A (storeName env x (.int 2 t)) Q E s) : wpAny (model prog w) A (storeName env x (.int (e.fmod 3) t)) Q E s := by
  have a := Int.fmod_nonneg_of_pos e (b := 3) (by decide)
  have b := Int.fmod_lt_of_pos e (b := 3) (by decide)
  by_cases c0 : e.fmod 3 = 0
  · rw [c0]; exact h0 c0
  by_cases c1 : e.fmod 3 = 1
  · rw [c1]; exact h1 c1
  have c2 : e.fmod 3 = 2 := by omega
  rw [c2]; exact h2 c2

theorem comp_end_mk {h₀ : Heap} {L I C D a d : Addr} {m : Str → Option Value} {s₁ : Shared} {oI oC oD oa od : Obj} {S : List (Addr × Obj) → Prop} {rest : Value → List (Addr × Obj) → Prop} {y : Value} {h' : Heap} {tk : Nat} {nw : List (Addr × Obj)}
    (F : Fr h₀ L h' m) (N : News h₀ L h' ((a, oa) :: (d, od) :: (I, oI) :: (C, oC) :: (D, oD) :: nw)) (l1 : ∀ p ∈ (I, oI) :: (C, oC) :: (D, oD) :: nw, p.1 < d) (l2 : d < a) (off : LCg.Off3 I C D nw)
    (hS : S ((a, oa) :: (d, od) :: nw)) (r : rest y ((a, oa) :: (d, od) :: nw)) : LCg.CompEnd h₀ L m s₁ I oI C oC D oD S rest y { s₁ with heap := h', toks := tk } := by
  have hI := ltN (l1 (I, oI) (.head _))
  have hC := ltN (l1 (C, oC) (.tail _ (.head _)))
  have hD := ltN (l1 (D, oD) (.tail _ (.tail _ (.head _))))
  replace l2 := ltN l2
  dsimp only at hI hC hD l2
  refine LCg.CompEnd.intro F N ((a, oa) :: (d, od) :: nw) (fun p hp => ?_) ⟨⟨?_, ?_, ?_⟩, ⟨?_, ?_, ?_⟩, off⟩ hS r
  · rcases List.mem_cons.mp hp with rfl | hp
    · exact .tail _ (.tail _ (.head _))
    rcases List.mem_cons.mp hp with rfl | hp
    · exact .tail _ (.tail _ (.tail _ (.head _)))
    rcases List.mem_cons.mp hp with rfl | hp
    · exact .tail _ (.tail _ (.tail _ (.tail _ (.head _))))
    rcases List.mem_cons.mp hp with rfl | hp
    · exact .head _
    rcases List.mem_cons.mp hp with rfl | hp
    · exact .tail _ (.head _)
    · exact .tail _ (.tail _ (.tail _ (.tail _ (.tail _ hp))))
  all_goals (show (_ : Nat) ≠ _; omega)

abbrev Tri := Int × Int × Int
def In65 (x : Int) : Prop := 0 ≤ x ∧ x < 36893488147419103232
structure RowAt (led : List (Addr × Obj)) (v : Value) (u : Tri) : Prop where
  ex : ∃ r t1 t2 t3, v = .ref r ∧ (r, hsRow u.1 t1 u.2.1 t2 u.2.2 t3) ∈ led
  b1 : In65 u.1
  b2 : In65 u.2.1
  b3 : In65 u.2.2
def RowsAt (led : List (Addr × Obj)) (vs : List Value) (us : List Tri) : Prop := vs.length = us.length ∧ ∀ (k : Nat) v, vs[k]? = some v → ∃ u, us[k]? = some u ∧ RowAt led v u
theorem RowsAt.nil {led : List (Addr × Obj)} : RowsAt led [] [] := ⟨rfl, fun k v h => by simp at h⟩
theorem RowsAt.cons {led : List (Addr × Obj)} {r : Addr} {vs : List Value} {x y z : Int} {t1 t2 t3 : Tok} {us : List Tri} (hm : (r, hsRow x t1 y t2 z t3) ∈ led) (hx : In65 x) (hy : In65 y) (hz : In65 z) (h : RowsAt led vs us) :
    RowsAt led (.ref r :: vs) ((x, y, z) :: us) := by
  refine ⟨by simp [h.1], fun k v hv => ?_⟩
  cases k with
  | zero => simp at hv; subst hv; exact ⟨(x, y, z), rfl, ⟨r, t1, t2, t3, rfl, hm⟩, hx, hy, hz⟩
  | succ k => simp at hv; obtain ⟨u, h1, h2⟩ := h.2 k v hv; exact ⟨u, by simpa using h1, h2⟩
theorem RowsEx.nil {led : List (Addr × Obj)} : ∃ us, RowsAt led [] us ∧ us.length = 0 := ⟨[], RowsAt.nil, rfl⟩
theorem RowsEx.cons {led : List (Addr × Obj)} {r : Addr} {vs : List Value} {x y z : Int} {t1 t2 t3 : Tok} {k : Nat} (hm : (r, hsRow x t1 y t2 z t3) ∈ led) (hx : In65 x) (hy : In65 y) (hz : In65 z) (h : ∃ us, RowsAt led vs us ∧ us.length = k) :
    ∃ us, RowsAt led (.ref r :: vs) us ∧ us.length = k + 1 := let ⟨us, h1, h2⟩ := h; ⟨(x, y, z) :: us, RowsAt.cons hm hx hy hz h1, by simp [h2]⟩
theorem RowsAt.mono {led led' : List (Addr × Obj)} {vs : List Value} {us : List Tri} (h : RowsAt led vs us) (s : ∀ p ∈ led, p ∈ led') : RowsAt led' vs us :=
  ⟨h.1, fun k v hv => by obtain ⟨u, h1, ⟨r, t1, t2, t3, h2, h3⟩, a, b, c⟩ := h.2 k v hv; exact ⟨u, h1, ⟨r, t1, t2, t3, h2, s _ h3⟩, a, b, c⟩⟩
theorem RowsAt.get {led : List (Addr × Obj)} {vs : List Value} {us : List Tri} (h : RowsAt led vs us) {k : Nat} (hk : k < us.length) :
    ∃ r x y z t1 t2 t3, us[k]? = some (x, y, z) ∧ vs[k]? = some (.ref r) ∧ (r, hsRow x t1 y t2 z t3) ∈ led ∧ In65 x ∧ In65 y ∧ In65 z := by
  have hk' : k < vs.length := by rw [h.1]; exact hk
  have e : vs[k]? = some vs[k] := List.getElem?_eq_getElem hk'
  obtain ⟨⟨x, y, z⟩, h1, ⟨r, t1, t2, t3, h2, h3⟩, a, b, c⟩ := h.2 k _ e
  exact ⟨r, x, y, z, t1, t2, t3, h1, by rw [e, h2], h3, a, b, c⟩

def StatesAt (P : Params) (led : List (Addr × Obj)) (vs : List Value) (us : List Tri) : Prop := vs.length = us.length ∧
  ∀ (k : Nat) x y z, us[k]? = some (x, y, z) → ∃ a d k1 k2 k3 t1 t2 t3, vs[k]? = some (Value.ref a) ∧ (a, instObj 180 d) ∈ led ∧ (d, hsD P k1 k2 k3 x t1 y t2 z t3) ∈ led
theorem StatesAt.nil {P : Params} {led : List (Addr × Obj)} : StatesAt P led [] [] := ⟨rfl, fun k x y z h => by simp at h⟩
theorem StatesAt.mono {P : Params} {led led' : List (Addr × Obj)} {vs : List Value} {us : List Tri} (h : StatesAt P led vs us) (s : ∀ p ∈ led, p ∈ led') : StatesAt P led' vs us :=
  ⟨h.1, fun k x y z hk => by obtain ⟨a, d, k1, k2, k3, t1, t2, t3, h1, h2, h3⟩ := h.2 k x y z hk; exact ⟨a, d, k1, k2, k3, t1, t2, t3, h1, s _ h2, s _ h3⟩⟩
theorem StatesAt.snoc {P : Params} {led : List (Addr × Obj)} {vs : List Value} {us : List Tri} {a d : Addr} {k1 k2 k3 : Tok} {x y z : Int} {t1 t2 t3 : Tok} {i : Nat} (h : StatesAt P led vs (us.take i)) (hi : us[i]? = some (x, y, z)) (h1 : (a, instObj 180 d) ∈ led) (h2 : (d, hsD P k1 k2 k3 x t1 y t2 z t3) ∈ led) :
    StatesAt P led (vs ++ [.ref a]) (us.take (i + 1)) := by
  have e : us.take (i + 1) = us.take i ++ [(x, y, z)] := by simp [List.take_add_one, hi]
  have il : i < us.length := by
    rcases Nat.lt_or_ge i us.length with h | h
    · exact h
    · rw [List.getElem?_eq_none h] at hi; cases hi
  have hl : vs.length = i := by rw [h.1, List.length_take]; omega
  rw [e]
  refine ⟨by simp [h.1], fun k x' y' z' hk => ?_⟩
  rcases Nat.lt_trichotomy k i with hlt | rfl | hgt
  · have e1 : (us.take i ++ [(x, y, z)])[k]? = (us.take i)[k]? := List.getElem?_append_left (by rw [List.length_take]; omega)
    rw [e1] at hk
    obtain ⟨a, d, k1, k2, k3, t1, t2, t3, q1, q2, q3⟩ := h.2 k x' y' z' hk
    exact ⟨a, d, k1, k2, k3, t1, t2, t3, by rw [List.getElem?_append_left (by omega)]; exact q1, q2, q3⟩
  · have e1 : (us.take k ++ [(x, y, z)])[k]? = some (x, y, z) := by
      rw [List.getElem?_append_right (by rw [List.length_take]; omega), List.length_take]
      have : k - min k us.length = 0 := by omega
      rw [this]; rfl
    rw [e1] at hk
    cases hk
    refine ⟨a, d, k1, k2, k3, t1, t2, t3, ?_, h1, h2⟩
    rw [List.getElem?_append_right (by omega), hl, Nat.sub_self]; rfl
  · rw [List.getElem?_eq_none (by simp; omega)] at hk; cases hk
theorem StatesAt.get {P : Params} {led : List (Addr × Obj)} {vs : List Value} {us : List Tri} (h : StatesAt P led vs us) {k : Nat} {x y z : Int} (hk : us[k]? = some (x, y, z)) :
    ∃ a d k1 k2 k3 t1 t2 t3, vs[k]? = some (.ref a) ∧ (a, instObj 180 d) ∈ led ∧ (d, hsD P k1 k2 k3 x t1 y t2 z t3) ∈ led := h.2 k x y z hk

theorem RowsAt.use {G : Prop} {led : List (Addr × Obj)} {vs : List Value} {us : List Tri} (h : RowsAt led vs us) {k : Nat} (hk : k < us.length)
    (f : ∀ r x y z t1 t2 t3, us[k]? = some (x, y, z) → vs[k]? = some (.ref r) → (r, hsRow x t1 y t2 z t3) ∈ led → 0 ≤ x → x < 36893488147419103232 → 0 ≤ y → y < 36893488147419103232 → 0 ≤ z → z < 36893488147419103232 → G) : G := by
  obtain ⟨r, x, y, z, t1, t2, t3, h1, h2, h3, a, b, c⟩ := h.get hk
  exact f r x y z t1 t2 t3 h1 h2 h3 a.1 a.2 b.1 b.2 c.1 c.2
theorem RowsAt.useAt {G : Prop} {led : List (Addr × Obj)} {vs : List Value} {us : List Tri} (h : RowsAt led vs us) {k : Nat} {v : Value} (hk : vs[k]? = some v)
    (f : ∀ r x y z t1 t2 t3, us[k]? = some (x, y, z) → v = .ref r → (r, hsRow x t1 y t2 z t3) ∈ led → In65 x → In65 y → In65 z → G) : G := by
  obtain ⟨⟨x, y, z⟩, hu, ⟨r, t1, t2, t3, hvr, hr⟩, bx, by_, bz⟩ := h.2 k v hk
  exact f r x y z t1 t2 t3 hu hvr hr bx by_ bz
theorem StatesAt.use {G : Prop} {P : Params} {led : List (Addr × Obj)} {vs : List Value} {us : List Tri} (h : StatesAt P led vs us) {k : Nat} {x y z : Int} (hk : us[k]? = some (x, y, z))
    (f : ∀ a d k1 k2 k3 t1 t2 t3, vs[k]? = some (.ref a) → (a, instObj 180 d) ∈ led → (d, hsD P k1 k2 k3 x t1 y t2 z t3) ∈ led → G) : G := by
  obtain ⟨a, d, k1, k2, k3, t1, t2, t3, h1, h2, h3⟩ := h.get hk
  exact f a d k1 k2 k3 t1 t2 t3 h1 h2 h3
theorem comp_end_1 {h₀ : Heap} {L I C D a : Addr} {m : Str → Option Value} {s₁ : Shared} {oI oC oD oa : Obj} {S : List (Addr × Obj) → Prop} {rest : Value → List (Addr × Obj) → Prop} {y : Value} {h' : Heap} {tk : Nat} {nw : List (Addr × Obj)}
    (F : Fr h₀ L h' m) (N : News h₀ L h' ((a, oa) :: (I, oI) :: (C, oC) :: (D, oD) :: nw)) (l1 : I < a ∧ C < a ∧ D < a ∧ AllLt a nw) (off : LCg.Off3 I C D nw)
    (hS : S ((a, oa) :: nw)) (r : rest y ((a, oa) :: nw)) : LCg.CompEnd h₀ L m s₁ I oI C oC D oD S rest y { s₁ with heap := h', toks := tk } := by
  have hI := ltN l1.1
  have hC := ltN l1.2.1
  have hD := ltN l1.2.2.1
  refine LCg.CompEnd.intro F N ((a, oa) :: nw) (fun p hp => ?_) ⟨⟨?_, ?_, ?_⟩, off⟩ hS r
  · rcases List.mem_cons.mp hp with rfl | hp
    · exact .tail _ (.head _)
    rcases List.mem_cons.mp hp with rfl | hp
    · exact .tail _ (.tail _ (.head _))
    rcases List.mem_cons.mp hp with rfl | hp
    · exact .tail _ (.tail _ (.tail _ (.head _)))
    rcases List.mem_cons.mp hp with rfl | hp
    · exact .head _
    · exact .tail _ (.tail _ (.tail _ (.tail _ hp)))
  all_goals (show (_ : Nat) ≠ _; omega)

def triD (u : Tri) : Dat := Dat.tuple [Dat.int u.1, Dat.int u.2.1, Dat.int u.2.2]
theorem datRow {led : List (Addr × Obj)} {r : Addr} {x y z : Int} {t1 t2 t3 : Tok} (h : (r, hsRow x t1 y t2 z t3) ∈ led) : DatIn led (.ref r) (triD (x, y, z)) :=
  DatIn.tuple (vs := [.int x t1, .int y t2, .int z t3]) h (.cons (.int _ _) (.cons (.int _ _) (.cons (.int _ _) .nil)))
theorem DatAll_snoc {led : List (Addr × Obj)} : ∀ {vs : List Value} {ds : List Dat} {v : Value} {d : Dat}, DatAll led vs ds → DatIn led v d → DatAll led (vs ++ [v]) (ds ++ [d])
  | _, _, _, _, .nil, h => .cons h .nil
  | _, _, _, _, .cons h1 h2, h => .cons h1 (DatAll_snoc h2 h)
theorem RowsAt.dat {led : List (Addr × Obj)} : ∀ {vs : List Value} {us : List Tri}, RowsAt led vs us → DatAll led vs (us.map triD)
  | [], [], _ => .nil
  | [], _ :: _, h => by have := h.1; simp at this
  | _ :: _, [], h => by have := h.1; simp at this
  | v :: vs, u :: us, h => by
    obtain ⟨u', h1, ⟨r, t1, t2, t3, h2, h3⟩, _⟩ := h.2 0 v rfl
    cases h1
    subst h2
    exact .cons (datRow h3) (RowsAt.dat ⟨by have := h.1; simpa using this, fun k v hk => by obtain ⟨w, a, b⟩ := h.2 (k + 1) v (by simpa using hk); exact ⟨w, by simpa using a, b⟩⟩)
theorem tri_ok (ts : List Tri) : ∀ d ∈ ts.map triD, kqdOk 8 d = true := by
  intro d hd
  obtain ⟨u, _, rfl⟩ := List.mem_map.mp hd
  rfl
section
variable {prog : Program} {w : World} {A : Around} {E : Value → Shared → Prop} {s : Shared} {h₀ : Heap} {L l : Addr} {m : Str → Option Value} {news : List (Addr × Obj)} {Q : Value → Shared → Prop} {n : Nat}
theorem sortedL {vs : List Value} {ns : List Int} (F : Fr h₀ L s.heap m) (N : News h₀ L s.heap news) (hm : (l, listOf vs.toArray n) ∈ news) (hi : IntsAre vs ns) (h64 : ns.length < 64) (hs : ns.Pairwise (· ≤ ·))
    (h : ∀ D vs' c h', Fr h₀ L h' m → News h₀ L h' ((D, listOf vs'.toArray c) :: news) → (∀ q ∈ news, q.1 < D) → IntsAre vs' ns → Q (.ref D) { s with heap := h' }) :
    wpAny (model prog w) A (call (.builtin "sorted") [.ref l]) Q E s :=
  kso_sorted F N ⟨_, (N _ hm).1, rfl, n, rfl⟩ hi h64 fun D vs' ns' c h' F' N' l1 i' _ p o _ => by
    have e := ksm_same p o hs
    subst e
    exact h D vs' c h' F' N' l1 i'
theorem sorted0 (F : Fr h₀ L s.heap m) (N : News h₀ L s.heap news) (hm : (l, listOf #[] n) ∈ news)
    (h : ∀ D c h', Fr h₀ L h' m → News h₀ L h' ((D, listOf #[] c) :: news) → (∀ q ∈ news, q.1 < D) → Q (.ref D) { s with heap := h' }) :
    wpAny (model prog w) A (call (.builtin "sorted") [.ref l]) Q E s :=
  sortedL (vs := []) (ns := []) F N hm .nil (by decide) .nil fun D vs' c h' F' N' l1 i' => by
    cases i'
    exact h D c h' F' N' l1
theorem sorted1 {a : Int} {t : Tok} (F : Fr h₀ L s.heap m) (N : News h₀ L s.heap news) (hm : (l, listOf #[.int a t] n) ∈ news)
    (h : ∀ D t' c h', Fr h₀ L h' m → News h₀ L h' ((D, listOf #[.int a t'] c) :: news) → (∀ q ∈ news, q.1 < D) → Q (.ref D) { s with heap := h' }) :
    wpAny (model prog w) A (call (.builtin "sorted") [.ref l]) Q E s :=
  sortedL (vs := [.int a t]) (ns := [a]) F N hm (.cons _ _ .nil) (by simp) (by simp) fun D vs' c h' F' N' l1 i' => by
    cases i' with | cons _ t' j => cases j; exact h D _ c h' F' N' l1
theorem sorted2 {a b : Int} {t u : Tok} (F : Fr h₀ L s.heap m) (N : News h₀ L s.heap news) (hm : (l, listOf #[.int a t, .int b u] n) ∈ news) (hab : a ≤ b)
    (h : ∀ D t' u' c h', Fr h₀ L h' m → News h₀ L h' ((D, listOf #[.int a t', .int b u'] c) :: news) → (∀ q ∈ news, q.1 < D) → Q (.ref D) { s with heap := h' }) :
    wpAny (model prog w) A (call (.builtin "sorted") [.ref l]) Q E s :=
  sortedL (vs := [.int a t, .int b u]) (ns := [a, b]) F N hm (.cons _ _ (.cons _ _ .nil)) (by simp) (by simpa using hab) fun D vs' c h' F' N' l1 i' => by
    cases i' with | cons _ t' j => cases j with | cons _ u' k => cases k; exact h D _ _ c h' F' N' l1
end
section
variable {A : Around} {s : Shared}
theorem rcBytes (c : Array UInt8) (t u : Tok) : SeqAt.RcAt A s (.bytes c t) (.bytes c u) true := fun prog w E Q h =>
  richCompare_gives (typeIs_bytes s c t) (typeIs_bytes s c u) FB.slot_bytes_eq FB.entry_bytes_eq (FB.args_bytes_eq_2 _ _) (gives_bytes_eq c c t u) (fun e => nomatch e) (by show Q (.bool (c.toList == c.toList)) s; simpa using h)
theorem eqBytes (c : Array UInt8) (t u : Tok) : SeqAt.EqAt A s (.bytes c t) (.bytes c u) true := fun prog w E Q h => by
  unfold eqBool
  refine wpAny_holding ?_
  refine wpAny_ite_split (fun hab => ?_) (fun _ => ?_)
  · exact wpAny_bind (wpAny_rule (wpAny_pure (by simpa using h)))
  · exact wpAny_bind (rcBytes c t u prog w E _ (wpAny_truthy_bool h))
end
mutual
inductive Alike (led : List (Addr × Obj)) : Nat → Value → Value → Prop
  | int {n x t u} : Alike led n (.int x t) (.int x u)
  | bool {n b} : Alike led n (.bool b) (.bool b)
  | bytes {n c t u} : Alike led n (.bytes c t) (.bytes c u)
  | ref {n a} : Alike led n (.ref a) (.ref a)
  | tuple {n p q vs us} : (p, tupO vs) ∈ led → (q, tupO us) ∈ led → AlikeAll led n vs.toList us.toList → Alike led (n + 1) (.ref p) (.ref q)
inductive AlikeAll (led : List (Addr × Obj)) : Nat → List Value → List Value → Prop
  | nil {n} : AlikeAll led n [] []
  | cons {n v u vs us} : Alike led n v u → AlikeAll led n vs us → AlikeAll led n (v :: vs) (u :: us)
end
theorem AlikeAll.len {led : List (Addr × Obj)} {n : Nat} : ∀ {vs us : List Value}, AlikeAll led n vs us → vs.length = us.length
  | _, _, .nil => rfl
  | _, _, .cons _ h => by simp [AlikeAll.len h]
theorem AlikeAll.at {led : List (Addr × Obj)} {n : Nat} : ∀ {vs us : List Value}, AlikeAll led n vs us → ∀ j (h1 : j < vs.length) (h2 : j < us.length), Alike led n vs[j] us[j]
  | _, _, .nil, j, h1, _ => absurd h1 (Nat.not_lt_zero _)
  | _, _, .cons h _, 0, _, _ => h
  | _, _, .cons _ h, j + 1, h1, h2 => h.at j (by simpa using h1) (by simpa using h2)
theorem tupAt {h₀ : Heap} {L p : Addr} {h : Heap} {led : List (Addr × Obj)} {vs : Array Value} (N : News h₀ L h led) (hm : (p, tupO vs) ∈ led) : h.IsTuple p vs := ⟨_, (N _ hm).1, rfl, _, rfl⟩
theorem allTrue (n : Nat) : (List.range n).all (fun _ => true) = true := by simp
theorem alikeEq {h₀ : Heap} {L : Addr} {led : List (Addr × Obj)} : ∀ (n : Nat) (a b : Value) (A : Around) (s : Shared), News h₀ L s.heap led → Alike led n a b → A.units + n < cLine → SeqAt.EqAt A s a b true := by
  intro n
  induction n with
  | zero =>
    intro a b A s N h hu
    cases h with
    | int => rename_i x t u; simpa using SeqAt.EqAt.int_int (A := A) (s := s) x t x u
    | bool => rename_i b; simpa using SeqAt.EqAt.bool_bool (A := A) (s := s) b b
    | bytes => exact eqBytes _ _ _
    | ref => exact SeqAt.EqAt.same _
  | succ n ih =>
    intro a b A s N h hu
    cases h with
    | int => rename_i x t u; simpa using SeqAt.EqAt.int_int (A := A) (s := s) x t x u
    | bool => rename_i b; simpa using SeqAt.EqAt.bool_bool (A := A) (s := s) b b
    | bytes => exact eqBytes _ _ _
    | ref => exact SeqAt.EqAt.same _
    | tuple hp hq ha =>
      rename_i p q vs us
      by_cases hne : p = q
      · subst hne; exact SeqAt.EqAt.same _
      have hl := ha.len
      simp only [Array.length_toList] at hl
      have := SeqAt.EqAt.of_refs hne (SeqAt.RcAt.tuples (A := A) (s := s) (e := fun _ => true) (tupAt N hp) (tupAt N hq) (by omega) fun j j1 j2 => by
        have := ih _ _ A.in1 s N (ha.at j (by simpa using j1) (by simpa using j2)) (by show A.units + 1 + n < cLine; omega)
        simpa using this)
      rw [allTrue, hl] at this
      simpa using this
theorem ne_alike {prog : Program} {w : World} {A : Around} {E : Value → Shared → Prop} {s : Shared} {h₀ : Heap} {L p q : Addr} {led : List (Addr × Obj)} {vs us : Array Value} {Q : Value → Shared → Prop} (N : News h₀ L s.heap led)
    (hp : (p, tupO vs) ∈ led) (hq : (q, tupO us) ∈ led) (ha : AlikeAll led 5 vs.toList us.toList) (hu : A.units + 64 < cLine) (h : Q (.bool false) s) : wpAny (model prog w) A (compareOp .NotEq (.ref p) (.ref q)) Q E s := by
  have hl := ha.len
  simp only [Array.length_toList] at hl
  have := SeqAt.RcNeAt.tuples (A := A) (s := s) (e := fun _ => true) (tupAt N hp) (tupAt N hq) (by omega) fun j j1 j2 => by
    have := alikeEq 5 _ _ A.in1 s N (ha.at j (by simpa using j1) (by simpa using j2)) (by show A.units + 1 + 5 < cLine; omega)
    simpa using this
  rw [allTrue, hl] at this
  exact this prog w E Q (by simpa using h)
theorem iteY {c : Prop} [Decidable c] {A B : Prop} (h : c) (a : A) : if c then A else B := by rw [if_pos h]; exact a
theorem iteN {c : Prop} [Decidable c] {A B : Prop} (h : ¬ c) (b : B) : if c then A else B := by rw [if_neg h]; exact b
theorem gtk {M : Model} {A : Around} {α : Type} {c : Sem α} {Q : α → Shared → Prop} {E : Value → Shared → Prop} {h g d o} {k : Nat} (x : ∀ tk, wpAny M A c Q E ⟨h, g, d, tk, o⟩) : wpAny M A c Q E ⟨h, g, d, k + 1, o⟩ := x _
theorem pick {prog : Program} {w : World} {A E s} {value slice : PySem.Expr} {h₀ : Heap} {L l : Addr} {news : List (Addr × Obj)} {n : Nat} {vs : List Value} {k : Int} {u : Tok} {Q : Value → Shared → Prop} (P : Value → Prop)
    (N : News h₀ L s.heap news) (hm : (l, listOf vs.toArray n) ∈ news) (h0 : 0 ≤ k) (h1 : k < vs.length) (h64 : vs.length ≤ 100) (hP : ∀ v ∈ vs, P v) (h : ∀ v, P v → Q v s)
    (hs : subscripted slice false (.ref l) (.int k u) = operate [.ref l, .int k u] (getItem (.ref l) (.int k u)) := by with_unfolding_all rfl) :
    wpAny (model prog w) A (subscriptTail value slice (.ref l) (.int k u)) Q E s :=
  have hk : k.toNat < vs.length := by omega
  item_at N hm h0 (by omega) (List.getElem?_eq_getElem hk) (h _ (hP _ (List.getElem_mem hk))) hs
theorem pickM {prog : Program} {w : World} {A E s} {value slice : PySem.Expr} {h₀ : Heap} {L l : Addr} {news : List (Addr × Obj)} {n : Nat} {vs : List Value} {k q : Int} {u : Tok} {Q : Value → Shared → Prop} (P : Value → Prop)
    (N : News h₀ L s.heap news) (hm : (l, listOf vs.toArray n) ∈ news) (hq : 0 < q) (hlen : (vs.length : Int) = q) (h64 : q ≤ 100) (hP : ∀ v ∈ vs, P v) (h : ∀ v, P v → Q v s)
    (hs : subscripted slice false (.ref l) (.int (k.fmod q) u) = operate [.ref l, .int (k.fmod q) u] (getItem (.ref l) (.int (k.fmod q) u)) := by with_unfolding_all rfl) :
    wpAny (model prog w) A (subscriptTail value slice (.ref l) (.int (k.fmod q) u)) Q E s :=
  pick P N hm (Int.fmod_nonneg_of_pos k hq) (by have := Int.fmod_lt_of_pos k hq; omega) (by omega) hP h hs
def MenuI (lo hi : Int) (v : Value) : Prop := ∃ x t, v = .int x t ∧ lo ≤ x ∧ x ≤ hi
def MenuB (n : Nat) (v : Value) : Prop := ∃ c t, v = .bytes c t ∧ c.size ≤ n
theorem allNe {d : Addr} {l : List (Addr × Obj)} (h : ∀ p ∈ l, p.1 < d) : ∀ p ∈ l, p.1 ≠ d := fun p hp => neN (by have := ltN (h p hp); omega)
theorem allNe2 {d : Addr} : ∀ {l : List (Addr × Obj)}, AllLt d l → ∀ p ∈ l, p.1 ≠ d
  | [], _ => fun _ hq => nomatch hq
  | p :: r, h => fun q hq => by
    rcases List.mem_cons.mp hq with e | hq
    · subst e
      have := ltN h.1
      exact neN (by omega)
    · exact allNe2 h.2 q hq
theorem unrE {h₀ : Heap} {L I : Addr} {it : Obj} {rest : (Str → Option Value) → List (Addr × Obj) → Prop} {s₁ : Shared} {h' : Heap} {tk : Nat} {m' : Str → Option Value} {d e : Addr × Obj} {r' : List (Addr × Obj)} (F : Fr h₀ L h' m') (N : News h₀ L h' (d :: e :: (I, it) :: r'))
    (off : ∀ p ∈ d :: r', p.1 ≠ I) (r : rest m' (d :: r')) : UnrEnd h₀ L s₁ I it rest { s₁ with heap := h', toks := tk } :=
  UnrEnd.intro F N _ (fun p hp => by
    rcases List.mem_cons.mp hp with rfl | hp
    · exact .tail _ (.tail _ (.head _))
    rcases List.mem_cons.mp hp with rfl | hp
    · exact .head _
    · exact .tail _ (.tail _ (.tail _ hp))) off r
theorem frJ {h₀ : Heap} {L : Addr} {h : Heap} {x : Str} {m : Str → Option Value} {t : Tok} {k k' : Int} (e : k = k') (F : Fr h₀ L h (fun y => if y = x then some (.int k t) else m y)) : Fr h₀ L h (fun y => if y = x then some (.int k' t) else m y) := e ▸ F
theorem sameF {x y z : Int} (h : (decide (x = x) && decide (y = y) && decide (z = z)) = false) : False := by simp at h
theorem menuIn (lo hi : Int) {prog : Program} {w : World} {A : Around} {E : Value → Shared → Prop} {s : Shared} {value slice : PySem.Expr} {h₀ : Heap} {L l : Addr} {news : List (Addr × Obj)} {n : Nat} {vs : List Value} {k q : Int} {u : Tok} {Q : Value → Shared → Prop}
    (N : News h₀ L s.heap news := by k_asm) (hm : (l, listOf vs.toArray n) ∈ news := by k_mem) (hq : 0 < q := by decide) (hlen : (vs.length : Int) = q := by exact rfl) (h64 : q ≤ 100 := by decide) (hP : ∀ v ∈ vs, MenuI lo hi v := by walk_at "my menu") (h : ∀ x t, lo ≤ x → x ≤ hi → Q (.int x t) s)
    (hs : subscripted slice false (.ref l) (.int (k.fmod q) u) = operate [.ref l, .int (k.fmod q) u] (getItem (.ref l) (.int (k.fmod q) u)) := by with_unfolding_all rfl) :
    wpAny (model prog w) A (subscriptTail value slice (.ref l) (.int (k.fmod q) u)) Q E s :=
  pickM (MenuI lo hi) N hm hq hlen h64 hP (fun v hv => by obtain ⟨x, t, rfl, a, b⟩ := hv; exact h x t a b) hs
theorem menuBy (b : Nat) {prog : Program} {w : World} {A : Around} {E : Value → Shared → Prop} {s : Shared} {value slice : PySem.Expr} {h₀ : Heap} {L l : Addr} {news : List (Addr × Obj)} {n : Nat} {vs : List Value} {k q : Int} {u : Tok} {Q : Value → Shared → Prop}
    (N : News h₀ L s.heap news := by k_asm) (hm : (l, listOf vs.toArray n) ∈ news := by k_mem) (hq : 0 < q := by decide) (hlen : (vs.length : Int) = q := by exact rfl) (h64 : q ≤ 100 := by decide) (hP : ∀ v ∈ vs, MenuB b v := by walk_at "my menu") (h : ∀ c t, c.size ≤ b → Q (.bytes c t) s)
    (hs : subscripted slice false (.ref l) (.int (k.fmod q) u) = operate [.ref l, .int (k.fmod q) u] (getItem (.ref l) (.int (k.fmod q) u)) := by with_unfolding_all rfl) :
    wpAny (model prog w) A (subscriptTail value slice (.ref l) (.int (k.fmod q) u)) Q E s :=
  pickM (MenuB b) N hm hq hlen h64 hP (fun v hv => by obtain ⟨x, t, rfl, a⟩ := hv; exact h x t a) hs
section
variable {w : World} {mean : ExcName → Option Value} {mg mb : Str → Option Value} {news : List (Addr × Obj)} {dp un : Nat} {gd : Option (List Code)} {cn : Str} {cs : Scope} {a₁ : Addr} {ccd : Value} {cl : List (Str × Addr)} {outer : List Env} {A₀ : Around} {base h₀ hp : Heap} {gn : Array GenState} {dr : Drawn} {tk : Nat} {os : OsState} {L : Addr} {m : Str → Option Value} {Q E : Value → Shared → Prop}
theorem draw_step {l : Addr} {xs : List Int} {vs : List Value} {n : Nat} {i : Int} {t : Tok} (B : Below A₀ base outer h₀ := by k_asm) (F : Fr h₀ L hp m := by k_asm) (X : (hd.heap_1 w.params).In h₀ := by k_asm) (N : News h₀ L hp news := by k_asm)
    (hm : (l, listOf vs.toArray n) ∈ news := by first | k_mem | assumption) (hi : IntsAre vs xs := by assumption) (hne : 0 < xs.length := by assumption) (hlen : xs.length ≤ 11 := by assumption) (hb : ∀ x ∈ xs, 0 ≤ x ∧ x < 999983 := by assumption) (h0 : 0 ≤ i := by omega) (h1 : i ≤ 10 := by omega) (T : Top hd.view_1 (looseW hd.view_1 []) mean mg mb h₀ := by k_asm) (hk : cs.kind = .function := by first | exact rfl | assumption) (hdp : dp + 2 < recursionLimit := by ktr_room) (hun : un + 8 * 2 + 100 < cLine := by ktr_units)
    (ret : ∀ r u h' tk', 0 ≤ r → r < 1079173 → Fr h₀ L h' m → News h₀ L h' (news) → Q (.int r u) ⟨h', gn, dr, tk', os⟩) :
    wpAny (model PySem.Challenge.rw_xw0262_01.row.toRowW.prog w) (ktrTop dp un gd cn cs L a₁ ccd cl outer) (call (.ref 315) [.ref l, .int i t]) Q E ⟨hp, gn, dr, tk, os⟩ :=
  does_use (s := ⟨hp, gn, dr, tk, os⟩) (draw_does w mean mg mb l xs vs n news hm hi hne hlen hb i t h0 h1) B F X N T hk hdp hun (fun _ _ h' tk' hR F' N' => by
    obtain ⟨e1, r, u, e2, p, q⟩ := hR; subst e1; subst e2; exact ret r u h' tk' p q F' N')
theorem wide_step {x : Int} {t : Tok} (B : Below A₀ base outer h₀ := by k_asm) (F : Fr h₀ L hp m := by k_asm) (X : (hd.heap_1 w.params).In h₀ := by k_asm) (N : News h₀ L hp news := by k_asm)
     (T : Top hd.view_1 (looseW hd.view_1 []) mean mg mb h₀ := by k_asm) (hk : cs.kind = .function := by first | exact rfl | assumption) (hdp : dp + 2 < recursionLimit := by ktr_room) (hun : un + 8 * 2 + 100 < cLine := by ktr_units)
    (ret : ∀ r u h' tk', 0 ≤ r → r < 18446744073709551616 → Fr h₀ L h' m → News h₀ L h' (news) → Q (.int r u) ⟨h', gn, dr, tk', os⟩) :
    wpAny (model PySem.Challenge.rw_xw0262_01.row.toRowW.prog w) (ktrTop dp un gd cn cs L a₁ ccd cl outer) (call (.ref 322) [.int x t]) Q E ⟨hp, gn, dr, tk, os⟩ :=
  does_use (s := ⟨hp, gn, dr, tk, os⟩) (wide_does w mean mg mb news x t) B F X N T hk hdp hun (fun _ _ h' tk' hR F' N' => by
    obtain ⟨e1, r, u, e2, p, q⟩ := hR; subst e1; subst e2; exact ret r u h' tk' p q F' N')
theorem other_step {x : Int} {t : Tok} {y : Int} {t' : Tok} (B : Below A₀ base outer h₀ := by k_asm) (F : Fr h₀ L hp m := by k_asm) (X : (hd.heap_1 w.params).In h₀ := by k_asm) (N : News h₀ L hp news := by k_asm)
    (h0 : 0 ≤ x := by omega) (h1 : x < 36893488147419103232 := by omega) (T : Top hd.view_1 (looseW hd.view_1 []) mean mg mb h₀ := by k_asm) (hk : cs.kind = .function := by first | exact rfl | assumption) (hdp : dp + 2 < recursionLimit := by ktr_room) (hun : un + 8 * 2 + 100 < cLine := by ktr_units)
    (ret : ∀ r u h' tk', 0 ≤ r → r ≤ x + 4611686018427387904 → r ≠ x → Fr h₀ L h' m → News h₀ L h' (news) → Q (.int r u) ⟨h', gn, dr, tk', os⟩) :
    wpAny (model PySem.Challenge.rw_xw0262_01.row.toRowW.prog w) (ktrTop dp un gd cn cs L a₁ ccd cl outer) (call (.ref 329) [.int x t, .int y t']) Q E ⟨hp, gn, dr, tk, os⟩ :=
  does_use (s := ⟨hp, gn, dr, tk, os⟩) (other_does w mean mg mb news x t h0 h1 y t') B F X N T hk hdp hun (fun _ _ h' tk' hR F' N' => by
    obtain ⟨e1, r, u, e2, p, q, q2⟩ := hR; subst e1; subst e2; exact ret r u h' tk' p q q2 F' N')
theorem mk_step {x : Int} {t : Tok} {y : Int} {t' : Tok} {z : Int} {t'' : Tok} (B : Below A₀ base outer h₀ := by k_asm) (F : Fr h₀ L hp m := by k_asm) (X : (hd.heap_1 w.params).In h₀ := by k_asm) (N : News h₀ L hp news := by k_asm)
     (T : Top hd.view_1 (looseW hd.view_1 []) mean mg mb h₀ := by k_asm) (hk : cs.kind = .function := by first | exact rfl | assumption) (hdp : dp + 3 < recursionLimit := by ktr_room) (hun : un + 8 * 3 + 100 < cLine := by ktr_units)
    (ret : ∀ a d k1 k2 k3 h' tk', (∀ p ∈ news, p.1 < d) → d < a → Fr h₀ L h' m → News h₀ L h' ((a, instObj 180 d) :: (d, hsD w.params k1 k2 k3 x t y t' z t'') :: news) → Q (.ref a) ⟨h', gn, dr, tk', os⟩) :
    wpAny (model PySem.Challenge.rw_xw0262_01.row.toRowW.prog w) (ktrTop dp un gd cn cs L a₁ ccd cl outer) (call (.ref 180) [.int x t, .int y t', .int z t'']) Q E ⟨hp, gn, dr, tk, os⟩ :=
  does_use (s := ⟨hp, gn, dr, tk, os⟩) (mk_does w mean mg mb news x t y t' z t'') B F X N T hk hdp hun (fun _ _ h' tk' hR F' N' => by
    obtain ⟨a, d, k1, k2, k3, e1, e2, p, q⟩ := hR; subst e1; subst e2; exact ret a d k1 k2 k3 h' tk' p q F' N')
theorem row_step {o d : Addr} {k1 k2 k3 : Tok} {x : Int} {t : Tok} {y : Int} {t' : Tok} {z : Int} {t'' : Tok} (B : Below A₀ base outer h₀ := by k_asm) (F : Fr h₀ L hp m := by k_asm) (X : (hd.heap_1 w.params).In h₀ := by k_asm) (N : News h₀ L hp news := by k_asm)
    (hx : (o, instObj 180 d) ∈ news := by first | k_mem | assumption) (hdd : (d, hsD w.params k1 k2 k3 x t y t' z t'') ∈ news := by first | k_mem | assumption) (T : Top hd.view_1 (looseW hd.view_1 []) mean mg mb h₀ := by k_asm) (hk : cs.kind = .function := by first | exact rfl | assumption) (hdp : dp + 3 < recursionLimit := by ktr_room) (hun : un + 8 * 3 + 100 < cLine := by ktr_units)
    (ret : ∀ r h' tk', (∀ p ∈ news, p.1 < r) → Fr h₀ L h' m → News h₀ L h' ((r, hsRow x t y t' z t'') :: news) → Q (.ref r) ⟨h', gn, dr, tk', os⟩) :
    wpAny (model PySem.Challenge.rw_xw0262_01.row.toRowW.prog w) (ktrTop dp un gd cn cs L a₁ ccd cl outer) (call (.ref 156) [.ref o]) Q E ⟨hp, gn, dr, tk, os⟩ :=
  does_use (s := ⟨hp, gn, dr, tk, os⟩) (row_does w mean mg mb news o d k1 k2 k3 x t y t' z t'' hx hdd) B F X N T hk hdp hun (fun _ _ h' tk' hR F' N' => by
    obtain ⟨r, e1, e2, p⟩ := hR; subst e1; subst e2; exact ret r h' tk' p F' N')
theorem empty_step {o d : Addr} {k1 k2 k3 : Tok} {x : Int} {t : Tok} {y : Int} {t' : Tok} {z : Int} {t'' : Tok} (B : Below A₀ base outer h₀ := by k_asm) (F : Fr h₀ L hp m := by k_asm) (X : (hd.heap_1 w.params).In h₀ := by k_asm) (N : News h₀ L hp news := by k_asm)
    (hx : (o, instObj 180 d) ∈ news := by first | k_mem | assumption) (hdd : (d, hsD w.params k1 k2 k3 x t y t' z t'') ∈ news := by first | k_mem | assumption) (T : Top hd.view_1 (looseW hd.view_1 []) mean mg mb h₀ := by k_asm) (hk : cs.kind = .function := by first | exact rfl | assumption) (hdp : dp + 3 < recursionLimit := by ktr_room) (hun : un + 8 * 3 + 100 < cLine := by ktr_units)
    (ret : ∀  h' tk', Fr h₀ L h' m → News h₀ L h' (news) → Q (.bool (decide (x = 0) && decide (y = 0) && decide (z = 0))) ⟨h', gn, dr, tk', os⟩) :
    wpAny (model PySem.Challenge.rw_xw0262_01.row.toRowW.prog w) (ktrTop dp un gd cn cs L a₁ ccd cl outer) (call (.ref 163) [.ref o]) Q E ⟨hp, gn, dr, tk, os⟩ :=
  does_use (s := ⟨hp, gn, dr, tk, os⟩) (empty_does w mean mg mb news o d k1 k2 k3 x t y t' z t'' hx hdd) B F X N T hk hdp hun (fun _ _ h' tk' hR F' N' => by
    obtain ⟨e1, e2⟩ := hR; subst e1; subst e2; exact ret h' tk' F' N')
theorem same_step {o d : Addr} {k1 k2 k3 : Tok} {x : Int} {t : Tok} {y : Int} {t' : Tok} {z : Int} {t'' : Tok} {o2 d2 : Addr} {j1 j2 j3 : Tok} {x2 : Int} {u : Tok} {y2 : Int} {u' : Tok} {z2 : Int} {u'' : Tok} (B : Below A₀ base outer h₀ := by k_asm) (F : Fr h₀ L hp m := by k_asm) (X : (hd.heap_1 w.params).In h₀ := by k_asm) (N : News h₀ L hp news := by k_asm)
    (hx : (o, instObj 180 d) ∈ news := by first | k_mem | assumption) (hdd : (d, hsD w.params k1 k2 k3 x t y t' z t'') ∈ news := by first | k_mem | assumption) (hx2 : (o2, instObj 180 d2) ∈ news := by first | k_mem | assumption) (hdd2 : (d2, hsD w.params j1 j2 j3 x2 u y2 u' z2 u'') ∈ news := by first | k_mem | assumption) (T : Top hd.view_1 (looseW hd.view_1 []) mean mg mb h₀ := by k_asm) (hk : cs.kind = .function := by first | exact rfl | assumption) (hdp : dp + 5 < recursionLimit := by ktr_room) (hun : un + 8 * 5 + 100 < cLine := by ktr_units)
    (ret : ∀  h' tk', Fr h₀ L h' m → News h₀ L h' (news) → Q (.bool (decide (x = x2) && decide (y = y2) && decide (z = z2))) ⟨h', gn, dr, tk', os⟩) :
    wpAny (model PySem.Challenge.rw_xw0262_01.row.toRowW.prog w) (ktrTop dp un gd cn cs L a₁ ccd cl outer) (call (.ref 170) [.ref o, .ref o2]) Q E ⟨hp, gn, dr, tk, os⟩ :=
  does_use (s := ⟨hp, gn, dr, tk, os⟩) (same_does w mean mg mb news o d k1 k2 k3 x t y t' z t'' hx hdd o2 d2 j1 j2 j3 x2 u y2 u' z2 u'' hx2 hdd2) B F X N T hk hdp hun (fun _ _ h' tk' hR F' N' => by
    obtain ⟨e1, e2⟩ := hR; subst e1; subst e2; exact ret h' tk' F' N')
theorem copy_step {o d : Addr} {k1 k2 k3 : Tok} {x : Int} {t : Tok} {y : Int} {t' : Tok} {z : Int} {t'' : Tok} (B : Below A₀ base outer h₀ := by k_asm) (F : Fr h₀ L hp m := by k_asm) (X : (hd.heap_1 w.params).In h₀ := by k_asm) (N : News h₀ L hp news := by k_asm)
    (hx : (o, instObj 180 d) ∈ news := by first | k_mem | assumption) (hdd : (d, hsD w.params k1 k2 k3 x t y t' z t'') ∈ news := by first | k_mem | assumption) (T : Top hd.view_1 (looseW hd.view_1 []) mean mg mb h₀ := by k_asm) (hk : cs.kind = .function := by first | exact rfl | assumption) (hdp : dp + 5 < recursionLimit := by ktr_room) (hun : un + 8 * 5 + 100 < cLine := by ktr_units)
    (ret : ∀ a d k1 k2 k3 h' tk', (∀ p ∈ news, p.1 < d) → d < a → Fr h₀ L h' m → News h₀ L h' ((a, instObj 180 d) :: (d, hsD w.params k1 k2 k3 x t y t' z t'') :: news) → Q (.ref a) ⟨h', gn, dr, tk', os⟩) :
    wpAny (model PySem.Challenge.rw_xw0262_01.row.toRowW.prog w) (ktrTop dp un gd cn cs L a₁ ccd cl outer) (call (.ref 177) [.ref o]) Q E ⟨hp, gn, dr, tk, os⟩ :=
  does_use (s := ⟨hp, gn, dr, tk, os⟩) (copy_does w mean mg mb news o d k1 k2 k3 x t y t' z t'' hx hdd) B F X N T hk hdp hun (fun _ _ h' tk' hR F' N' => by
    obtain ⟨a, d, k1, k2, k3, e1, e2, p, q⟩ := hR; subst e1; subst e2; exact ret a d k1 k2 k3 h' tk' p q F' N')
end
theorem cutW {M : Model} {Γ : PySem.Ctx} {env : Env} {Q : Flow → Shared → Prop} {E : Value → Shared → Prop} {Inv : Shared → Prop} {ys : List Stmt} : ∀ (xs : List Stmt) (p : Pos) (s : Shared), Sem.wp M Γ (execs xs env) (fun a _ s' => match a with | .next => Inv s' | _ => False) (fun e _ s' => E e s') p s → (∀ p s', Inv s' → Sem.wp M Γ (execs ys env) (fun a _ s' => Q a s') (fun e _ s' => E e s') p s') → Sem.wp M Γ (execs (xs ++ ys) env) (fun a _ s' => Q a s') (fun e _ s' => E e s') p s
  | [], p, s, h, k => k p s h
  | x :: xs, p, s, h, k => by
    rw [execs_cons, Sem.wp_bind'] at h
    rw [List.cons_append, execs_cons, Sem.wp_bind']
    refine Sem.wp_mono M Γ _ (fun f p' s' h' => ?_) (fun _ _ _ h' => h') _ _ h
    cases f with
    | next => exact cutW xs p' s' h' k
    | _ => exact absurd h' (by exact id)
theorem cut_execs {M : Model} {A : Around} {env : Env} {s : Shared} {Q : Flow → Shared → Prop} {E : Value → Shared → Prop} (Inv : Shared → Prop) (xs : List Stmt) {ys : List Stmt} (h : wpAny M A (execs xs env) (fun a s' => match a with | .next => Inv s' | _ => False) E s) (k : ∀ s', Inv s' → wpAny M A (execs ys env) Q E s') : wpAny M A (execs (xs ++ ys) env) Q E s :=
  fun Γ p hΓ => cutW xs p s (h Γ p hΓ) (fun p' s' hi => k s' hi Γ p' hΓ)
theorem frM {h₀ : Heap} {L : Addr} {h : Heap} {m m' : Str → Option Value} (F : Fr h₀ L h m) (e : ∀ y, m y = m' y) : Fr h₀ L h m' := (funext e : m = m') ▸ F
theorem ifif {α : Type} {c : Prop} [Decidable c] {x y z : α} : (if c then x else if c then y else z) = if c then x else z := by split <;> rfl
local macro_rules | `(tactic| walk_at "binaryOp Pow int int") => `(tactic| with_reducible first | refine pow32 ?_ | refine pow40 ?_ | refine pow48 ?_ | refine pow62 ?_ | refine pow63 ?_ | refine pow64 ?_)
local macro_rules | `(tactic| k_mem) => `(tactic| (refine' memOf ?_; ktr_member))
local macro_rules | `(tactic| k_room) => `(tactic| ktr_room)
local macro_rules | `(tactic| k_units) => `(tactic| ktr_units)
local macro_rules | `(tactic| ke_room) => `(tactic| ktr_units)
local macro_rules | `(tactic| units_room) => `(tactic| ktr_units)
local macro_rules | `(tactic| k_in) => `(tactic| first | with_reducible assumption | exact Frag.In.keeps (by with_reducible assumption) (Fr.keep (by with_reducible assumption)))
local macro_rules | `(tactic| walk_at "my sub") => `(tactic| (k_here; (with_reducible show wpAny _ _ (subscriptTail _ _ (Value.ref _) (Value.int _ _)) _ _ _); k_dflt (refine' item_at ?N ?m ?a ?b ?x ?_; (case N => k_asm); (case m => k_mem); (case a => omega); (case b => omega); (case x => first | with_reducible assumption | exact rfl); k_whole)))
local macro_rules | `(tactic| walk_at "subscriptTail") => `(tactic| walk_at "my sub")
local macro_rules | `(tactic| walk_at "subscriptTail Name Constant ref int") => `(tactic| walk_at "my sub")
local macro_rules | `(tactic| walk_at "subscriptTail Name Name ref int") => `(tactic| walk_at "my sub")
local macro_rules | `(tactic| walk_at "subscriptTail List BinOp ref int") => `(tactic| walk_at "my sub")
local macro_rules | `(tactic| walk_at "subscriptTail Name BinOp ref int") => `(tactic| walk_at "my sub")
local macro_rules | `(tactic| walk_at "swp") => `(tactic| ((try dsimp only); (try k_sweep)))
local macro_rules | `(tactic| walk_at "my news") => `(tactic| ((rename News _ _ _ _ => nE); (repeat (first | exact nE | replace nE := newsT nE))))
local macro_rules | `(tactic| walk_at "my turn") => `(tactic| (intro z h1 h3; (try dsimp only); (repeat (first | exact rfl | exact skipS h3 | refine skipX h1 ?_ | refine skipA h3 (by decide +kernel) ?_ | refine skipC h3 (by decide +kernel) ?_)); done))
local macro_rules | `(tactic| walk_at "my menu") => `(tactic| ((repeat (first | exact List.forall_mem_nil _ | (refine List.forall_mem_cons.mpr ⟨⟨_, _, rfl, ?_⟩, ?_⟩; first | exact ⟨by decide, by decide⟩ | decide +kernel))); done))
local macro_rules | `(tactic| walk_at "TurnPost") => `(tactic| (dsimp only [TurnPost]))
local macro_rules | `(tactic| walk_at "TurnEnd") => `(tactic| (refine TurnEnd.intro (by k_asm) (by walk_at "my news") (by walk_at "my turn")))
local macro_rules | `(tactic| ktr_units) => `(tactic| (have hcL9 := cLine_is; (simp only [units_under_make, units_in1, units_deeper, Around.mark_units, units_caller] at *); (try dsimp only [ktrTop] at *); omega))
local macro_rules | `(tactic| k_all) => `(tactic| first | exact allNe (by with_reducible assumption) | exact allNe2 (by with_reducible assumption) | exact allNe2 (And.right (by with_reducible assumption)) | exact allNe2 (And.right (And.right (by with_reducible assumption))) | exact allNe2 (And.right (And.right (And.right (by with_reducible assumption)))) | exact allNe2 (And.right (And.right (And.right (And.right (by with_reducible assumption))))) | exact allNe2 (And.right (And.right (And.right (And.right (And.right (by with_reducible assumption)))))) | exact allNe2 (And.right (And.right (And.right (And.right (And.right (And.right (by with_reducible assumption))))))))
local macro_rules | `(tactic| walk_at "compareOp NotEq ref ref") => `(tactic| (k_here; (with_reducible show wpAny _ _ (compareOp CmpOp.NotEq (Value.ref _) (Value.ref _)) _ _ _); k_dflt (refine' ne_alike ?N ?p ?q ?a ?u ?_; (case N => k_asm); (case p => k_mem); (case q => k_mem); (case a => ktr_rel); (case u => ke_room); k_whole)))
local macro_rules | `(tactic| walk_at "ite") => `(tactic| (k_closed; with_reducible (first | refine iteY (by decide) ?_ | refine iteN (by decide) ?_)))
local macro_rules | `(tactic| walk_at "pyIter ref") => `(tactic| (k_here; (with_reducible show wpAny _ _ (pyIter (Value.ref _)) (fun it s₂ => LoopAtV _ _ _ _ _ _ _ _ _ it s₂) _ _); refine' Halt.go ?_))
local macro_rules | `(tactic| walk_at "call ref") => `(tactic| (k_here; (with_unfolding_all show wpAny _ _ (call (Value.ref 315) [Value.ref _, Value.int _ _]) _ _ _); k_dflt (refine' draw_step (ret := ?_); k_whole); intro _ _ _ _ _ _ _ _; walk_at "swp"))
abbrev csD (p : Params) (k1 k2 k3 k4 k5 : Tok) (D1 D2 D3 D4 : Addr) (al : Bool) : Obj :=
  dictOf [⟨PyData.keyHash p (Str.ofString "voters"), .str (Str.ofString "voters") k1, .ref D1⟩, ⟨PyData.keyHash p (Str.ofString "learners"), .str (Str.ofString "learners") k2, .ref D2⟩, ⟨PyData.keyHash p (Str.ofString "outgoing"), .str (Str.ofString "outgoing") k3, .ref D3⟩,
    ⟨PyData.keyHash p (Str.ofString "learners_next"), .str (Str.ofString "learners_next") k4, .ref D4⟩, ⟨PyData.keyHash p (Str.ofString "auto_leave"), .str (Str.ofString "auto_leave") k5, .bool al⟩] 5
def LsAt (led : List (Addr × Obj)) (D : Addr) (ns : List Int) : Prop := ∃ vs c, (D, listOf vs.toArray c) ∈ led ∧ IntsAre vs ns
def ConfAt (P : Params) (led : List (Addr × Obj)) (a : Addr) (al : Bool) (n1 n2 n3 n4 : List Int) : Prop :=
  ∃ d k1 k2 k3 k4 k5 D1 D2 D3 D4, (a, instObj 215 d) ∈ led ∧ (d, csD P k1 k2 k3 k4 k5 D1 D2 D3 D4 al) ∈ led ∧ LsAt led D1 n1 ∧ LsAt led D2 n2 ∧ LsAt led D3 n3 ∧ LsAt led D4 n4
def TsAt (led : List (Addr × Obj)) (D : Addr) (ns : List Int) : Prop := ∃ vs, (D, tupO vs.toArray) ∈ led ∧ IntsAre vs ns
def RowT (led : List (Addr × Obj)) (r : Addr) (al : Bool) (n1 n2 n3 n4 : List Int) : Prop :=
  ∃ D1 D2 D3 D4, (r, tupO #[.ref D1, .ref D2, .ref D3, .ref D4, .bool al]) ∈ led ∧ TsAt led D1 n1 ∧ TsAt led D2 n2 ∧ TsAt led D3 n3 ∧ TsAt led D4 n4
theorem LsAt.mono {led led' : List (Addr × Obj)} {D : Addr} {ns : List Int} (h : LsAt led D ns) (s : ∀ p ∈ led, p ∈ led') : LsAt led' D ns := let ⟨vs, c, h1, h2⟩ := h; ⟨vs, c, s _ h1, h2⟩
theorem TsAt.mono {led led' : List (Addr × Obj)} {D : Addr} {ns : List Int} (h : TsAt led D ns) (s : ∀ p ∈ led, p ∈ led') : TsAt led' D ns := let ⟨vs, h1, h2⟩ := h; ⟨vs, s _ h1, h2⟩
theorem ConfAt.mono {P : Params} {led led' : List (Addr × Obj)} {a : Addr} {al : Bool} {n1 n2 n3 n4 : List Int} (h : ConfAt P led a al n1 n2 n3 n4) (s : ∀ p ∈ led, p ∈ led') : ConfAt P led' a al n1 n2 n3 n4 :=
  let ⟨d, k1, k2, k3, k4, k5, D1, D2, D3, D4, h1, h2, h3, h4, h5, h6⟩ := h; ⟨d, k1, k2, k3, k4, k5, D1, D2, D3, D4, s _ h1, s _ h2, h3.mono s, h4.mono s, h5.mono s, h6.mono s⟩
theorem RowT.mono {led led' : List (Addr × Obj)} {a : Addr} {al : Bool} {n1 n2 n3 n4 : List Int} (h : RowT led a al n1 n2 n3 n4) (s : ∀ p ∈ led, p ∈ led') : RowT led' a al n1 n2 n3 n4 :=
  let ⟨D1, D2, D3, D4, h1, h3, h4, h5, h6⟩ := h; ⟨D1, D2, D3, D4, s _ h1, h3.mono s, h4.mono s, h5.mono s, h6.mono s⟩
theorem alikeInts {led : List (Addr × Obj)} {n : Nat} : ∀ {vs us : List Value} {ns : List Int}, IntsAre vs ns → IntsAre us ns → AlikeAll led n vs us
  | _, _, _, .nil, h => by cases h; exact .nil
  | _, _, _, .cons _ _ h, h' => by cases h' with | cons _ _ g => exact .cons .int (alikeInts h g)
theorem TsAt.alike {led : List (Addr × Obj)} {n : Nat} {D D' : Addr} {ns : List Int} (h : TsAt led D ns) (h' : TsAt led D' ns) : Alike led (n + 1) (.ref D) (.ref D') :=
  let ⟨_, h1, h2⟩ := h; let ⟨_, h3, h4⟩ := h'; .tuple h1 h3 (alikeInts h2 h4)
theorem RowT.alike {led : List (Addr × Obj)} {n : Nat} {r r' : Addr} {al : Bool} {n1 n2 n3 n4 : List Int} (h : RowT led r al n1 n2 n3 n4) (h' : RowT led r' al n1 n2 n3 n4) : Alike led (n + 2) (.ref r) (.ref r') :=
  let ⟨_, _, _, _, h1, a1, a2, a3, a4⟩ := h; let ⟨_, _, _, _, g1, b1, b2, b3, b4⟩ := h'; .tuple h1 g1 (.cons (a1.alike b1) (.cons (a2.alike b2) (.cons (a3.alike b3) (.cons (a4.alike b4) (.cons .bool .nil)))))
local macro_rules | `(tactic| walk_at "call builtin:sorted") => `(tactic| (k_here; (with_reducible show wpAny _ _ (call (Value.builtin _) [Value.ref _]) _ _ _); k_dflt (first
  | (refine' sorted0 ?k1 ?k2 ?k3 ?_; (case k1 => k_asm); (case k2 => k_asm); (case k3 => k_mem); k_whole; intro D' c' h' F' N' l1; (try k_lt l1); (try k_sweep))
  | (refine' sorted1 ?k1 ?k2 ?k3 ?_; (case k1 => k_asm); (case k2 => k_asm); (case k3 => k_mem); k_whole; intro D' t' c' h' F' N' l1; (try k_lt l1); (try k_sweep))
  | (refine' sorted2 ?k1 ?k2 ?k3 ?k4 ?_; (case k1 => k_asm); (case k2 => k_asm); (case k3 => k_mem); (case k4 => omega); k_whole; intro D' t' u' c' h' F' N' l1; (try k_lt l1); (try k_sweep)))))
section

local macro_rules | `(tactic| walk_at "UnrEnd") => `(tactic| (k_here; refine' Halt.go ?_))
theorem rising0 (w : World) (mean mg mb) (news) (l : Addr) (n : Nat) (hm : (l, listOf #[] n) ∈ news) :
    Does w mean mg mb 3 86 news [.ref l] (fun v tl => ∃ D vs' c, v = .ref D ∧ tl = (D, listOf vs'.toArray c) :: news ∧ IntsAre vs' [] ∧ ∀ p ∈ news, p.1 < D) := by
  unfold Does
  k_fill
  intro dp un gd cn cs a ccd cl outer A₀ base h₀ L m s Q E B F X N T hk hdp hun hret
  refine wpAny_call ?_
  k_dflt ktr_enter
  have kM := kstMark
  k_steps
  refine Halt.go' ?_
  rename News _ _ _ _ => N8
  rename Fr _ _ _ _ => F8
  with_unfolding_all refine iter_listUnr (vs := []) (by rfl) F8 N8 (List.Mem.head _) (by rfl) (by rfl) ?_
  clear F8 N8
  intro I hI
  refine ListRest.zero (fun h tk F9 N9 => ?_)
  k_steps
  exact hret _ _ _ _ ⟨_, [], _, rfl, rfl, .nil, by assumption⟩ (by k_asm) (newsT (by assumption))
theorem rising1 (w : World) (mean mg mb) (news) (l : Addr) (n : Nat) (x : Int) (t) (hm : (l, listOf #[.int x t] n) ∈ news) :
    Does w mean mg mb 3 86 news [.ref l] (fun v tl => ∃ D vs' c, v = .ref D ∧ tl = (D, listOf vs'.toArray c) :: news ∧ IntsAre vs' [x] ∧ ∀ p ∈ news, p.1 < D) := by
  unfold Does
  k_fill
  intro dp un gd cn cs a ccd cl outer A₀ base h₀ L m s Q E B F X N T hk hdp hun hret
  refine wpAny_call ?_
  k_dflt ktr_enter
  have kM := kstMark
  k_steps
  refine Halt.go' ?_
  rename News _ _ _ _ => N8
  rename Fr _ _ _ _ => F8
  with_unfolding_all refine iter_listUnr (vs := [.int x _]) (by rfl) F8 N8 (List.Mem.head _) (by rfl) (by rfl) ?_
  clear F8 N8
  intro I hI
  have hI0 := allLt_of hI
  k_lt hI
  refine ListRest.succ (fun it h tk hit F9 N9 => ?_)
  k_steps
  all_goals try (exfalso; omega)
  refine Halt.go' ?_
  (try clear F9); (try clear N9)
  rename News _ _ _ _ => N9
  rename Fr _ _ _ _ => F9
  refine UnrEnd.intro F9 N9 _ (fun p hp => hp) (allNe2 hI0) ⟨List.Mem.head _, ?_⟩
  (try clear F9); (try clear N9)
  refine ListRest.zero (fun h tk F9 N9 => ?_)
  k_steps
  exact hret _ _ _ _ ⟨_, [.int x _], _, rfl, rfl, .cons _ _ .nil, by assumption⟩ (by k_asm) (newsT (by assumption))
theorem rising2 (w : World) (mean mg mb) (news) (l : Addr) (n : Nat) (x y : Int) (t u) (hxy : x < y) (hm : (l, listOf #[.int x t, .int y u] n) ∈ news) :
    Does w mean mg mb 3 86 news [.ref l] (fun v tl => ∃ D vs' c, v = .ref D ∧ tl = (D, listOf vs'.toArray c) :: news ∧ IntsAre vs' [x, y] ∧ ∀ p ∈ news, p.1 < D) := by
  unfold Does
  k_fill
  intro dp un gd cn cs a ccd cl outer A₀ base h₀ L m s Q E B F X N T hk hdp hun hret
  refine wpAny_call ?_
  k_dflt ktr_enter
  have kM := kstMark
  k_steps
  refine Halt.go' ?_
  rename News _ _ _ _ => N8
  rename Fr _ _ _ _ => F8
  with_unfolding_all refine iter_listUnr (vs := [.int x _, .int y _]) (by rfl) F8 N8 (List.Mem.head _) (by rfl) (by rfl) ?_
  clear F8 N8
  intro I hI
  have hI0 := allLt_of hI
  k_lt hI
  refine ListRest.succ (fun it h tk hit F9 N9 => ?_)
  k_steps
  all_goals try (exfalso; omega)
  refine Halt.go' ?_
  (try clear F9); (try clear N9)
  rename News _ _ _ _ => N9
  rename Fr _ _ _ _ => F9
  refine UnrEnd.intro F9 N9 _ (fun p hp => hp) (allNe2 hI0) ⟨List.Mem.head _, ?_⟩
  (try clear F9); (try clear N9)
  refine ListRest.succ (fun it h tk hit F9 N9 => ?_)
  k_steps
  all_goals try (exfalso; omega)
  refine Halt.go' ?_
  (try clear F9); (try clear N9)
  rename News _ _ _ _ => N9
  rename Fr _ _ _ _ => F9
  refine UnrEnd.intro F9 N9 _ (fun p hp => hp) (allNe2 hI0) ⟨List.Mem.head _, ?_⟩
  (try clear F9); (try clear N9)
  refine ListRest.zero (fun h tk F9 N9 => ?_)
  k_steps
  exact hret _ _ _ _ ⟨_, [.int x _, .int y _], _, rfl, rfl, .cons _ _ (.cons _ _ .nil), by assumption⟩ (by k_asm) (newsT (by assumption))
theorem rising_does {w : World} {mean mg mb} {news} {l : Addr} {vs : List Value} {n : Nat} {ns : List Int} (hm : (l, listOf vs.toArray n) ∈ news) (hi : IntsAre vs ns) (hs : ns.Pairwise (· < ·)) (h2 : ns.length ≤ 2) :
    Does w mean mg mb 3 86 news [.ref l] (fun v tl => ∃ D vs' c, v = .ref D ∧ tl = (D, listOf vs'.toArray c) :: news ∧ IntsAre vs' ns ∧ ∀ p ∈ news, p.1 < D) := by
  cases hi with
  | nil => exact rising0 w mean mg mb news l n hm
  | cons x t hi =>
    cases hi with
    | nil => exact rising1 w mean mg mb news l n x t hm
    | cons y u hi =>
      cases hi with
      | nil => exact rising2 w mean mg mb news l n x y t u (by simpa using hs) hm
      | cons z v hi => simp only [List.length_cons] at h2; omega

end
def Sub (a b : List (Addr × Obj)) : Prop := ∀ p ∈ a, p ∈ b
theorem tupleL {prog : Program} {w : World} {A : Around} {E : Value → Shared → Prop} {s : Shared} {h₀ : Heap} {L l : Addr} {m : Str → Option Value} {news : List (Addr × Obj)} {vs : List Value} {n : Nat} {ns : List Int} {Q : Value → Shared → Prop} (F : Fr h₀ L s.heap m) (N : News h₀ L s.heap news) (hm : (l, listOf vs.toArray n) ∈ news) (hi : IntsAre vs ns) (h2 : ns.length ≤ 2)
    (h : ∀ D h', Fr h₀ L h' m → News h₀ L h' ((D, tupO vs.toArray) :: news) → (∀ p ∈ news, p.1 < D) → Q (.ref D) { s with heap := h' }) : wpAny (model prog w) A (call (.type "tuple") [.ref l]) Q E s :=
  kde_tupleOf F N ⟨_, (N _ hm).1, rfl, n, rfl⟩ (by rw [List.size_toArray]; have := hi.length; omega) rfl h
section
variable {w : World} {mean : ExcName → Option Value} {mg mb : Str → Option Value} {news : List (Addr × Obj)} {dp un : Nat} {gd : Option (List Code)} {cn : Str} {cs : Scope} {a₁ : Addr} {ccd : Value} {cl : List (Str × Addr)} {outer : List Env} {A₀ : Around} {base h₀ hp : Heap} {gn : Array GenState} {dr : Drawn} {tk : Nat} {os : OsState} {L : Addr} {m : Str → Option Value} {Q E : Value → Shared → Prop}
theorem rising_step {l : Addr} {vs : List Value} {n : Nat} {ns : List Int} (B : Below A₀ base outer h₀ := by k_asm) (F : Fr h₀ L hp m := by k_asm) (X : (hd.heap_1 w.params).In h₀ := by k_asm) (N : News h₀ L hp news := by k_asm)
    (hm : (l, listOf vs.toArray n) ∈ news := by first | k_mem | assumption) (hi : IntsAre vs ns := by assumption) (hs : ns.Pairwise (· < ·) := by assumption) (h2 : ns.length ≤ 2 := by assumption) (T : Top hd.view_1 (looseW hd.view_1 []) mean mg mb h₀ := by k_asm) (hk : cs.kind = .function := by first | exact rfl | assumption) (hdp : dp + 3 < recursionLimit := by ktr_room) (hun : un + 8 * 3 + 100 < cLine := by ktr_units)
    (ret : ∀ D vs' c h' tk', IntsAre vs' ns → (∀ p ∈ news, p.1 < D) → Fr h₀ L h' m → News h₀ L h' ((D, listOf vs'.toArray c) :: news) → Q (.ref D) ⟨h', gn, dr, tk', os⟩) :
    wpAny (model PySem.Challenge.rw_xw0262_01.row.toRowW.prog w) (ktrTop dp un gd cn cs L a₁ ccd cl outer) (call (.ref 86) [.ref l]) Q E ⟨hp, gn, dr, tk, os⟩ :=
  does_use (s := ⟨hp, gn, dr, tk, os⟩) (rising_does hm hi hs h2) B F X N T hk hdp hun (fun _ _ h' tk' hR F' N' => by
    obtain ⟨D, vs', c, e1, e2, p, q⟩ := hR; subst e1; subst e2; exact ret D vs' c h' tk' p q F' N')
end
section
local macro_rules | `(tactic| walk_at "call type:tuple") => `(tactic| (k_here; (with_reducible show wpAny _ _ (call (Value.type _) [Value.ref _]) _ _ _); k_dflt (refine' tupleL ?k1 ?k2 ?k3 ?k4 ?k5 ?_; (case k1 => k_asm); (case k2 => k_asm); (case k3 => k_mem); (case k4 => assumption); (case k5 => assumption); k_whole); intro D' h' F' N' l1; (try k_lt l1); (try k_sweep)))

local macro_rules | `(tactic| walk_at "UnrEnd") => `(tactic| (k_here; refine' Halt.go ?_))
local macro_rules | `(tactic| walk_at "call ref") => `(tactic| (k_here; (with_unfolding_all show wpAny _ _ (call (Value.ref 86) [Value.ref _]) _ _ _); k_dflt (refine' rising_step (ret := ?_); k_whole); intro D' vs' c' h' tk' hi' l1' F' N'; (try k_lt l1'); walk_at "swp"))
theorem mkconf_does {w : World} {mean mg mb} {news} {l1 l2 l3 l4 : Addr} {v1 v2 v3 v4 : List Value} {m1 m2 m3 m4 : Nat} {n1 n2 n3 n4 : List Int} {al : Bool} (hm1 : (l1, listOf v1.toArray m1) ∈ news) (hm2 : (l2, listOf v2.toArray m2) ∈ news) (hm3 : (l3, listOf v3.toArray m3) ∈ news) (hm4 : (l4, listOf v4.toArray m4) ∈ news)
    (hi1 : IntsAre v1 n1) (hi2 : IntsAre v2 n2) (hi3 : IntsAre v3 n3) (hi4 : IntsAre v4 n4) (hs1 : n1.Pairwise (· < ·)) (hs2 : n2.Pairwise (· < ·)) (hs3 : n3.Pairwise (· < ·)) (hs4 : n4.Pairwise (· < ·)) (h21 : n1.length ≤ 2) (h22 : n2.length ≤ 2) (h23 : n3.length ≤ 2) (h24 : n4.length ≤ 2) :
    Does w mean mg mb 6 215 news [.ref l1, .ref l2, .ref l3, .ref l4, .bool al] (fun v tl => ∃ a, v = .ref a ∧ ConfAt w.params tl a al n1 n2 n3 n4 ∧ Sub news tl) := by
  unfold Does
  k_fill
  intro dp un gd cn cs a ccd cl outer A₀ base h₀ L m s Q E B F X N T hk hdp hun hret
  have kM := kstMark
  k_dflt (refine' call_cls ?k1 ?k2 ?k3 ?k4 ?k5 ?k6 ?_; (case k1 => k_asm); (case k2 => k_asm); (case k3 => k_asm); (case k4 => k_is); (case k5 => k_is); (case k6 => k_is); k_whole; intro x' d' h' F' N' ll1 ll2; (have ll3 := ll1); (try k_lt ll1); (try k_lt2 ll2); (try k_sweep); ktr_enter)
  k_steps
  apply hret
  rotate_left 2
  · k_asm
  · exact ⟨_, rfl, ⟨_, _, _, _, _, _, _, _, _, _, by k_mem, by k_mem, ⟨_, _, by k_mem, by assumption⟩, ⟨_, _, by k_mem, by assumption⟩, ⟨_, _, by k_mem, by assumption⟩, ⟨_, _, by k_mem, by assumption⟩⟩, fun p hp => by (repeat (first | exact hp | apply List.Mem.tail))⟩
  · k_asm
theorem confrow_does {w : World} {mean mg mb} {news} {o d D1 D2 D3 D4 : Addr} {k1 k2 k3 k4 k5} {v1 v2 v3 v4 : List Value} {m1 m2 m3 m4 : Nat} {n1 n2 n3 n4 : List Int} {al : Bool} (ho : (o, instObj 215 d) ∈ news) (hd : (d, csD w.params k1 k2 k3 k4 k5 D1 D2 D3 D4 al) ∈ news)
    (hm1 : (D1, listOf v1.toArray m1) ∈ news) (hm2 : (D2, listOf v2.toArray m2) ∈ news) (hm3 : (D3, listOf v3.toArray m3) ∈ news) (hm4 : (D4, listOf v4.toArray m4) ∈ news)
    (hi1 : IntsAre v1 n1) (hi2 : IntsAre v2 n2) (hi3 : IntsAre v3 n3) (hi4 : IntsAre v4 n4) (h21 : n1.length ≤ 2) (h22 : n2.length ≤ 2) (h23 : n3.length ≤ 2) (h24 : n4.length ≤ 2) :
    Does w mean mg mb 3 205 news [.ref o] (fun v tl => ∃ r, v = .ref r ∧ ∃ p1 p2 p3 p4, tl = (r, tupO #[.ref p1, .ref p2, .ref p3, .ref p4, .bool al]) :: (p4, tupO v4.toArray) :: (p3, tupO v3.toArray) :: (p2, tupO v2.toArray) :: (p1, tupO v1.toArray) :: news) := by
  unfold Does
  k_fill
  intro dp un gd cn cs a ccd cl outer A₀ base h₀ L m s Q E B F X N T hk hdp hun hret
  refine wpAny_call ?_
  k_dflt ktr_enter
  have kM := kstMark
  k_steps
  apply hret
  rotate_left 2
  · k_asm
  · exact ⟨_, rfl, _, _, _, _, rfl⟩
  · k_asm
end
section
variable {w : World} {mean : ExcName → Option Value} {mg mb : Str → Option Value} {news : List (Addr × Obj)} {dp un : Nat} {gd : Option (List Code)} {cn : Str} {cs : Scope} {a₁ : Addr} {ccd : Value} {cl : List (Str × Addr)} {outer : List Env} {A₀ : Around} {base h₀ hp : Heap} {gn : Array GenState} {dr : Drawn} {tk : Nat} {os : OsState} {L : Addr} {m : Str → Option Value} {Q E : Value → Shared → Prop}
theorem mkconf_step {l1 l2 l3 l4 : Addr} {v1 v2 v3 v4 : List Value} {m1 m2 m3 m4 : Nat} {n1 n2 n3 n4 : List Int} {al : Bool} (B : Below A₀ base outer h₀ := by k_asm) (F : Fr h₀ L hp m := by k_asm) (X : (hd.heap_1 w.params).In h₀ := by k_asm) (N : News h₀ L hp news := by k_asm)
    (hm1 : (l1, listOf v1.toArray m1) ∈ news := by first | k_mem | assumption) (hm2 : (l2, listOf v2.toArray m2) ∈ news := by first | k_mem | assumption) (hm3 : (l3, listOf v3.toArray m3) ∈ news := by first | k_mem | assumption) (hm4 : (l4, listOf v4.toArray m4) ∈ news := by first | k_mem | assumption) (hi1 : IntsAre v1 n1 := by first | exact IntsAre.nil | exact IntsAre.cons _ _ .nil | exact IntsAre.cons _ _ (.cons _ _ .nil)) (hi2 : IntsAre v2 n2 := by first | exact IntsAre.nil | exact IntsAre.cons _ _ .nil | exact IntsAre.cons _ _ (.cons _ _ .nil)) (hi3 : IntsAre v3 n3 := by first | exact IntsAre.nil | exact IntsAre.cons _ _ .nil | exact IntsAre.cons _ _ (.cons _ _ .nil)) (hi4 : IntsAre v4 n4 := by first | exact IntsAre.nil | exact IntsAre.cons _ _ .nil | exact IntsAre.cons _ _ (.cons _ _ .nil)) (hs1 : n1.Pairwise (· < ·) := by decide) (hs2 : n2.Pairwise (· < ·) := by decide) (hs3 : n3.Pairwise (· < ·) := by decide) (hs4 : n4.Pairwise (· < ·) := by decide) (h21 : n1.length ≤ 2 := by exact Nat.le_of_ble_eq_true rfl) (h22 : n2.length ≤ 2 := by exact Nat.le_of_ble_eq_true rfl) (h23 : n3.length ≤ 2 := by exact Nat.le_of_ble_eq_true rfl) (h24 : n4.length ≤ 2 := by exact Nat.le_of_ble_eq_true rfl) (T : Top hd.view_1 (looseW hd.view_1 []) mean mg mb h₀ := by k_asm) (hk : cs.kind = .function := by first | exact rfl | assumption) (hdp : dp + 6 < recursionLimit := by ktr_room) (hun : un + 8 * 6 + 100 < cLine := by ktr_units)
    (ret : ∀ a tl h' tk', ConfAt w.params tl a al n1 n2 n3 n4 → Sub news tl → Fr h₀ L h' m → News h₀ L h' (tl) → Q (.ref a) ⟨h', gn, dr, tk', os⟩) :
    wpAny (model PySem.Challenge.rw_xw0262_01.row.toRowW.prog w) (ktrTop dp un gd cn cs L a₁ ccd cl outer) (call (.ref 215) [.ref l1, .ref l2, .ref l3, .ref l4, .bool al]) Q E ⟨hp, gn, dr, tk, os⟩ :=
  does_use (s := ⟨hp, gn, dr, tk, os⟩) (mkconf_does hm1 hm2 hm3 hm4 hi1 hi2 hi3 hi4 hs1 hs2 hs3 hs4 h21 h22 h23 h24) B F X N T hk hdp hun (fun _ _ h' tk' hR F' N' => by
    obtain ⟨a, e1, p, q⟩ := hR; subst e1; exact ret a _ h' tk' p q F' N')
theorem confrow_step {o d D1 D2 D3 D4 : Addr} {k1 k2 k3 k4 k5 : Tok} {v1 v2 v3 v4 : List Value} {m1 m2 m3 m4 : Nat} {n1 n2 n3 n4 : List Int} {al : Bool} (B : Below A₀ base outer h₀ := by k_asm) (F : Fr h₀ L hp m := by k_asm) (X : (hd.heap_1 w.params).In h₀ := by k_asm) (N : News h₀ L hp news := by k_asm)
    (ho : (o, instObj 215 d) ∈ news := by first | k_mem | assumption) (hdd : (d, csD w.params k1 k2 k3 k4 k5 D1 D2 D3 D4 al) ∈ news := by first | k_mem | assumption) (hm1 : (D1, listOf v1.toArray m1) ∈ news := by first | k_mem | assumption) (hm2 : (D2, listOf v2.toArray m2) ∈ news := by first | k_mem | assumption) (hm3 : (D3, listOf v3.toArray m3) ∈ news := by first | k_mem | assumption) (hm4 : (D4, listOf v4.toArray m4) ∈ news := by first | k_mem | assumption) (hi1 : IntsAre v1 n1 := by assumption) (hi2 : IntsAre v2 n2 := by assumption) (hi3 : IntsAre v3 n3 := by assumption) (hi4 : IntsAre v4 n4 := by assumption) (h21 : n1.length ≤ 2 := by first | assumption | exact Nat.le_of_ble_eq_true rfl) (h22 : n2.length ≤ 2 := by first | assumption | exact Nat.le_of_ble_eq_true rfl) (h23 : n3.length ≤ 2 := by first | assumption | exact Nat.le_of_ble_eq_true rfl) (h24 : n4.length ≤ 2 := by first | assumption | exact Nat.le_of_ble_eq_true rfl) (T : Top hd.view_1 (looseW hd.view_1 []) mean mg mb h₀ := by k_asm) (hk : cs.kind = .function := by first | exact rfl | assumption) (hdp : dp + 3 < recursionLimit := by ktr_room) (hun : un + 8 * 3 + 100 < cLine := by ktr_units)
    (ret : ∀ r p1 p2 p3 p4 h' tk', Fr h₀ L h' m → News h₀ L h' ((r, tupO #[.ref p1, .ref p2, .ref p3, .ref p4, .bool al]) :: (p4, tupO v4.toArray) :: (p3, tupO v3.toArray) :: (p2, tupO v2.toArray) :: (p1, tupO v1.toArray) :: news) → Q (.ref r) ⟨h', gn, dr, tk', os⟩) :
    wpAny (model PySem.Challenge.rw_xw0262_01.row.toRowW.prog w) (ktrTop dp un gd cn cs L a₁ ccd cl outer) (call (.ref 205) [.ref o]) Q E ⟨hp, gn, dr, tk, os⟩ :=
  does_use (s := ⟨hp, gn, dr, tk, os⟩) (confrow_does ho hdd hm1 hm2 hm3 hm4 hi1 hi2 hi3 hi4 h21 h22 h23 h24) B F X N T hk hdp hun (fun _ _ h' tk' hR F' N' => by
    obtain ⟨r, e1, p1, p2, p3, p4, e2⟩ := hR; subst e1; subst e2; exact ret r p1 p2 p3 p4 h' tk' F' N')
end
theorem fd80 {i : Int} (h : i.fdiv 8 = 0) : i.fdiv 8 = 0 := h
theorem fd81 {i : Int} (h : i.fdiv 8 = 1) : i.fdiv 8 = 1 := h
theorem fd8 {i : Int} (h0 : 0 ≤ i) (h1 : i < 16) : i.fdiv 8 = 0 ∨ i.fdiv 8 = 1 := by
  rw [Int.fdiv_eq_ediv_of_nonneg _ (by decide)]
  omega
theorem snapE {x r : Int} (h : ((x * r == 0) != (r == 0)) = true) (hx : 1 ≤ x) : False := by
  by_cases hr : r = 0
  · subst hr; simp at h
  · have h2 : x * r ≠ 0 := Int.mul_ne_zero (by omega) hr
    rw [beq_eq_false_iff_ne.mpr hr, beq_eq_false_iff_ne.mpr h2] at h
    cases h
local macro_rules | `(tactic| ktr_rel) => `(tactic| first
  | exact AlikeAll.nil | (refine' AlikeAll.cons ?x ?y; (case x => ktr_rel); (case y => ktr_rel)) | exact Alike.int | exact Alike.bool | exact Alike.bytes | exact Alike.ref | (refine' Alike.tuple ?p ?q ?a; (case p => k_mem); (case q => k_mem); (case a => first | exact alikeInts (by with_reducible assumption) (by with_reducible assumption) | ktr_rel)))
def isL (k : Int) : Bool := [0, 1, 10, 11, 12].any fun x => x == k
def isR (k : Int) : Bool := [4, 6, 9, 10, 16, 18].any fun x => x == k
def isT (k : Int) : Bool := isL k || [2, 15, 13].any fun x => x == k
theorem joinKind {M : Model} {A : Around} {E : Value → Shared → Prop} {s : Shared} {env : Env} {a b : Str} {i : Int} {Q : Value → Shared → Prop} (ha : a.length ≤ 100) (hb : b.length ≤ 100) (hi : i.natAbs < 10000000000)
    (h : Q (.str (Str.empty ++ a ++ Str.ofString (toString i) ++ b) s.toks) { s with toks := s.toks + 1 }) : wpAny M A (joinParts (Str.empty ++ a ++ Str.ofString (toString i) ++ b) (evalEach [] env)) Q E s := by
  refine joinParts_nil h ?_
  have e1 : (toString i).length ≤ 11 := int_text_length_le10 (k := 10) (by decide) (by omega)
  have e2 : (Str.ofString (toString i)).length = (toString i).length := PySem.ofString_length _
  have e0 : (Str.empty).length = 0 := rfl
  rw [sizeLine_eq]
  simp only [Str.length_append]
  omega
theorem isT1 {i : Int} (h : isL i = true) : isL i = isT i := by simp [isT, h]
theorem isT2 {i : Int} (h : isL i = false) : ([2, 15, 13].any fun x => x == i) = isT i := by simp [isT, h]
def inS (c x : Str) : Bool := !(Builtin.Str.occurrences x c 0 x.length 1).isEmpty
theorem in_strS {prog : Program} {w : World} {A : Around} {E : Value → Shared → Prop} {s : Shared} {x y : Str} {t u : Tok} {b : Bool} {Q : Value → Shared → Prop} (e : inS y x = b) (h : Q (.bool b) s) : wpAny (model prog w) A (compareOp .In (.str y u) (.str x t)) Q E s :=
  PyProof.Rows.in_str (by unfold inS at e; rw [e]; exact h)
abbrev kindT : List Str := [Str.ofString "", Str.ofString "lt", Str.ofString "lt", Str.ofString "t", Str.ofString "", Str.ofString "r", Str.ofString "", Str.ofString "r", Str.ofString "", Str.ofString "", Str.ofString "r", Str.ofString "lrt",
            Str.ofString "lt", Str.ofString "lt", Str.ofString "t", Str.ofString "", Str.ofString "t", Str.ofString "r", Str.ofString "", Str.ofString "r", Str.ofString "", Str.ofString "", Str.ofString "", Str.ofString ""]
theorem kindT_ok (i : Int) (h0 : -1 ≤ i) (h1 : i ≤ 22) : inS (Str.ofString "l") (kindT.getD (i + 1).toNat Str.empty) = isL i ∧ inS (Str.ofString "r") (kindT.getD (i + 1).toNat Str.empty) = isR i ∧ inS (Str.ofString "t") (kindT.getD (i + 1).toNat Str.empty) = isT i := by
  have h : ∀ k : Fin 24, inS (Str.ofString "l") (kindT.getD k.val Str.empty) = isL ((k.val : Int) - 1) ∧ inS (Str.ofString "r") (kindT.getD k.val Str.empty) = isR ((k.val : Int) - 1) ∧ inS (Str.ofString "t") (kindT.getD k.val Str.empty) = isT ((k.val : Int) - 1) := by decide +kernel
  have e := h ⟨(i + 1).toNat, by omega⟩
  have e2 : (((i + 1).toNat : Nat) : Int) - 1 = i := by omega
  simp only [e2] at e
  exact e
section

theorem local_does (w : World) (mean mg mb) (news) (i : Int) (t) :
    Does w mean mg mb 4 65 news [.int i t] (fun v tl => v = .bool (isL i) ∧ tl = news) := by
  unfold Does
  k_fill
  intro dp un gd cn cs a ccd cl outer A₀ base h₀ L m s Q E B F X N T hk hdp hun hret
  refine wpAny_call ?_
  k_dflt ktr_enter
  have kM := kstMark
  k_steps
  exact hret _ _ _ _ ⟨rfl, rfl⟩ (by k_asm) (newsT (by assumption))
theorem response_does (w : World) (mean mg mb) (news) (i : Int) (t) :
    Does w mean mg mb 4 72 news [.int i t] (fun v tl => v = .bool (isR i) ∧ tl = news) := by
  unfold Does
  k_fill
  intro dp un gd cn cs a ccd cl outer A₀ base h₀ L m s Q E B F X N T hk hdp hun hret
  refine wpAny_call ?_
  k_dflt ktr_enter
  have kM := kstMark
  k_steps
  exact hret _ _ _ _ ⟨rfl, rfl⟩ (by k_asm) (newsT (by assumption))
section
variable {w : World} {mean : ExcName → Option Value} {mg mb : Str → Option Value} {news : List (Addr × Obj)} {dp un : Nat} {gd : Option (List Code)} {cn : Str} {cs : Scope} {a₁ : Addr} {ccd : Value} {cl : List (Str × Addr)} {outer : List Env} {A₀ : Around} {base h₀ hp : Heap} {gn : Array GenState} {dr : Drawn} {tk : Nat} {os : OsState} {L : Addr} {m : Str → Option Value} {Q E : Value → Shared → Prop}
theorem local_step {i : Int} {t : Tok} (B : Below A₀ base outer h₀ := by k_asm) (F : Fr h₀ L hp m := by k_asm) (X : (hd.heap_1 w.params).In h₀ := by k_asm) (N : News h₀ L hp news := by k_asm)
     (T : Top hd.view_1 (looseW hd.view_1 []) mean mg mb h₀ := by k_asm) (hk : cs.kind = .function := by first | exact rfl | assumption) (hdp : dp + 4 < recursionLimit := by ktr_room) (hun : un + 8 * 4 + 100 < cLine := by ktr_units)
    (ret : ∀  h' tk', Fr h₀ L h' m → News h₀ L h' (news) → Q (.bool (isL i)) ⟨h', gn, dr, tk', os⟩) :
    wpAny (model PySem.Challenge.rw_xw0262_01.row.toRowW.prog w) (ktrTop dp un gd cn cs L a₁ ccd cl outer) (call (.ref 65) [.int i t]) Q E ⟨hp, gn, dr, tk, os⟩ :=
  does_use (s := ⟨hp, gn, dr, tk, os⟩) (local_does w mean mg mb news i t) B F X N T hk hdp hun (fun _ _ h' tk' hR F' N' => by
    obtain ⟨e1, e2⟩ := hR; subst e1; subst e2; exact ret h' tk' F' N')
theorem response_step {i : Int} {t : Tok} (B : Below A₀ base outer h₀ := by k_asm) (F : Fr h₀ L hp m := by k_asm) (X : (hd.heap_1 w.params).In h₀ := by k_asm) (N : News h₀ L hp news := by k_asm)
     (T : Top hd.view_1 (looseW hd.view_1 []) mean mg mb h₀ := by k_asm) (hk : cs.kind = .function := by first | exact rfl | assumption) (hdp : dp + 4 < recursionLimit := by ktr_room) (hun : un + 8 * 4 + 100 < cLine := by ktr_units)
    (ret : ∀  h' tk', Fr h₀ L h' m → News h₀ L h' (news) → Q (.bool (isR i)) ⟨h', gn, dr, tk', os⟩) :
    wpAny (model PySem.Challenge.rw_xw0262_01.row.toRowW.prog w) (ktrTop dp un gd cn cs L a₁ ccd cl outer) (call (.ref 72) [.int i t]) Q E ⟨hp, gn, dr, tk, os⟩ :=
  does_use (s := ⟨hp, gn, dr, tk, os⟩) (response_does w mean mg mb news i t) B F X N T hk hdp hun (fun _ _ h' tk' hR F' N' => by
    obtain ⟨e1, e2⟩ := hR; subst e1; subst e2; exact ret h' tk' F' N')
end
local macro_rules | `(tactic| walk_at "call ref") => `(tactic| (k_here; (with_unfolding_all show wpAny _ _ (call (Value.ref 65) [Value.int _ _]) _ _ _); k_dflt (refine' local_step (ret := ?_); k_whole); intro _ _ _ _; walk_at "swp"))
theorem lack_does (w : World) (mean mg mb) (news) (i : Int) (t) :
    Does w mean mg mb 6 308 news [.int i t] (fun v tl => v = .bool (isT i) ∧ tl = news) := by
  unfold Does
  k_fill
  intro dp un gd cn cs a ccd cl outer A₀ base h₀ L m s Q E B F X N T hk hdp hun hret
  refine wpAny_call ?_
  k_dflt ktr_enter
  have kM := kstMark
  k_steps
  · exact hret _ _ _ _ ⟨congrArg Value.bool (isT1 (by assumption)), rfl⟩ (by k_asm) (by first | k_asm | exact newsT (by assumption))
  · exact hret _ _ _ _ ⟨congrArg Value.bool (isT2 (by assumption)), rfl⟩ (by k_asm) (by first | k_asm | exact newsT (by assumption))
theorem kind_does (w : World) (mean mg mb) (news) (i : Int) (t) (h0 : -1 ≤ i) (h1 : i ≤ 22) :
    Does w mean mg mb 4 336 news [.int i t] (fun v tl => ∃ x t', v = .str x t' ∧ tl = news ∧ inS (Str.ofString "l") x = isL i ∧ inS (Str.ofString "r") x = isR i ∧ inS (Str.ofString "t") x = isT i) := by
  unfold Does
  k_fill
  intro dp un gd cn cs a ccd cl outer A₀ base h₀ L m s Q E B F X N T hk hdp hun hret
  refine wpAny_call ?_
  k_dflt ktr_enter
  have kM := kstMark
  k_steps
  exact hret _ news _ _ ⟨_, _, rfl, rfl, kindT_ok i h0 h1⟩ (by k_asm) (newsT (by assumption))
end
section
variable {w : World} {mean : ExcName → Option Value} {mg mb : Str → Option Value} {news : List (Addr × Obj)} {dp un : Nat} {gd : Option (List Code)} {cn : Str} {cs : Scope} {a₁ : Addr} {ccd : Value} {cl : List (Str × Addr)} {outer : List Env} {A₀ : Around} {base h₀ hp : Heap} {gn : Array GenState} {dr : Drawn} {tk : Nat} {os : OsState} {L : Addr} {m : Str → Option Value} {Q E : Value → Shared → Prop}
theorem lack_step {i : Int} {t : Tok} (B : Below A₀ base outer h₀ := by k_asm) (F : Fr h₀ L hp m := by k_asm) (X : (hd.heap_1 w.params).In h₀ := by k_asm) (N : News h₀ L hp news := by k_asm)
     (T : Top hd.view_1 (looseW hd.view_1 []) mean mg mb h₀ := by k_asm) (hk : cs.kind = .function := by first | exact rfl | assumption) (hdp : dp + 6 < recursionLimit := by ktr_room) (hun : un + 8 * 6 + 100 < cLine := by ktr_units)
    (ret : ∀  h' tk', Fr h₀ L h' m → News h₀ L h' (news) → Q (.bool (isT i)) ⟨h', gn, dr, tk', os⟩) :
    wpAny (model PySem.Challenge.rw_xw0262_01.row.toRowW.prog w) (ktrTop dp un gd cn cs L a₁ ccd cl outer) (call (.ref 308) [.int i t]) Q E ⟨hp, gn, dr, tk, os⟩ :=
  does_use (s := ⟨hp, gn, dr, tk, os⟩) (lack_does w mean mg mb news i t) B F X N T hk hdp hun (fun _ _ h' tk' hR F' N' => by
    obtain ⟨e1, e2⟩ := hR; subst e1; subst e2; exact ret h' tk' F' N')
theorem kind_step {i : Int} {t : Tok} (B : Below A₀ base outer h₀ := by k_asm) (F : Fr h₀ L hp m := by k_asm) (X : (hd.heap_1 w.params).In h₀ := by k_asm) (N : News h₀ L hp news := by k_asm)
    (h0 : -1 ≤ i := by omega) (h1 : i ≤ 22 := by omega) (T : Top hd.view_1 (looseW hd.view_1 []) mean mg mb h₀ := by k_asm) (hk : cs.kind = .function := by first | exact rfl | assumption) (hdp : dp + 4 < recursionLimit := by ktr_room) (hun : un + 8 * 4 + 100 < cLine := by ktr_units)
    (ret : ∀ x t' h' tk', inS (Str.ofString "l") x = isL i → inS (Str.ofString "r") x = isR i → inS (Str.ofString "t") x = isT i → Fr h₀ L h' m → News h₀ L h' (news) → Q (.str x t') ⟨h', gn, dr, tk', os⟩) :
    wpAny (model PySem.Challenge.rw_xw0262_01.row.toRowW.prog w) (ktrTop dp un gd cn cs L a₁ ccd cl outer) (call (.ref 336) [.int i t]) Q E ⟨hp, gn, dr, tk, os⟩ :=
  does_use (s := ⟨hp, gn, dr, tk, os⟩) (kind_does w mean mg mb news i t h0 h1) B F X N T hk hdp hun (fun _ _ h' tk' hR F' N' => by
    obtain ⟨x, t', e1, e2, p, q, q2⟩ := hR; subst e1; subst e2; exact ret x t' h' tk' p q q2 F' N')
end
theorem below_turn {A₀ : Around} {base g g' : Heap} {outer : List Env} (K : Below A₀ base outer g) (T : KtsTurn (outer.filterMap (·.frame)) g g') : Below A₀ base outer g' :=
  ⟨K.stack, fun b o e => T.other b o (K.stays b o e) (fun hm => by rw [(K.frames.mem hm).1] at e; cases e), K.frames.of_keeps fun b o e _ => by
    obtain ⟨sl, hs⟩ := T.up e
    exact ⟨_, hs, rfl⟩⟩

def DoesT (w : World) (mean : ExcName → Option Value) (mg mb : Str → Option Value) (k : Nat) (f : Addr) (news : List (Addr × Obj)) (vs : List Value) (Res : Value → List (Addr × Obj) → Prop) : Prop :=
  ∀ (dp un : Nat) (gd : Option (List Code)) (cn : Str) (cs : Scope) (a : Addr) (ccd : Value) (A₀ : Around) (base h₀ : Heap) (L : Addr) (m : Str → Option Value) (s : Shared) (Q E : Value → Shared → Prop),
    Below A₀ base [] h₀ → Fr h₀ L s.heap m → (hd.heap_1 w.params).In h₀ → News h₀ L s.heap news → Top hd.view_1 (looseW hd.view_1 []) mean mg mb h₀ → (hd.heap_1 w.params).In base → Top hd.view_1 (looseW hd.view_1 []) mean mg mb base → cs.kind = .function →
    dp + k < recursionLimit → un + 8 * k + 100 < cLine →
    (∀ v tl h' tk', Res v tl → Fr h₀ L h' m → News h₀ L h' tl → Q v { s with heap := h', toks := tk' }) →
    wpAny (model PySem.Challenge.rw_xw0262_01.row.toRowW.prog w) (ktrTop dp un gd cn cs L a ccd [] []) (call (.ref f) vs) Q E s
theorem bneSelf {b : Bool} (h : (b != b) = true) : False := by simp at h
theorem noL {k : Int} (h : 22 < k ∨ k < 0) : isL k = false := by
  simp only [isL, List.any_cons, List.any_nil, Bool.or_false, Bool.or_eq_false_iff, beq_eq_false_iff_ne, ne_eq]
  omega
theorem noR {k : Int} (h : 22 < k ∨ k < 0) : isR k = false := by
  simp only [isR, List.any_cons, List.any_nil, Bool.or_false, Bool.or_eq_false_iff, beq_eq_false_iff_ne, ne_eq]
  omega
theorem noT {k : Int} (h : 22 < k ∨ k < 0) : isT k = false := by
  simp only [isT, noL h, List.any_cons, List.any_nil, Bool.or_false, Bool.false_or, Bool.or_eq_false_iff, beq_eq_false_iff_ne, ne_eq]
  omega
local macro_rules | `(tactic| walk_at "joinParts") => `(tactic| (k_dflt (with_reducible refine joinKind ?ha ?hb ?hi ?_); (case ha => exact Nat.le_of_ble_eq_true rfl); (case hb => exact Nat.le_of_ble_eq_true rfl); (case hi => omega)))
abbrev ccD (p : Params) (a b c : Tok) (tr : Int) (tt : Tok) (l : Addr) (cx : Array UInt8) (ct : Tok) : Obj :=
  dictOf [⟨PyData.keyHash p (Str.ofString "transition"), .str (Str.ofString "transition") a, .int tr tt⟩, ⟨PyData.keyHash p (Str.ofString "changes"), .str (Str.ofString "changes") b, .ref l⟩, ⟨PyData.keyHash p (Str.ofString "context"), .str (Str.ofString "context") c, .bytes cx ct⟩] 3
def DoesC (w : World) (mean : ExcName → Option Value) (mg mb : Str → Option Value) (k : Nat) (f : Addr) (news : List (Addr × Obj)) (vs : List Value) (Res : Value → List (Addr × Obj) → Prop) : Prop :=
  ∀ (dp un : Nat) (gd : Option (List Code)) (cn : Str) (cs : Scope) (a : Addr) (ccd : Value) (outer : List Env) (A₀ : Around) (base g₀ h₀ : Heap) (L : Addr) (m : Str → Option Value) (s : Shared) (Q E : Value → Shared → Prop),
    Below A₀ base outer h₀ → Fr h₀ L s.heap m → (hd.heap_1 w.params).In h₀ → News h₀ L s.heap news → Top hd.view_1 (looseW hd.view_1 []) mean mg mb h₀ → (hd.heap_1 w.params).In base → Top hd.view_1 (looseW hd.view_1 []) mean mg mb base →
    KtsDicts (outer.filterMap (·.frame)) h₀ → KtsTurn (outer.filterMap (·.frame)) g₀ h₀ → cs.kind = .function →
    dp + k < recursionLimit → un + 8 * k + 100 < cLine →
    (∀ v tl h' tk' h₀', Res v tl → KtsTurn (outer.filterMap (·.frame)) g₀ h₀' → Fr h₀' L h' m → News h₀' L h' tl → Below A₀ base outer h₀' → (hd.heap_1 w.params).In h₀' → Top hd.view_1 (looseW hd.view_1 []) mean mg mb h₀' → KtsDicts (outer.filterMap (·.frame)) h₀' → Q v { s with heap := h', toks := tk' }) →
    wpAny (model PySem.Challenge.rw_xw0262_01.row.toRowW.prog w) (ktrTop dp un gd cn cs L a ccd [] outer) (call (.ref f) vs) Q E s
theorem truthyL {prog : Program} {w : World} {A : Around} {E : Value → Shared → Prop} {s : Shared} {h₀ : Heap} {L l : Addr} {news : List (Addr × Obj)} {vs : List Value} {n : Nat} {Q : Bool → Shared → Prop} (N : News h₀ L s.heap news) (hm : (l, listOf vs.toArray n) ∈ news) (hv : vs.length ≤ 3)
    (h : Q (!vs.isEmpty) { s with toks := s.toks + 1 + 1 }) : wpAny (model prog w) A (truthy (.ref l)) Q E s :=
  wpAny_truthy_list ⟨_, (N _ hm).1, rfl, n, rfl⟩ (by rw [List.size_toArray]; omega) (by simpa using h)
section

local macro_rules | `(tactic| walk_at "truthy ref") => `(tactic| (k_here; k_dflt (refine' truthyL ?N ?m ?v ?_; (case N => k_asm); (case m => k_mem); (case v => first | assumption | exact Nat.le_of_ble_eq_true rfl); k_whole)))
theorem leave_joint_does (w : World) (mean mg mb) (news) (c d l : Addr) (k1 k2 k3) (tr : Int) (tt) (cx ct) (vs : List Value) (n : Nat) (hv : vs.length ≤ 3) (hc : (c, instObj 297 d) ∈ news) (hd : (d, ccD w.params k1 k2 k3 tr tt l cx ct) ∈ news) (hl : (l, listOf vs.toArray n) ∈ news) :
    Does w mean mg mb 4 294 news [.ref c] (fun v tl => v = .bool (decide (tr = 0) && vs.isEmpty) ∧ tl = news) := by
  unfold Does
  k_fill
  intro dp un gd cn cs a ccd cl outer A₀ base h₀ L m s Q E B F X N T hk hdp hun hret
  refine wpAny_call ?_
  k_dflt ktr_enter
  have kM := kstMark
  k_steps
  all_goals (refine hret _ _ _ _ ⟨?_, rfl⟩ (by k_asm) (by k_asm))
  all_goals (simp_all [beqD])
end
section
variable {w : World} {mean : ExcName → Option Value} {mg mb : Str → Option Value} {news : List (Addr × Obj)} {dp un : Nat} {gd : Option (List Code)} {cn : Str} {cs : Scope} {a₁ : Addr} {ccd : Value} {cl : List (Str × Addr)} {outer : List Env} {A₀ : Around} {base h₀ hp : Heap} {gn : Array GenState} {dr : Drawn} {tk : Nat} {os : OsState} {L : Addr} {m : Str → Option Value} {Q E : Value → Shared → Prop}
theorem leave_joint_step {c d l : Addr} {k1 k2 k3 : Tok} {tr : Int} {tt : Tok} {cx : Array UInt8} {ct : Tok} {vs : List Value} {n : Nat} (B : Below A₀ base outer h₀ := by k_asm) (F : Fr h₀ L hp m := by k_asm) (X : (hd.heap_1 w.params).In h₀ := by k_asm) (N : News h₀ L hp news := by k_asm)
    (hc : (c, instObj 297 d) ∈ news := by first | k_mem | assumption) (hdd : (d, ccD w.params k1 k2 k3 tr tt l cx ct) ∈ news := by first | k_mem | assumption) (hl : (l, listOf vs.toArray n) ∈ news := by first | k_mem | assumption) (hv : vs.length ≤ 3 := by first | assumption | exact Nat.le_of_ble_eq_true rfl) (T : Top hd.view_1 (looseW hd.view_1 []) mean mg mb h₀ := by k_asm) (hk : cs.kind = .function := by first | exact rfl | assumption) (hdp : dp + 4 < recursionLimit := by ktr_room) (hun : un + 8 * 4 + 100 < cLine := by ktr_units)
    (ret : ∀  h' tk', Fr h₀ L h' m → News h₀ L h' (news) → Q (.bool (decide (tr = 0) && vs.isEmpty)) ⟨h', gn, dr, tk', os⟩) :
    wpAny (model PySem.Challenge.rw_xw0262_01.row.toRowW.prog w) (ktrTop dp un gd cn cs L a₁ ccd cl outer) (call (.ref 294) [.ref c]) Q E ⟨hp, gn, dr, tk, os⟩ :=
  does_use (s := ⟨hp, gn, dr, tk, os⟩) (leave_joint_does w mean mg mb news c d l k1 k2 k3 tr tt cx ct vs n hv hc hdd hl) B F X N T hk hdp hun (fun _ _ h' tk' hR F' N' => by
    obtain ⟨e1, e2⟩ := hR; subst e1; subst e2; exact ret h' tk' F' N')
end
theorem hideF_of {g : Heap} {fs : List Addr} {c : Addr} {o : Obj} (e : (hideAll g fs).get? c = some o) : g.get? c = some o ∧ c ∉ fs :=
  ⟨of_hideAll _ e, fun q => by rw [hideAll_none _ q] at e; cases e⟩
theorem frF_hide {g g' h : Heap} {fs : List Addr} {L : Addr} {m : Str → Option Value} (T : KtsTurn fs g g') (F : Fr g' L h m) : Fr (hideAll g fs) L h m :=
  ⟨F.ns, fun c o e => F.keep c o (T.other c o (hideF_of e).1 (hideF_of e).2), by rw [hideAll_size, ← T.size]; exact F.above⟩
def FsAt (g : Heap) (fs : List Addr) (frs : List (Addr × Obj)) : Prop := (∀ b ∈ fs, ∃ o sl, g.get? b = some o ∧ (b, ({ o with slots := sl } : Obj)) ∈ frs) ∧ ∀ p ∈ frs, p.1 ∈ fs
theorem newsF_hide {g g' h : Heap} {fs : List Addr} {L : Addr} {m : Str → Option Value} {led : List (Addr × Obj)} (hfs : ∀ b ∈ fs, ∃ o, g.get? b = some o) (T : KtsTurn fs g g') (F : Fr g' L h m) (N : News g' L h led) :
    ∃ frs, FsAt g fs frs ∧ News (hideAll g fs) L h (frs ++ led) := by
  refine ⟨fs.filterMap fun b => (g'.get? b).map fun o => (b, o), ⟨fun b hb => ?_, fun p hp => ?_⟩, fun p hp => ?_⟩
  · obtain ⟨o, ho⟩ := hfs b hb
    obtain ⟨sl, hs⟩ := T.frame b o ho hb
    exact ⟨o, sl, ho, List.mem_filterMap.mpr ⟨b, hb, by rw [hs]; rfl⟩⟩
  · obtain ⟨b, hb, e⟩ := List.mem_filterMap.mp hp
    cases q : g'.get? b with
    | none => rw [q] at e; cases e
    | some o => rw [q] at e; cases e; exact hb
  · rcases List.mem_append.mp hp with hp | hp
    · obtain ⟨b, hb, e⟩ := List.mem_filterMap.mp hp
      cases q : g'.get? b with
      | none => rw [q] at e; cases e
      | some o =>
        rw [q] at e; cases e
        refine ⟨F.keep _ _ q, fun z => ?_, hideAll_none _ hb⟩
        have := kts_self F
        rw [← z] at this
        rw [this] at q
        cases q
    · refine ⟨(N p hp).1, (N p hp).2.1, ?_⟩
      cases q : (hideAll g fs).get? p.1 with
      | none => rfl
      | some o =>
        obtain ⟨sl', hs'⟩ := T.up (hideF_of q).1
        rw [(N p hp).2.2] at hs'
        cases hs'
theorem turnF_of {g h : Heap} {fs : List Addr} {L : Addr} {m : Str → Option Value} {frs led : List (Addr × Obj)} (hfs : ∀ b ∈ fs, ∃ o, g.get? b = some o) (F : Fr (hideAll g fs) L h m) (A : FsAt g fs frs) (N : News (hideAll g fs) L h (frs ++ led)) (hne : ∀ p ∈ led, p.1 ∉ fs) :
    ∃ g', KtsTurn fs g g' ∧ Fr g' L h m ∧ News g' L h led := by
  obtain ⟨T, S⟩ := kts_turn_at (h := h) (fs := fs) (g := g) hfs
    (fun c o e nm => F.keep c o (hideAll_get _ e nm)) (fun c o e hc => by
      obtain ⟨o', sl, e', hm⟩ := A.1 c hc
      rw [e] at e'
      cases e'
      exact ⟨sl, (N _ (List.mem_append.mpr (.inl hm))).1⟩)
  refine ⟨_, T, ⟨F.ns, S, by rw [T.size, ← hideAll_size fs g]; exact F.above⟩, fun p hp => ⟨(N p (List.mem_append.mpr (.inr hp))).1, (N p (List.mem_append.mpr (.inr hp))).2.1, T.none_ _ ?_⟩⟩
  have z := (N p (List.mem_append.mpr (.inr hp))).2.2
  cases q : g.get? p.1 with
  | none => rfl
  | some o =>
    rw [hideAll_get _ q (hne p hp)] at z
    cases z

section
variable {prog : Program} {w : World} {A : Around} {E : Value → Shared → Prop} {s : Shared} {env : Env} {x : Str} {body : List Stmt} {Q : Flow → Shared → Prop}
def TurnEndF (g : Heap) (fs : List Addr) (L : Addr) (led : List (Addr × Obj)) (x : Str) (stored : List Str) (m₀ : Str → Option Value) (s₁ s₂ : Shared) : Prop :=
  ∃ h' tk m' g', s₂ = { s₁ with heap := h', toks := tk } ∧ KtsTurn fs g g' ∧ Fr g' L h' m' ∧ News g' L h' led ∧ ∀ z, z ≠ x → stored.contains z = false → m' z = m₀ z
def TurnPostF (g : Heap) (fs : List Addr) (L : Addr) (led : List (Addr × Obj)) (x : Str) (stored : List Str) (m₀ : Str → Option Value) (s₁ : Shared) (Q : Flow → Shared → Prop) (f : Flow) (s₂ : Shared) : Prop :=
  match f with
  | .ret v => Q (.ret v) s₂
  | .brk => Q .next s₂
  | _ => TurnEndF g fs L led x stored m₀ s₁ s₂
theorem TurnEndF.intro {g g' : Heap} {fs : List Addr} {L : Addr} {led : List (Addr × Obj)} {stored : List Str} {m₀ m' : Str → Option Value} {s₁ : Shared} {h' : Heap} {tk : Nat} (T : KtsTurn fs g g') (F : Fr g' L h' m') (N : News g' L h' led) (hm : ∀ z, z ≠ x → stored.contains z = false → m' z = m₀ z) :
    TurnEndF g fs L led x stored m₀ s₁ { s₁ with heap := h', toks := tk } := ⟨h', tk, m', g', rfl, T, F, N, hm⟩

theorem loop_slotF {I : Addr} {fp wr : List Addr} {n : Nat} {P : Nat → Value → Prop} {St : Nat → Heap → Prop} {m₀ : Str → Option Value} {news : List (Addr × Obj)} {g g₁ : Heap} {fs : List Addr} {L : Addr} (stored : List Str) (hL : env.locals = L)
    (W : Walks prog w A I fp wr n P St) (hLf : L ∉ fp) (hwr : ∀ c ∈ wr, (hideAll g fs).get? c = none) (hnw : ∀ p ∈ news, p.1 ∉ wr) (hbf : ∀ b ∈ fs, b ∉ fp) (hst : St 0 s.heap) (hfs : ∀ b ∈ fs, ∃ o, g.get? b = some o) (T0 : KtsTurn fs g g₁) (F : Fr g₁ L s.heap m₀) (N : News g₁ L s.heap news)
    (turn : ∀ i v (u : Str → Option Value) h tk led g', i < n → P i v → (∀ p ∈ news, p ∈ led) → KtsTurn fs g g' → Fr g' L h (fun y => if y = x then some v else if stored.contains y = true then u y else m₀ y) → News g' L h led →
      wpAny (model prog w) A (execs body env) (TurnPostF g fs L led x stored m₀ { s with heap := h, toks := tk } Q) E { s with heap := h, toks := tk })
    (done : ∀ (u : Str → Option Value) h tk g', KtsTurn fs g g' → Fr g' L h (fun y => if y = x then u y else if stored.contains y = true then u y else m₀ y) → News g' L h news → Q .next { s with heap := h, toks := tk }) :
    LoopAtV prog w A (hideAll g fs) env x body Q E (.ref I) s := by
  subst hL
  have hnb : ∀ p ∈ news, p.1 ∉ fs := fun p hp q => by
    obtain ⟨o, ho⟩ := hfs _ q
    obtain ⟨sl, hs⟩ := T0.up ho
    have := (N p hp).2.2
    rw [hs] at this
    cases this
  obtain ⟨frs₀, A₀, N₀⟩ := newsF_hide hfs T0 F N
  refine ⟨I, fp, wr, n, P, St, m₀, _, (fun _ m nx => ∃ frs, FsAt g fs frs ∧ nx = frs ++ news ∧ ∀ z, z ≠ x → stored.contains z = false → m z = m₀ z), rfl, W, hLf, hwr, ?_, hst, frF_hide T0 F, N₀, ⟨frs₀, A₀, rfl, fun _ _ _ => rfl⟩, ?_, ?_⟩
  · intro p hp
    rcases List.mem_append.mp hp with hp | hp
    · exact fun q => hbf _ (A₀.2 p hp) (W.sub _ q)
    · exact hnw p hp
  · rintro i v m₁ news₁ s₁ own ⟨hh', tk', rfl⟩ hin hP ⟨frs, A₁, rfl, hm⟩ hoff hown _ _ _ F₁ N₁
    have N₂ : News (hideAll g fs) env.locals hh' (frs ++ (own ++ news)) := fun p hp => N₁ p (by
      rcases List.mem_append.mp hp with hp | hp
      · exact List.mem_append.mpr (.inr (List.mem_append.mpr (.inl hp)))
      · rcases List.mem_append.mp hp with hp | hp
        · exact List.mem_append.mpr (.inl hp)
        · exact List.mem_append.mpr (.inr (List.mem_append.mpr (.inr hp))))
    obtain ⟨g', T', F', N'⟩ := turnF_of hfs F₁ A₁ N₂ (fun p hp => by
      rcases List.mem_append.mp hp with hp | hp
      · exact fun q => hbf _ q (hown p hp)
      · exact hnb p hp)
    refine wpAny_mono (turn i v m₁ hh' tk' (own ++ news) g' hin hP (fun p hp => List.mem_append.mpr (.inr hp)) T' (frIn hm F') N') (fun f s₂ p => ?_) fun _ _ e => e
    have fin : TurnEndF g fs env.locals (own ++ news) x stored m₀ { s with heap := hh', toks := tk' } s₂ →
        LoopStepU (hideAll g fs) env.locals wr own (fun m nx => ∃ frs, FsAt g fs frs ∧ nx = frs ++ news ∧ ∀ z, z ≠ x → stored.contains z = false → m z = m₀ z) { s with heap := hh', toks := tk' } .next s₂ := by
      rintro ⟨h', tk, m', g'', e, T'', F'', N'', hm'⟩
      obtain ⟨frs', A', N₃⟩ := newsF_hide hfs T'' F'' N''
      refine ⟨rfl, h', tk, m', frs' ++ news, e, frF_hide T'' F'', fun p hp => N₃ p ?_, fun p hp => ?_, frs', A', rfl, hm'⟩
      · rcases List.mem_append.mp hp with hp | hp
        · exact List.mem_append.mpr (.inr (List.mem_append.mpr (.inl hp)))
        · rcases List.mem_append.mp hp with hp | hp
          · exact List.mem_append.mpr (.inl hp)
          · exact List.mem_append.mpr (.inr (List.mem_append.mpr (.inr hp)))
      · rcases List.mem_append.mp hp with hp | hp
        · exact fun q => hbf _ (A'.2 p hp) (W.sub _ q)
        · exact hnw p hp
    cases f with
    | ret v => exact .ret p
    | brk => exact .brk p
    | next => exact .next (fin p)
    | cont => exact .cont (fin p)
  · rintro h' tk m' news' F' N' _ ⟨frs, A₁, rfl, hm⟩
    obtain ⟨g', T', F₂, N₂⟩ := turnF_of hfs F' A₁ N' hnb
    exact done m' h' tk g' T' (frOut hm F₂) N₂

theorem range_slotF {r : Addr} {a₀ b₀ : Int} {t₀ u₀ v₀ : Tok} {n : Nat} {m₀ : Str → Option Value} {news : List (Addr × Obj)} {g g₁ : Heap} {fs : List Addr} {L : Addr} (stored : List Str)
    (hL : env.locals = L) (hh : A.handled = none) (hr : IsRange s.heap r a₀ b₀ 1 t₀ u₀ v₀) (hsmall : Builtin.Range.small a₀ b₀ 1 = true) (hn : Builtin.Range.rangeSize a₀ b₀ 1 = (n : Int)) (hfs : ∀ b ∈ fs, ∃ o, g.get? b = some o) (T0 : KtsTurn fs g g₁) (F : Fr g₁ L s.heap m₀) (N : News g₁ L s.heap news)
    (turn : ∀ (k : Int) t (u : Str → Option Value) h tk led g', a₀ ≤ k → k < a₀ + (n : Int) → (∀ p ∈ news, p ∈ led) → KtsTurn fs g g' → Fr g' L h (fun y => if y = x then some (.int k t) else if stored.contains y = true then u y else m₀ y) → News g' L h led →
      wpAny (model prog w) A (execs body env) (TurnPostF g fs L led x stored m₀ { s with heap := h, toks := tk } Q) E { s with heap := h, toks := tk })
    (done : ∀ (u : Str → Option Value) h tk g', KtsTurn fs g g' → Fr g' L h (fun y => if y = x then u y else if stored.contains y = true then u y else m₀ y) → News g' L h news → Q .next { s with heap := h, toks := tk }) :
    wpAny (model prog w) A (pyIter (.ref r)) (fun it s₂ => LoopAtV prog w A (hideAll g fs) env x body Q E it s₂) E s := by
  refine wpAny_pyIter_range hr hsmall ?_
  have W : Walks prog w A s.heap.objs.size [s.heap.objs.size] [s.heap.objs.size] n (fun i v => i < n ∧ ∃ t, v = .int (a₀ + i * 1) t)
      (fun i h => IsRangeIter h s.heap.objs.size (a₀ + (i : Nat) * 1) ((n : Int) - (i : Nat)) 1) := (Walks.range hh _ a₀ 1 n).bound
  have hbl : ∀ b ∈ fs, b < s.heap.objs.size := fun b hb => by
    obtain ⟨o, ho⟩ := hfs b hb
    obtain ⟨slb, hsb⟩ := T0.up ho
    exact Heap.lt_size (F.keep _ _ hsb)
  refine loop_slotF stored hL W ?_ ?_ ?_ ?_ (by show IsRangeIter _ _ _ _ _; rw [hn]; simpa using Heap.get?_push_size _ rfl) hfs T0 (F.push _) (fun p hp => ⟨Heap.get?_push_of_some _ (N p hp).1, (N p hp).2⟩) ?_ ?_
  · intro hm
    exact absurd F.ns.lt ((List.mem_singleton.mp hm) ▸ Nat.lt_irrefl _)
  · intro c hc
    rw [List.mem_singleton.mp hc]
    exact next_is_new (frF_hide T0 F)
  · intro p hp hI
    exact absurd (Heap.lt_size (N p hp).1) ((List.mem_singleton.mp hI) ▸ Nat.lt_irrefl _)
  · intro b hb hm
    exact absurd (hbl b hb) ((List.mem_singleton.mp hm) ▸ Nat.lt_irrefl _)
  · rintro i v u h tk led g' hi ⟨_, t, rfl⟩ hs T' F₁ N₁
    have e1 : a₀ + (i : Int) * 1 = a₀ + (i : Int) := by omega
    rw [e1] at F₁
    exact turn _ t u h tk led g' (by omega) (by omega) hs T' F₁ N₁
  · rintro u h tk g' T' F₁ N₁
    exact done u h tk g' T' F₁ N₁

theorem list_slotF {l : Addr} {vs : List Value} {nn : Nat} {m₀ : Str → Option Value} {news : List (Addr × Obj)} {g g₁ : Heap} {fs : List Addr} {L : Addr} (stored : List Str)
    (hL : env.locals = L) (hh : A.handled = none) (hl : (l, listOf vs.toArray nn) ∈ news) (hfs : ∀ b ∈ fs, ∃ o, g.get? b = some o) (T0 : KtsTurn fs g g₁) (F : Fr g₁ L s.heap m₀) (N : News g₁ L s.heap news)
    (turn : ∀ (i : Nat) v (u : Str → Option Value) h tk led g', vs[i]? = some v → (∀ p ∈ news, p ∈ led) → KtsTurn fs g g' → Fr g' L h (fun y => if y = x then some v else if stored.contains y = true then u y else m₀ y) → News g' L h led →
      wpAny (model prog w) A (execs body env) (TurnPostF g fs L led x stored m₀ { s with heap := h, toks := tk } Q) E { s with heap := h, toks := tk })
    (done : ∀ (u : Str → Option Value) h tk g', KtsTurn fs g g' → Fr g' L h (fun y => if y = x then u y else if stored.contains y = true then u y else m₀ y) → News g' L h news → Q .next { s with heap := h, toks := tk }) :
    wpAny (model prog w) A (pyIter (.ref l)) (fun it s₂ => LoopAtV prog w A (hideAll g fs) env x body Q E it s₂) E s := by
  have hol : s.heap.get? l = some (listOf vs.toArray nn) := (N _ hl).1
  have hls : s.heap.IsList l vs.toArray := ⟨_, hol, rfl, nn, rfl⟩
  have hne : l ≠ s.heap.objs.size := Nat.ne_of_lt (Heap.lt_size hol)
  have hbl : ∀ b ∈ fs, b < s.heap.objs.size := fun b hb => by
    obtain ⟨o, ho⟩ := hfs b hb
    obtain ⟨slb, hsb⟩ := T0.up ho
    exact Heap.lt_size (F.keep _ _ hsb)
  refine wpAny_pyIter_list hls ?_
  have W := Walks.list (prog := prog) (w := w) hh s.heap.objs.size l hne vs.toArray
  refine loop_slotF stored hL W ?_ ?_ ?_ ?_ ⟨⟨_, Heap.get?_push_size _ rfl, rfl, rfl⟩, hls.at fun o e => Heap.get?_push_of_some _ e⟩ hfs T0 (F.push _) (fun p hp => ⟨Heap.get?_push_of_some _ (N p hp).1, (N p hp).2⟩) ?_ ?_
  · intro hm
    rcases List.mem_cons.mp hm with e | hm
    · exact absurd F.ns.lt (e ▸ Nat.lt_irrefl _)
    · exact (N _ hl).2.1 ((List.mem_singleton.mp hm).symm)
  · intro c hc
    rw [List.mem_singleton.mp hc]
    exact next_is_new (frF_hide T0 F)
  · intro p hp hI
    exact absurd (Heap.lt_size (N p hp).1) ((List.mem_singleton.mp hI) ▸ Nat.lt_irrefl _)
  · intro b hb hm
    rcases List.mem_cons.mp hm with e | hm
    · exact absurd (hbl b hb) (e ▸ Nat.lt_irrefl _)
    · have e := List.mem_singleton.mp hm
      have z := (N _ hl).2.2
      obtain ⟨o, ho⟩ := hfs b hb
      obtain ⟨slb, hsb⟩ := T0.up ho
      rw [← e, hsb] at z
      cases z
  · rintro i v u h tk led g' hi hP hs T' F₁ N₁
    exact turn i v u h tk led g' (by simpa using hP) hs T' F₁ N₁
  · rintro u h tk g' T' F₁ N₁
    exact done u h tk g' T' F₁ N₁
end
theorem anyF {t : Int} (h : ([0, 1, 2].any fun x => x == t) = true) (h0 : t ≠ 0) (h1 : t ≠ 1) (h2 : t ≠ 2) : False := by
  simp only [List.any_cons, List.any_nil, Bool.or_false, Bool.or_eq_true, beq_iff_eq] at h
  omega
local macro_rules | `(tactic| walk_at "truthy ref") => `(tactic| (k_here; k_dflt (refine' truthyL ?N ?m ?v ?_; (case N => k_asm); (case m => k_mem); (case v => first | assumption | exact Nat.le_of_ble_eq_true rfl); k_whole)))
local macro_rules | `(tactic| walk_at "TurnPostF") => `(tactic| (dsimp only [TurnPostF]))
local macro_rules | `(tactic| walk_at "TurnEndF") => `(tactic| (refine' TurnEndF.intro ?T ?F ?N ?M; (case F => k_asm); (case T => first | assumption | exact KtsTurn.refl | exact KtsTurn.trans (by assumption) (by assumption)); (case N => walk_at "my news"); (case M => walk_at "my turn")))
section
local macro_rules | `(tactic| walk_at "call ref") => `(tactic| (k_here; (with_unfolding_all show wpAny _ _ (call (Value.ref 322) [Value.int _ _]) _ _ _); k_dflt (refine' wide_step (ret := ?_); k_whole); intro _ _ _ _ _ _ _ _; walk_at "swp"))
local macro_rules | `(tactic| walk_at "call ref") => `(tactic| (k_here; (with_unfolding_all show wpAny _ _ (call (Value.ref 329) [Value.int _ _, Value.int _ _]) _ _ _); k_dflt (refine' other_step (ret := ?_); k_whole); intro _ _ _ _ _ _ _ _ _; walk_at "swp"))
local macro_rules | `(tactic| walk_at "call ref") => `(tactic| (k_here; (with_unfolding_all show wpAny _ _ (call (Value.ref 180) [Value.int _ _, Value.int _ _, Value.int _ _]) _ _ _); k_dflt (refine' mk_step (ret := ?_); k_whole); intro a' d' k1' k2' k3' h' tk' l1' l2' F' N'; (have l3' := l1'); (try k_lt l1'); (try k_lt2 l2'); walk_at "swp"))
local macro_rules | `(tactic| walk_at "call ref") => `(tactic| (k_here; (with_unfolding_all show wpAny _ _ (call (Value.ref 156) [Value.ref _]) _ _ _); k_dflt (refine' row_step (ret := ?_); k_whole); intro r' h' tk' l1' F' N'; (try k_lt l1'); walk_at "swp"))
local macro_rules | `(tactic| walk_at "call ref") => `(tactic| (k_here; (with_unfolding_all show wpAny _ _ (call (Value.ref 163) [Value.ref _]) _ _ _); k_dflt (refine' empty_step (ret := ?_); k_whole); intro _ _ _ _; walk_at "swp"))
local macro_rules | `(tactic| walk_at "call ref") => `(tactic| (k_here; (with_unfolding_all show wpAny _ _ (call (Value.ref 170) [Value.ref _, Value.ref _]) _ _ _); k_dflt (refine' same_step (ret := ?_); k_whole); intro _ _ _ _; walk_at "swp"))
local macro_rules | `(tactic| walk_at "call ref") => `(tactic| (k_here; (with_unfolding_all show wpAny _ _ (call (Value.ref 177) [Value.ref _]) _ _ _); k_dflt (refine' copy_step (ret := ?_); k_whole); intro a' d' k1' k2' k3' h' tk' l1' l2' F' N'; (have l3' := l1'); (try k_lt l1'); (try k_lt2 l2'); walk_at "swp"))
local macro_rules | `(tactic| walk_at "pyIter ref") => `(tactic| (k_here; (with_reducible show wpAny _ _ (pyIter (Value.ref _)) (fun it s₂ => TurnsAt _ _ _ _ _ _ _ _ _ it s₂) _ _); refine' Halt.go ?_))
local macro_rules | `(tactic| walk_at "CompSrc") => `(tactic| (k_here; refine' Halt.go ?_))
local macro_rules | `(tactic| walk_at "storeName") => `(tactic| (with_reducible refine store_mod3 ?_ ?_ ?_ <;> intro hm3))

local macro_rules | `(tactic| walk_at "execs cons") => `(tactic| (k_here; (with_reducible refine gtk ?_); intro tk))
local macro_rules | `(tactic| walk_at "execs nil") => `(tactic| (k_here; (with_reducible refine gtk ?_); intro tk))

theorem hard_does (w : World) (mean mg mb) (l : Addr) (xs : List Int) (vs : List Value) (n : Nat) (hi : IntsAre vs xs) (hne : 0 < xs.length) (hlen : xs.length ≤ 11)
    (hb : ∀ x ∈ xs, 0 ≤ x ∧ x < 999983) :
    Does w mean mg mb 10 341 [(l, listOf vs.toArray n)] [.ref l] (fun v tl => v = .bool true ∧ tl = [(l, listOf vs.toArray n)]) := by
  unfold Does
  k_fill
  intro dp un gd cn cs a ccd cl outer A₀ base h₀ L m s Q E B F X N T hk hdp hun hret
  refine wpAny_call ?_
  k_dflt ktr_enter
  have kM := kstMark
  k_steps
  rename News _ _ _ _ => N1
  obtain ⟨led, vsR, N2, hnl, hRl, ts, hRA, h9⟩ : ∃ led vsR, News _ _ _ led ∧ (l, listOf vs.toArray n) ∈ led ∧ (_, listOf vsR.toArray 0) ∈ led ∧ ∃ ts, RowsAt led vsR ts ∧ ts.length = 9 := by
    refine ⟨_, _, N1, by k_mem, .head _, ?_⟩
    (repeat' (first | exact RowsEx.nil | (refine' RowsEx.cons ?m ?a ?b ?c ?_; (case m => k_mem); (case a => exact ⟨by omega, by omega⟩); (case b => exact ⟨by omega, by omega⟩); (case c => exact ⟨by omega, by omega⟩))))
  clear N1
  refine Halt.go' ?_
  k_dflt (refine LCg.CompSrc.ledger (by rfl) (by k_asm) N2 hRl (by show vsR.toArray.size ≤ sizeLine; rw [List.size_toArray, hRA.1, h9]; exact Nat.le_of_ble_eq_true rfl) ?_)
  intro g5
  refine comp_ind (fun i ys nw => (∀ p ∈ led, p ∈ nw) ∧ StatesAt w.params nw ys (ts.take i)) ⟨fun _ h => h, StatesAt.nil⟩ ?_ ?_
  · rintro i ys nw hin ⟨hsub, hSt⟩ v I oI C oC D m₂ h tk E' hv hC hx F5 N5 off ne
    refine hRA.useAt (by simpa using hv : _ = some v) (fun r x y z t1 t2 t3 hu hvr hr bx by_ bz => ?_)
    subst hvr
    replace hr := hsub _ hr
    k_steps
    refine comp_end_mk (by k_asm) (by k_asm) (by assumption) (by assumption) off (Or.inr ⟨_, .tail _ (.tail _ (hsub _ hRl)), rfl, _, rfl⟩) ⟨fun p hp => .tail _ (.tail _ (hsub p hp)), StatesAt.snoc (hSt.mono fun p hp => .tail _ (.tail _ hp)) hu (.head _) (.tail _ (.head _))⟩
  rintro ys nw ⟨hsub, hSt⟩
  rw [show vsR.toArray.size = ts.length by rw [List.size_toArray, hRA.1], List.take_length] at hSt
  unfold LCg.FinA
  intro Sl h6 tk6 F6 N6 _
  refine (fun (key : ∀ led2, News _ _ _ led2 → (l, listOf vs.toArray n) ∈ led2 → (_, listOf vsR.toArray 0) ∈ led2 → (Sl, listOf ys.toArray ys.length) ∈ led2 → RowsAt led2 vsR ts → StatesAt w.params led2 ys ts → _) =>
    key _ N6 (.tail _ (hsub _ hnl)) (.tail _ (hsub _ hRl)) (.head _) (hRA.mono fun p hp => .tail _ (hsub p hp)) (hSt.mono fun p hp => .tail _ hp)) ?_
  intro led2 N7 hnl2 hRl2 hSl2 hRA2 hSt2
  clear N6 N2 hnl hRl hRA hSt hsub
  k_steps
  refine Halt.go' ?_
  rename IsRange _ _ _ _ _ _ _ _ => rg
  rename Fr _ _ _ _ => F8
  rename News _ _ _ _ => N8
  with_unfolding_all refine range_fix (n := 9) [Str.ofString "j", Str.ofString "alike", Str.ofString "twin", Str.ofString "left", Str.ofString "turned"] ?hL (by rfl) rg (by decide) (by rfl) F8 N8 ?_ ?_
  case hL => rfl
  · clear rg F8 N8
    intro ki kt u h7 tk7 led3 hk0 hk9 hsub F9 N9
    have hl3 := hsub _ hnl2
    have hR3 := hsub _ hRl2
    have hS3 := hsub _ hSl2
    have hRA3 := hRA2.mono hsub
    have hSt3 := hSt2.mono hsub
    clear hnl2 hRl2 hSl2 hRA2 hSt2 hsub
    refine hRA3.use (k := ki.toNat) (by omega) (fun r x y z t1 t2 t3 hu hvr hr bx0 bx1 by0 by1 bz0 bz1 => ?_)
    refine hSt3.use hu (fun sa sd k1 k2 k3 t4 t5 t6 hvs hsa hsd => ?_)
    k_steps
    refine Halt.go' ?_
    rename IsRange _ _ _ _ _ _ _ _ => rg
    rename Fr _ _ _ _ => F8
    rename News _ _ _ _ => N8
    with_unfolding_all refine range_fix (n := 9) [Str.ofString "alike"] ?hL (by rfl) rg (by decide) (by rfl) F8 N8 ?_ ?_
    case hL => rfl
    · clear rg F8 N8
      intro kj kt2 u2 h8 tk8 led4 hj0 hj9 hsub F10 N10
      replace hr := hsub _ hr
      replace hsa := hsub _ hsa
      replace hsd := hsub _ hsd
      have hl4 := hsub _ hl3
      have hR4 := hsub _ hR3
      have hS4 := hsub _ hS3
      have hRA4 := hRA3.mono hsub
      have hSt4 := hSt3.mono hsub
      clear hl3 hR3 hS3 hRA3 hSt3 hsub
      refine hRA4.use (k := kj.toNat) (by omega) (fun r2 x2 y2 z2 t12 t22 t32 hu2 hvr2 hr2 _ _ _ _ _ _ => ?_)
      refine hSt4.use hu2 (fun sa2 sd2 k12 k22 k32 t42 t52 t62 hvs2 hsa2 hsd2 => ?_)
      k_steps
      all_goals exact (by first | exact alike1 (by assumption) (by assumption) (by assumption) | exact alike2 (by assumption) (by assumption) | exact alike3 (by assumption) (by assumption) : False).elim
    · clear rg F8 N8
      intro u2 h8 tk8 F10 N10
      k_steps
      · exact (by first | exact emp1 (by assumption) : False).elim
      all_goals first | exact (sameF (by assumption)).elim | (exfalso; omega)
  · clear rg F8 N8
    intro u h7 tk7 F9 N9
    k_steps
    refine Halt.go' ?_
    rename IsRange _ _ _ _ _ _ _ _ => rg
    rename Fr _ _ _ _ => F8
    rename News _ _ _ _ => N8
    with_unfolding_all refine range_fix (n := 8) [Str.ofString "t", Str.ofString "v", Str.ofString "k", Str.ofString "row"] ?hL (by rfl) rg (by decide) (by rfl) F8 N8 ?_ ?_
    case hL => rfl
    · clear rg F8 N8
      intro ki kt u2 h8 tk8 led3 hk0 hk9 hsub F10 N10
      have hl3 := hsub _ hnl2
      have hR3 := hsub _ hRl2
      have hS3 := hsub _ hSl2
      have hRA3 := hRA2.mono hsub
      have hSt3 := hSt2.mono hsub
      clear hnl2 hRl2 hSl2 hRA2 hSt2 hsub
      k_steps
      refine Halt.go' ?_
      rename Fr _ _ _ _ => F8
      rename News _ _ _ _ => N8
      with_unfolding_all refine turns_fix (Str.ofString "t") [Str.ofString "v", Str.ofString "k", Str.ofString "row"] ?hL (by rfl) (List.Mem.head _) F8 N8 ?_ ?_
      case hL => rfl
      · intro i5 v5 u5 h9 tk9 led5 hi5 hsub F11 N11
        have hT : ∃ r x t1 y t2 z t3, v5 = .ref r ∧ (r, hsRow x t1 y t2 z t3) ∈ led5 := by
          rcases i5 with _ | _ | _ | i5
          · cases hi5; exact ⟨_, _, _, _, _, _, _, rfl, hsub _ (by k_mem)⟩
          · cases hi5; exact ⟨_, _, _, _, _, _, _, rfl, hsub _ (by k_mem)⟩
          · cases hi5; exact ⟨_, _, _, _, _, _, _, rfl, hsub _ (by k_mem)⟩
          · cases hi5
        obtain ⟨r, x, t1, y, t2, z, t3, e5, hr⟩ := hT
        subst e5
        clear F8 N8 hsub hi5
        k_steps
        all_goals exact (by first | exact alike1 (by assumption) (by assumption) (by assumption) | exact alike2 (by assumption) (by assumption) | exact alike3 (by assumption) (by assumption) : False).elim
      · clear F8 N8
        intro u5 h9 tk9 F11 N11
        k_steps
    · clear rg F8 N8
      intro u2 h8 tk8 F10 N10
      k_steps
      refine Halt.go' ?_
      rename News _ _ _ _ => N11
      k_dflt (refine LCg.CompSrc.ledger (by rfl) (by k_asm) N11 hSl2 (by show ys.toArray.size ≤ sizeLine; rw [List.size_toArray, hSt2.1, h9]; exact Nat.le_of_ble_eq_true rfl) ?_)
      intro g6
      refine comp_ind (fun i zs nw => (∀ p ∈ led2, p ∈ nw) ∧ DatAll nw zs ((ts.take i).map triD)) ⟨fun _ h => h, DatAll.nil⟩ ?_ ?_
      · rintro i zs nw hin ⟨hsub, hZ⟩ v I oI C oC D m₂ h tk E' hv hC hx F5 N5 off ne
        rw [List.size_toArray, hSt2.1] at hin
        obtain ⟨⟨x, y, z⟩, hu⟩ : ∃ u, ts[i]? = some u := ⟨_, List.getElem?_eq_getElem hin⟩
        refine hSt2.use hu (fun sa sd k1 k2 k3 t4 t5 t6 hvs hsa hsd => ?_)
        have hv' : ys[i]? = some v := by simpa using hv
        rw [hvs] at hv'
        cases hv'
        replace hsa := hsub _ hsa
        replace hsd := hsub _ hsd
        k_steps
        refine comp_end_1 (by k_asm) (by k_asm) (by assumption) off (Or.inr ⟨_, .tail _ (hsub _ hSl2), rfl, _, rfl⟩) ⟨fun p hp => .tail _ (hsub p hp), ?_⟩
        rw [show ts.take (i + 1) = ts.take i ++ [(x, y, z)] by simp [List.take_add_one, hu], List.map_append]
        exact DatAll_snoc (DatAll.mono (fun p hp => .tail _ hp) hZ) (datRow (.head _))
      · rintro zs nw ⟨hsub, hZ⟩
        rw [show ys.toArray.size = ts.length by rw [List.size_toArray, hSt2.1], List.take_length] at hZ
        unfold LCg.FinE
        intro Zl h6 tk6 F6 N6 _
        refine (fun (key : ∀ led6, News _ _ _ led6 → (l, listOf vs.toArray n) ∈ led6 → (_, listOf vsR.toArray 0) ∈ led6 → (Zl, listOf zs.toArray zs.length) ∈ led6 → DatAll led6 zs (ts.map triD) → DatAll led6 vsR (ts.map triD) → _) =>
          key _ N6 (.tail _ (hsub _ hnl2)) (.tail _ (hsub _ hRl2)) (.head _) (DatAll.mono (fun p hp => .tail _ hp) hZ) (hRA2.mono fun p hp => .tail _ (hsub p hp)).dat) ?_
        intro led6 N7 hl6 hR6 hZ6 hA6 hB6
        clear N6
        k_steps
        refine hret _ [(l, listOf vs.toArray n)] _ _ ⟨rfl, rfl⟩ (by k_asm) ?_
        rename News _ _ _ _ => nE
        intro p hp
        rw [List.mem_singleton.mp hp]
        exact nE _ (by k_mem)
end
theorem snapPick {G : Prop} {P : Params} {led : List (Addr × Obj)} {a0 a1 r0 r1 : Addr} {i : Int} (hr0 : RowT led r0 false [] [] [] []) (hr1 : RowT led r1 true [1, 3] [2] [1, 4] [5]) (hc0 : ConfAt P led a0 false [] [] [] []) (hc1 : ConfAt P led a1 true [1, 3] [2] [1, 4] [5]) (h0 : 0 ≤ i) (h1 : i < 16)
    (f : ∀ a r al n1 n2 n3 n4, 0 ≤ i.fdiv 8 → i.fdiv 8 ≤ 1 → [Value.ref a0, .ref a1][(i.fdiv 8).toNat]? = some (.ref a) → [Value.ref r0, .ref r1][(i.fdiv 8).toNat]? = some (.ref r) → n1.length ≤ 2 → n2.length ≤ 2 → n3.length ≤ 2 → n4.length ≤ 2 →
      ∀ E1 E2 E3 E4 u1 u2 u3 u4, (r, tupO #[.ref E1, .ref E2, .ref E3, .ref E4, .bool al]) ∈ led → (E1, tupO u1.toArray) ∈ led → IntsAre u1 n1 → (E2, tupO u2.toArray) ∈ led → IntsAre u2 n2 → (E3, tupO u3.toArray) ∈ led → IntsAre u3 n3 → (E4, tupO u4.toArray) ∈ led → IntsAre u4 n4 →
      ∀ d k1 k2 k3 k4 k5 D1 D2 D3 D4 v1 c1 v2 c2 v3 c3 v4 c4, (a, instObj 215 d) ∈ led → (d, csD P k1 k2 k3 k4 k5 D1 D2 D3 D4 al) ∈ led → (D1, listOf v1.toArray c1) ∈ led → IntsAre v1 n1 → (D2, listOf v2.toArray c2) ∈ led → IntsAre v2 n2 → (D3, listOf v3.toArray c3) ∈ led → IntsAre v3 n3 → (D4, listOf v4.toArray c4) ∈ led → IntsAre v4 n4 → G) : G := by
  have go : ∀ a r al n1 n2 n3 n4, 0 ≤ i.fdiv 8 → i.fdiv 8 ≤ 1 → [Value.ref a0, .ref a1][(i.fdiv 8).toNat]? = some (.ref a) → [Value.ref r0, .ref r1][(i.fdiv 8).toNat]? = some (.ref r) → n1.length ≤ 2 → n2.length ≤ 2 → n3.length ≤ 2 → n4.length ≤ 2 → RowT led r al n1 n2 n3 n4 → ConfAt P led a al n1 n2 n3 n4 → G := by
    intro a r al n1 n2 n3 n4 q0 q1 ea er l1 l2 l3 l4 hr hc
    obtain ⟨E1, E2, E3, E4, hr, ⟨u1, hu1, ju1⟩, ⟨u2, hu2, ju2⟩, ⟨u3, hu3, ju3⟩, ⟨u4, hu4, ju4⟩⟩ := hr
    obtain ⟨d, k1, k2, k3, k4, k5, D1, D2, D3, D4, ho, hd, ⟨v1, c1, hv1, hi1⟩, ⟨v2, c2, hv2, hi2⟩, ⟨v3, c3, hv3, hi3⟩, ⟨v4, c4, hv4, hi4⟩⟩ := hc
    exact f a r al n1 n2 n3 n4 q0 q1 ea er l1 l2 l3 l4 E1 E2 E3 E4 u1 u2 u3 u4 hr hu1 ju1 hu2 ju2 hu3 ju3 hu4 ju4 d k1 k2 k3 k4 k5 D1 D2 D3 D4 v1 c1 v2 c2 v3 c3 v4 c4 ho hd hv1 hi1 hv2 hi2 hv3 hi3 hv4 hi4
  rcases fd8 h0 h1 with e | e
  · exact go a0 r0 _ _ _ _ _ (by omega) (by omega) (by rw [e]; rfl) (by rw [e]; rfl) (by decide) (by decide) (by decide) (by decide) hr0 hc0
  · exact go a1 r1 _ _ _ _ _ (by omega) (by omega) (by rw [e]; rfl) (by rw [e]; rfl) (by decide) (by decide) (by decide) (by decide) hr1 hc1
section
local macro_rules | `(tactic| walk_at "call ref") => `(tactic| (k_here; (with_unfolding_all show wpAny _ _ (call (Value.ref 215) [Value.ref _, Value.ref _, Value.ref _, Value.ref _, Value.bool _]) _ _ _); k_dflt (refine' mkconf_step (ret := ?_); k_whole); intro _ _ _ _ _ _ _ _; walk_at "swp"))
local macro_rules | `(tactic| walk_at "call ref") => `(tactic| (k_here; (with_unfolding_all show wpAny _ _ (call (Value.ref 205) [Value.ref _]) _ _ _); k_dflt (refine' confrow_step (ret := ?_); k_whole); intro _ _ _ _ _ _ _ _ _; walk_at "swp"))

local macro_rules | `(tactic| walk_at "my sub") => `(tactic| (k_here; (with_reducible show wpAny _ _ (subscriptTail _ _ (Value.ref _) (Value.int (Int.fmod _ _) _)) _ _ _); k_dflt (first | (refine' menuIn 1 9223372036854775808 (h := ?_)) | (refine' menuBy 8 (h := ?_)))))
local macro_rules | `(tactic| walk_at "my sub") => `(tactic| (k_here; (with_reducible show wpAny _ _ (subscriptTail _ _ (Value.ref _) (Value.int (Int.fdiv _ 8) _)) _ _ _); k_dflt (refine' item_at ?N ?m ?a ?b ?x ?_; (case N => k_asm); (case m => k_mem); (case a => assumption); (case b => omega); (case x => with_reducible assumption); k_whole)))
local macro_rules | `(tactic| walk_at "subscriptTail") => `(tactic| (k_here; (with_reducible show wpAny _ _ (subscriptTail _ (Expr.Slice _ _ none _) (Value.bytes _ _) (Value.ref _)) _ _ _); (with_reducible rename Fr _ _ _ _ => F'); (with_reducible rename News _ _ _ _ => N'); (refine KBc.slice_K (s := ⟨_, _, _, _, _⟩) F' N' rfl (by constructor) (by constructor) (by rw [KBw.ints_length]; omega) ?_); intro _ _ _ F' N' _))
local macro_rules | `(tactic| walk_at "execs cons") => `(tactic| (k_here; (with_reducible refine gtk ?_); intro tk))
local macro_rules | `(tactic| walk_at "execs nil") => `(tactic| (k_here; (with_reducible refine gtk ?_); intro tk))

theorem snapshots_does (w : World) (mean mg mb) (l : Addr) (xs : List Int) (vs : List Value) (n : Nat) (hi : IntsAre vs xs) (hne : 0 < xs.length) (hlen : xs.length ≤ 11)
    (hb : ∀ x ∈ xs, 0 ≤ x ∧ x < 999983) :
    Does w mean mg mb 10 348 [(l, listOf vs.toArray n)] [.ref l] (fun v tl => v = .bool true ∧ tl = [(l, listOf vs.toArray n)]) := by
  unfold Does
  k_fill
  intro dp un gd cn cs a ccd cl outer A₀ base h₀ L m s Q E B F X N T hk hdp hun hret
  refine wpAny_call ?_
  k_dflt ktr_enter
  have kM := kstMark
  k_steps
  refine Halt.go' ?_
  rename ConfAt _ _ _ false _ _ _ _ => hCn
  rename ConfAt _ _ _ true _ _ _ _ => hCs
  rename Sub _ _ => hsB
  revert hsB
  rename Sub _ _ => hsA
  intro hsB
  rename News _ _ _ _ => N8
  have hlA := hsA (l, listOf vs.toArray n) (.tail _ (.tail _ (.tail _ (.tail _ (.head _)))))
  have hlB := hsB (l, listOf vs.toArray n) (.tail _ (.tail _ (.tail _ (.tail _ hlA))))
  obtain ⟨led, N9, r0, r1, hrl, hr0, hr1, hCn9, hCs9, hl9⟩ : ∃ led, News _ _ _ led ∧ ∃ r0 r1, (_, listOf #[.ref r0, .ref r1] 0) ∈ led ∧ RowT led r0 false [] [] [] [] ∧ RowT led r1 true [1, 3] [2] [1, 4] [5] ∧ ConfAt w.params led _ false [] [] [] [] ∧ ConfAt w.params led _ true [1, 3] [2] [1, 4] [5] ∧ (l, listOf vs.toArray n) ∈ led :=
    ⟨_, N8, _, _, by k_mem, ⟨_, _, _, _, by k_mem, ⟨_, by k_mem, .nil⟩, ⟨_, by k_mem, .nil⟩, ⟨_, by k_mem, .nil⟩, ⟨_, by k_mem, .nil⟩⟩,
      ⟨_, _, _, _, by k_mem, ⟨_, by k_mem, .cons _ _ (.cons _ _ .nil)⟩, ⟨_, by k_mem, .cons _ _ .nil⟩, ⟨_, by k_mem, .cons _ _ (.cons _ _ .nil)⟩, ⟨_, by k_mem, .cons _ _ .nil⟩⟩,
      hCn.mono (fun p hp => by have := hsB p (by (repeat (first | exact hp | apply List.Mem.tail))); (repeat (first | exact this | apply List.Mem.tail))),
      hCs.mono (fun p hp => by (repeat (first | exact hp | apply List.Mem.tail))),
      by (repeat (first | exact hlB | apply List.Mem.tail))⟩
  clear N8 hCn hCs hsB
  rename IsRange _ _ _ _ _ _ _ _ => rg
  rename Fr _ _ _ _ => F8
  with_unfolding_all refine range_fix (n := 16) [Str.ofString "at", Str.ofString "when", Str.ofString "told", Str.ofString "one"] ?hL (by rfl) rg (by decide) (by rfl) F8 N9 ?_ ?_
  case hL => rfl
  · clear rg F8 N9
    intro ki kt u h7 tk7 led3 hk0 hk9 hsub F9 N9
    replace hrl := hsub _ hrl
    refine snapPick (hr0.mono hsub) (hr1.mono hsub) (hCn9.mono hsub) (hCs9.mono hsub) hk0 (by omega) ?_
    clear hsub hr0 hr1 hCn9 hCs9 hl9
    intro a9 r9 al9 n1 n2 n3 n4 q0 q1 ea er l1 l2 l3 l4 E1 E2 E3 E4 u1 u2 u3 u4 hr hu1 ju1 hu2 ju2 hu3 ju3 hu4 ju4 d9 k1 k2 k3 k4 k5 D1 D2 D3 D4 v1 c1 v2 c2 v3 c3 v4 c4 ho hdd hv1 hi1 hv2 hi2 hv3 hi3 hv4 hi4
    k_steps
    all_goals exact (snapE (by assumption) (by assumption)).elim
  · clear rg F8 N9
    intro u h7 tk7 F9 N9
    k_steps
    refine hret _ [(l, listOf vs.toArray n)] _ _ ⟨rfl, rfl⟩ (by k_asm) ?_
    rename News _ _ _ _ => nE
    intro p hp
    rw [List.mem_singleton.mp hp]
    exact nE _ (by k_mem)

end
def KInv (g : Heap) (L : Addr) (m1 : Str → Option Value) (led : List (Addr × Obj)) (s s' : Shared) : Prop :=
  ∃ h1 tk1 k t x t', s' = ⟨h1, s.gens, s.drawn, tk1, s.os⟩ ∧ Fr g L h1 (fun y => if y = Str.ofString "said" then some (.str x t') else if y = Str.ofString "kind" then some (.int k t) else m1 y) ∧ News g L h1 led ∧ inS (Str.ofString "l") x = isL k ∧ inS (Str.ofString "r") x = isR k ∧ inS (Str.ofString "t") x = isT k ∧ -2000000 ≤ k ∧ k ≤ 2000000
theorem cut_kind {M : Model} {A : Around} {env : Env} {s : Shared} {Q : Flow → Shared → Prop} {E : Value → Shared → Prop} {g : Heap} {L : Addr} {m1 : Str → Option Value} {led : List (Addr × Obj)} {a b c : Stmt} {ys : List Stmt}
    (F : Fr g L s.heap m1) (N : News g L s.heap led) (h : Fr g L s.heap m1 → News g L s.heap led → wpAny M A (execs [a, b, c] env) (fun a s' => match a with | .next => KInv g L m1 led s s' | _ => False) E s)
    (h2 : ∀ h1 tk1 k t x t', Fr g L h1 (fun y => if y = Str.ofString "said" then some (.str x t') else if y = Str.ofString "kind" then some (.int k t) else m1 y) → News g L h1 led → inS (Str.ofString "l") x = isL k → inS (Str.ofString "r") x = isR k → inS (Str.ofString "t") x = isT k → -2000000 ≤ k → k ≤ 2000000 → wpAny M A (execs ys env) Q E ⟨h1, s.gens, s.drawn, tk1, s.os⟩) :
    wpAny M A (execs (a :: b :: c :: ys) env) Q E s :=
  cut_execs (KInv g L m1 led s) [a, b, c] (h F N) (fun s' hi => by
    obtain ⟨h1, tk1, k, t, x, t', rfl, F1, N1, p1, p2, p3, p4, p5⟩ := hi
    exact h2 h1 tk1 k t x t' F1 N1 p1 p2 p3 p4 p5)
theorem kind_if {y S K : Str} (hne : S ≠ K) {α : Type} {a b c d : α} : (if y = K then a else if y = S then b else if y = K then c else d) = if y = S then b else if y = K then a else d := by
  by_cases h : y = K
  · subst h; rw [if_pos rfl, if_neg (fun e => hne e.symm), if_pos rfl]
  · simp only [h, if_false]
theorem kind_if2 {y S K : Str} {α : Type} {a b c d : α} : (if y = S then a else if y = S then b else if y = K then c else d) = if y = S then a else if y = K then c else d := ifif
theorem kindFar {k : Int} (h : 22 < k ∨ k < 0) : inS (Str.ofString "l") (Str.ofString "") = isL k ∧ inS (Str.ofString "r") (Str.ofString "") = isR k ∧ inS (Str.ofString "t") (Str.ofString "") = isT k :=
  ⟨(show inS (Str.ofString "l") (Str.ofString "") = false by decide +kernel).trans (noL h).symm, (show inS (Str.ofString "r") (Str.ofString "") = false by decide +kernel).trans (noR h).symm, (show inS (Str.ofString "t") (Str.ofString "") = false by decide +kernel).trans (noT h).symm⟩
theorem kind_end {g : Heap} {L : Addr} {m1 m2 : Str → Option Value} {led : List (Addr × Obj)} {s : Shared} {h1 : Heap} {tk1 : Nat} {k t x t'} (F : Fr g L h1 m2) (N : News g L h1 led) (e : ∀ y, m2 y = if y = Str.ofString "said" then some (.str x t') else if y = Str.ofString "kind" then some (.int k t) else m1 y)
    (p : inS (Str.ofString "l") x = isL k ∧ inS (Str.ofString "r") x = isR k ∧ inS (Str.ofString "t") x = isT k) (p4 : -2000000 ≤ k) (p5 : k ≤ 2000000) : KInv g L m1 led s ⟨h1, s.gens, s.drawn, tk1, s.os⟩ :=
  ⟨h1, tk1, k, t, x, t', rfl, frM F e, N, p.1, p.2.1, p.2.2, p4, p5⟩
section
local macro_rules | `(tactic| walk_at "call ref") => `(tactic| (k_here; (with_unfolding_all show wpAny _ _ (call (Value.ref 65) [Value.int _ _]) _ _ _); k_dflt (refine' local_step (ret := ?_); k_whole); intro _ _ _ _; walk_at "swp"))
local macro_rules | `(tactic| walk_at "call ref") => `(tactic| (k_here; (with_unfolding_all show wpAny _ _ (call (Value.ref 72) [Value.int _ _]) _ _ _); k_dflt (refine' response_step (ret := ?_); k_whole); intro _ _ _ _; walk_at "swp"))
local macro_rules | `(tactic| walk_at "call ref") => `(tactic| (k_here; (with_unfolding_all show wpAny _ _ (call (Value.ref 308) [Value.int _ _]) _ _ _); k_dflt (refine' lack_step (ret := ?_); k_whole); intro _ _ _ _; walk_at "swp"))
local macro_rules | `(tactic| walk_at "call ref") => `(tactic| (k_here; (with_unfolding_all show wpAny _ _ (call (Value.ref 336) [Value.int _ _]) _ _ _); k_dflt (refine' kind_step (ret := ?_); k_whole); intro _ _ _ _ _ _ _ _ _; walk_at "swp"))

local macro_rules | `(tactic| walk_at "pyIter ref") => `(tactic| (k_here; (with_reducible show wpAny _ _ (pyIter (Value.ref _)) (fun it s₂ => LoopAtV _ _ _ _ _ _ _ _ _ it s₂) _ _); (rename IsRange _ _ _ _ _ _ _ _ => rg9); refine' Halt.go ?_))
local macro_rules | `(tactic| walk_at "my none") => `(tactic| skip)
local macro_rules | `(tactic| walk_at "compareOp In str str") => `(tactic| (with_reducible refine in_strS (by assumption) ?_))
local macro_rules | `(tactic| walk_at "exec For Name Call cons nil") => `(tactic| (k_here; refine' Halt.go ?_))
theorem kinds_does (w : World) (mean mg mb) (news) (i : Int) (t) (h0 : 0 ≤ i) (h1 : i < 1079173) (j : Int) (t') (hj0 : 0 ≤ j) (hj1 : j < 1079173) :
    DoesT w mean mg mb 10 369 news [.int i t, .int j t'] (fun v tl => v = .bool true) := by
  unfold DoesT
  k_fill
  intro dp un gd cn cs a ccd A₀ base h₀ L m s Q E B F X N T XB TB hk hdp hun hret
  refine wpAny_call ?_
  have kM := kstMark
  k_dflt (refine' code_defS0 B F X N T rfl ?ho ?hcd ?hroom ?hbind ?hloc ?_ hk ?c2 ?c3 ?c4 ?hcell; (case ho => k_is); (case hcd => k_is); (case hroom => ktr_room); (case hbind => exact BindsTo.of_eq rfl); (case hloc => exact locs rfl); (case hcell => decide); (case c2 => exact rfl); (case c3 => exact rfl); (case c4 => exact rfl))
  intro g L' h' FG F' N' B' X' T' D'
  dsimp only
  k_steps
  have hfs : ∀ b ∈ [L], ∃ o, g.get? b = some o := fun b hb => by
    obtain ⟨o, _, _, ho, _⟩ := D' b hb
    exact ⟨o, ho⟩
  refine Halt.go' ?_
  k_dflt (refine' For_invVF (frF_hide (KtsTurn.refl (fs := [L]) (g := g)) F') ?a ?b ?_; (case a => exact rfl); (case b => exact rfl))
  k_steps
  refine Halt.go' ?_
  rename IsRange _ _ _ _ _ _ _ _ => rg
  rename Fr _ _ _ _ => F8
  rename News _ _ _ _ => N8
  with_unfolding_all refine range_slotF (n := 26) (g := g) (fs := [L]) [Str.ofString "kind", Str.ofString "said", Str.ofString "answer", Str.ofString "want"] ?hL (by rfl) rg (by decide) (by rfl) hfs KtsTurn.refl F8 N8 ?_ ?_
  case hL => rfl
  · clear rg F8 N8
    intro ki kt u h7 tk7 led g' hk0 hk9 hsub T9 F9 N9
    have B9 := below_turn B' T9
    have X9 := XB.keeps B9.stays
    have P9 := TB.keeps B9.stays
    have D9 := D'.turn T9
    clear B' X' T' D' FG
    have hm0 := Int.fmod_nonneg_of_pos (i + 5 * ki) (b := 24) (by decide)
    have hm1 := Int.fmod_lt_of_pos (i + 5 * ki) (b := 24) (by decide)
    refine cut_kind (by k_asm) (by k_asm) ?_ ?_
    · clear F9 N9
      intro F9 N9
      k_steps
      all_goals try (exfalso; omega)
      all_goals (first
        | exact kind_end (by k_asm) (by k_asm) (fun y => kind_if (by decide +kernel)) (kindFar (by omega)) (by omega) (by omega)
        | exact kind_end (by k_asm) (by k_asm) (fun y => kind_if2) ⟨by assumption, by assumption, by assumption⟩ (by omega) (by omega)
        | fail "an end is left")
    · clear F9 N9
      intro h1 tk1 k9 t9 x9 u9 F9 N9 pl pr pt hk1 hk2
      k_steps
      all_goals (first
        | (exfalso; omega)
        | exact (bneSelf (by assumption)).elim
        | fail "an end is left")
  · clear rg F8 N8
    intro u h7 tk7 g' T9 F9 N9
    k_steps
    apply hret
    rotate_left 2
    · k_asm
    · rfl
    · k_asm
end
def ej (tr : Int) (k : Nat) : Bool × Bool := if tr = 0 ∧ k ≤ 1 then (false, false) else (decide (tr ≠ 2), true)
def tup2 (b : Bool × Bool) : Obj := tupO #[.bool b.1, .bool b.2]
def WantIs (tr : Int) (k : Nat) (led : List (Addr × Obj)) (wv : Value) : Prop := (∃ r, wv = .ref r ∧ (r, tup2 (ej tr k)) ∈ led ∧ (tr = 0 ∨ tr = 1 ∨ tr = 2)) ∨ (∃ t, wv = .str (Str.ofString "refused") t ∧ tr ≠ 0 ∧ tr ≠ 1 ∧ tr ≠ 2)
def WInv (g : Heap) (L : Addr) (m0 : Str → Option Value) (news : List (Addr × Obj)) (tr : Int) (k : Nat) (s s' : Shared) : Prop :=
  ∃ h1 tk1 led wv, s' = ⟨h1, s.gens, s.drawn, tk1, s.os⟩ ∧ Fr g L h1 (fun y => if y = Str.ofString "want" then some wv else m0 y) ∧ News g L h1 led ∧ (∀ p ∈ news, p ∈ led) ∧ WantIs tr k led wv
theorem cut_want {M : Model} {A : Around} {env : Env} {s : Shared} {Q : Flow → Shared → Prop} {E : Value → Shared → Prop} {g : Heap} {L : Addr} {m0 : Str → Option Value} {news : List (Addr × Obj)} {a b : Stmt} {ys : List Stmt} (tr : Int) (k : Nat)
    (F : Fr g L s.heap m0) (N : News g L s.heap news) (h : wpAny M A (execs [a, b] env) (fun a s' => match a with | .next => WInv g L m0 news tr k s s' | _ => False) E s)
    (h2 : ∀ h1 tk1 led wv, Fr g L h1 (fun y => if y = Str.ofString "want" then some wv else m0 y) → News g L h1 led → (∀ p ∈ news, p ∈ led) → WantIs tr k led wv → wpAny M A (execs ys env) Q E ⟨h1, s.gens, s.drawn, tk1, s.os⟩) :
    wpAny M A (execs (a :: b :: ys) env) Q E s :=
  cut_execs (WInv g L m0 news tr k s) [a, b] h (fun s' hi => by
    obtain ⟨h1, tk1, led, wv, rfl, F1, N1, hs, hw⟩ := hi
    exact h2 h1 tk1 led wv F1 N1 hs hw)
theorem ej0 {k : Nat} (h : (k : Int) ≤ 1) : tup2 (ej 0 k) = tupO #[.bool false, .bool false] := by
  have : ej 0 k = (false, false) := if_pos ⟨rfl, by omega⟩
  rw [this]; rfl
theorem ej0' {k : Nat} (h : ¬ (k : Int) ≤ 1) : tup2 (ej 0 k) = tupO #[.bool (0 != 2), .bool true] := by
  have : ej 0 k = (decide ((0 : Int) ≠ 2), true) := if_neg (fun h' => h (by have := h'.2; omega))
  rw [this]; rfl
theorem ej1 {k : Nat} : tup2 (ej 1 k) = tupO #[.bool (1 != 2), .bool true] := by
  have : ej 1 k = (decide ((1 : Int) ≠ 2), true) := if_neg (fun h' => absurd h'.1 (by decide))
  rw [this]; rfl
theorem ej2 {k : Nat} : tup2 (ej 2 k) = tupO #[.bool (2 != 2), .bool true] := by
  have : ej 2 k = (decide ((2 : Int) ≠ 2), true) := if_neg (fun h' => absurd h'.1 (by decide))
  rw [this]; rfl
theorem newsP {h₀ : Heap} {L r : Addr} {h : Heap} {o o' : Obj} {q : Addr × Obj} {news : List (Addr × Obj)} (N : News h₀ L h ((r, o) :: q :: news)) (e : o = o') : News h₀ L h ((r, o') :: news) := by
  subst e
  intro p hp
  rcases List.mem_cons.mp hp with rfl | hp
  · exact N _ (.head _)
  · exact N _ (.tail _ (.tail _ hp))
section
local macro_rules | `(tactic| walk_at "call builtin:len") => `(tactic| ((refine' kst_len ?k1 ?k2 ?k3 ?k4 ?_; (case k1 => k_asm); (case k2 => k_mem); (case k3 => exact rfl); (case k4 => omega); k_whole)))
theorem enter_does {w : World} {mean mg mb} {news} {c d l : Addr} {k1 k2 k3} {tr : Int} {tt cx ct} {vs : List Value} {n : Nat} (hv : vs.length ≤ 3) (ht : tr = 0 ∨ tr = 1 ∨ tr = 2) (hc : (c, instObj 297 d) ∈ news) (hdd : (d, ccD w.params k1 k2 k3 tr tt l cx ct) ∈ news) (hl : (l, listOf vs.toArray n) ∈ news) :
    Does w mean mg mb 4 287 news [.ref c] (fun v tl => ∃ r, v = .ref r ∧ tl = (r, tup2 (ej tr vs.length)) :: news) := by
  unfold Does
  k_fill
  intro dp un gd cn cs a ccd cl outer A₀ base h₀ L m s Q E B F X N T hk hdp hun hret
  refine wpAny_call ?_
  k_dflt ktr_enter
  have kM := kstMark
  rcases ht with e | e | e
  all_goals subst e
  all_goals k_steps
  all_goals (refine hret _ _ _ _ ⟨_, rfl, rfl⟩ (by k_asm) (newsP (by assumption) ?_))
  all_goals (first | exact (ej0 (by assumption)).symm | exact (ej0' (by omega)).symm | exact ej1.symm | exact ej2.symm)
end
section
variable {w : World} {mean : ExcName → Option Value} {mg mb : Str → Option Value} {news : List (Addr × Obj)} {dp un : Nat} {gd : Option (List Code)} {cn : Str} {cs : Scope} {a₁ : Addr} {ccd : Value} {cl : List (Str × Addr)} {outer : List Env} {A₀ : Around} {base h₀ hp : Heap} {gn : Array GenState} {dr : Drawn} {tk : Nat} {os : OsState} {L : Addr} {m : Str → Option Value} {Q E : Value → Shared → Prop}
theorem enter_step {c d l : Addr} {k1 k2 k3 : Tok} {tr : Int} {tt : Tok} {cx : Array UInt8} {ct : Tok} {vs : List Value} {n : Nat} (B : Below A₀ base outer h₀ := by k_asm) (F : Fr h₀ L hp m := by k_asm) (X : (hd.heap_1 w.params).In h₀ := by k_asm) (N : News h₀ L hp news := by k_asm)
    (hc : (c, instObj 297 d) ∈ news := by first | k_mem | assumption) (hdd : (d, ccD w.params k1 k2 k3 tr tt l cx ct) ∈ news := by first | k_mem | assumption) (hl : (l, listOf vs.toArray n) ∈ news := by first | k_mem | assumption) (hv : vs.length ≤ 3 := by first | assumption | exact Nat.le_of_ble_eq_true rfl) (ht : tr = 0 ∨ tr = 1 ∨ tr = 2 := by assumption) (T : Top hd.view_1 (looseW hd.view_1 []) mean mg mb h₀ := by k_asm) (hk : cs.kind = .function := by first | exact rfl | assumption) (hdp : dp + 4 < recursionLimit := by ktr_room) (hun : un + 8 * 4 + 100 < cLine := by ktr_units)
    (ret : ∀ r h' tk', Fr h₀ L h' m → News h₀ L h' ((r, tup2 (ej tr vs.length)) :: news) → Q (.ref r) ⟨h', gn, dr, tk', os⟩) :
    wpAny (model PySem.Challenge.rw_xw0262_01.row.toRowW.prog w) (ktrTop dp un gd cn cs L a₁ ccd cl outer) (call (.ref 287) [.ref c]) Q E ⟨hp, gn, dr, tk, os⟩ :=
  does_use (s := ⟨hp, gn, dr, tk, os⟩) (enter_does hv ht hc hdd hl) B F X N T hk hdp hun (fun _ _ h' tk' hR F' N' => by
    obtain ⟨r, e1, e2⟩ := hR; subst e1; subst e2; exact ret r h' tk' F' N')
end
theorem chFa {tr cnt : Int} {vs : List Value} (hcnt : (vs.length : Int) = cnt) (h0 : tr = 0) (h : ((decide (tr = 0) && vs.isEmpty) != (cnt == 0)) = true) : False := by
  subst hcnt
  cases vs with
  | nil => simp_all [beqD]
  | cons x r => simp [beqD, h0] at h; omega
theorem chFb {tr : Int} {b : Bool} (h0 : tr ≠ 0) (h : ((decide (tr = 0) && b) != (tr == 0)) = true) : False := by
  simp [beqD, h0] at h
theorem joinKind2 {M : Model} {A : Around} {E : Value → Shared → Prop} {s : Shared} {env : Env} {a : Str} {i : Int} {Q : Value → Shared → Prop} (ha : a.length ≤ 100) (hi : i.natAbs < 10000000000)
    (h : Q (.str (Str.empty ++ a ++ Str.ofString (toString i)) s.toks) { s with toks := s.toks + 1 }) : wpAny M A (joinParts (Str.empty ++ a ++ Str.ofString (toString i)) (evalEach [] env)) Q E s := by
  refine joinParts_nil h ?_
  have e1 : (toString i).length ≤ 11 := int_text_length_le10 (k := 10) (by decide) (by omega)
  have e2 : (Str.ofString (toString i)).length = (toString i).length := PySem.ofString_length _
  have e0 : (Str.empty).length = 0 := rfl
  rw [sizeLine_eq]
  simp only [Str.length_append]
  omega
theorem memE {r : Addr} {o o' : Obj} {led : List (Addr × Obj)} (h : (r, o) ∈ led) (e : o = o') : (r, o') ∈ led := e ▸ h
theorem chF {tr cnt : Int} {vs : List Value} (hcnt : (vs.length : Int) = cnt) (h : ((decide (tr = 0) && vs.isEmpty) != (tr == 0 && cnt == 0)) = true) : False := by
  subst hcnt
  cases vs with
  | nil => simp_all [beqD]
  | cons x r => simp [beqD] at h; omega
section
local macro_rules | `(tactic| walk_at "joinParts") => `(tactic| (k_dflt (with_reducible refine joinKind2 ?ha ?hi ?_); (case ha => exact Nat.le_of_ble_eq_true rfl); (case hi => omega)))
local macro_rules | `(tactic| walk_at "call ref") => `(tactic| (k_here; (with_unfolding_all show wpAny _ _ (call (Value.ref 294) [Value.ref _]) _ _ _); k_dflt (refine' leave_joint_step (ret := ?_); k_whole); intro _ _ _ _; walk_at "swp"))
local macro_rules | `(tactic| walk_at "call ref") => `(tactic| (k_here; (with_unfolding_all show wpAny _ _ (call (Value.ref 287) [Value.ref _]) _ _ _); k_dflt (refine' enter_step (ret := ?_); k_whole); intro _ _ _ _ _; walk_at "swp"))

local macro_rules | `(tactic| walk_at "pyIter ref") => `(tactic| (k_here; (with_reducible show wpAny _ _ (pyIter (Value.ref _)) (fun it s₂ => LoopAtV _ _ _ _ _ _ _ _ _ it s₂) _ _); (rename IsRange _ _ _ _ _ _ _ _ => rg9); refine' Halt.go ?_))
local macro_rules | `(tactic| walk_at "exec For Name Call cons nil") => `(tactic| (k_here; refine' Halt.go ?_))
local macro_rules | `(tactic| walk_at "call builtin:len") => `(tactic| ((refine' kst_len ?k1 ?k2 ?k3 ?k4 ?_; (case k1 => k_asm); (case k2 => k_mem); (case k3 => exact rfl); (case k4 => omega); k_whole)))
theorem change_does (w : World) (mean mg mb) (news) (c d l : Addr) (k1 k2 k3) (tr : Int) (tt tu tv) (cx ct) (vs : List Value) (n : Nat) (cnt : Int) (hcnt : (vs.length : Int) = cnt) (hv : vs.length ≤ 3) (hc : (c, instObj 297 d) ∈ news) (hd : (d, ccD w.params k1 k2 k3 tr tt l cx ct) ∈ news) (hl : (l, listOf vs.toArray n) ∈ news) (htr : -4294967296 ≤ tr ∧ tr ≤ 4294967296) :
    DoesC w mean mg mb 9 355 news [.ref c, .int tr tu, .int cnt tv] (fun v tl => v = .bool true ∧ tl = news) := by
  unfold DoesC
  k_fill
  intro dp un gd cn cs a ccd outer A₀ base g₀ h₀ L m s Q E B F X N T XB TB D T0 hk hdp hun hret
  refine wpAny_call ?_
  have kM := kstMark
  k_dflt (refine' code_defS B F X N T XB TB D T0 rfl ?ho ?hcd ?hroom ?hbind ?hloc ?_ hk ?c2 ?c3 ?c4 ?hcell; (case ho => k_is); (case hcd => k_is); (case hroom => ktr_room); (case hbind => exact BindsTo.of_eq rfl); (case hloc => exact locs rfl); (case hcell => decide); (case c2 => exact rfl); (case c3 => exact rfl); (case c4 => exact rfl))
  intro g L' h' FG F' N' B' X' T' D'
  dsimp only
  obtain ⟨fs, hfsE⟩ : ∃ fs, fs = (envOf cn cs L a ccd :: outer).filterMap (·.frame) := ⟨_, rfl⟩
  have hfs : ∀ b ∈ fs, ∃ o, g.get? b = some o := fun b hb => by
    obtain ⟨o, _, _, ho, _⟩ := D' b (hfsE ▸ hb)
    exact ⟨o, ho⟩
  refine cut_want tr vs.length (by k_asm) (by k_asm) ?_ ?_
  · by_cases e0 : tr = 0
    · subst e0
      rcases vs with _ | ⟨v1, _ | ⟨v2, _ | ⟨v3, _ | ⟨v4, vs⟩⟩⟩⟩
      · obtain rfl : cnt = 0 := by simpa using hcnt.symm
        k_steps
        (refine ⟨_, _, _, _, rfl, frM (by k_asm) (by first | exact fun y => rfl | exact fun y => ifif), (by k_asm), (fun p hp => by (repeat (first | exact hp | apply List.Mem.tail))), Or.inl ⟨_, rfl, memE (by repeat (first | exact List.Mem.head _ | apply List.Mem.tail)) (ej0 (by simp)).symm, Or.inl rfl⟩⟩)
      · obtain rfl : cnt = 1 := by simpa using hcnt.symm
        k_steps
        (refine ⟨_, _, _, _, rfl, frM (by k_asm) (by first | exact fun y => rfl | exact fun y => ifif), (by k_asm), (fun p hp => by (repeat (first | exact hp | apply List.Mem.tail))), Or.inl ⟨_, rfl, memE (by repeat (first | exact List.Mem.head _ | apply List.Mem.tail)) (ej0 (by simp)).symm, Or.inl rfl⟩⟩)
      · obtain rfl : cnt = 2 := by simpa using hcnt.symm
        k_steps
        (refine ⟨_, _, _, _, rfl, frM (by k_asm) (by first | exact fun y => rfl | exact fun y => ifif), (by k_asm), (fun p hp => by (repeat (first | exact hp | apply List.Mem.tail))), Or.inl ⟨_, rfl, memE (by repeat (first | exact List.Mem.head _ | apply List.Mem.tail)) (ej0' (by simp)).symm, Or.inl rfl⟩⟩)
      · obtain rfl : cnt = 3 := by simpa using hcnt.symm
        k_steps
        (refine ⟨_, _, _, _, rfl, frM (by k_asm) (by first | exact fun y => rfl | exact fun y => ifif), (by k_asm), (fun p hp => by (repeat (first | exact hp | apply List.Mem.tail))), Or.inl ⟨_, rfl, memE (by repeat (first | exact List.Mem.head _ | apply List.Mem.tail)) (ej0' (by simp)).symm, Or.inl rfl⟩⟩)
      · simp only [List.length_cons] at hv; omega
    · by_cases e1 : tr = 1
      · subst e1
        k_steps
        (refine ⟨_, _, _, _, rfl, frM (by k_asm) (by first | exact fun y => rfl | exact fun y => ifif), (by k_asm), (fun p hp => by (repeat (first | exact hp | apply List.Mem.tail))), Or.inl ⟨_, rfl, memE (by repeat (first | exact List.Mem.head _ | apply List.Mem.tail)) (ej1).symm, Or.inr (Or.inl rfl)⟩⟩)
      · by_cases e2 : tr = 2
        · subst e2
          k_steps
          (refine ⟨_, _, _, _, rfl, frM (by k_asm) (by first | exact fun y => rfl | exact fun y => ifif), (by k_asm), (fun p hp => by (repeat (first | exact hp | apply List.Mem.tail))), Or.inl ⟨_, rfl, memE (by repeat (first | exact List.Mem.head _ | apply List.Mem.tail)) (ej2).symm, Or.inr (Or.inr rfl)⟩⟩)
        · k_steps
          all_goals try (exfalso; omega)
          (refine ⟨_, _, _, _, rfl, frM (by k_asm) (by first | exact fun y => rfl | exact fun y => ifif), (by k_asm), (fun p hp => by (repeat (first | exact hp | apply List.Mem.tail))), Or.inr ⟨_, rfl, e0, e1, e2⟩⟩)
  clear F' N'
  intro h1 tk1 led1 wv F1 N1 hs1 hw
  replace hc := hs1 _ hc
  replace hd := hs1 _ hd
  replace hl := hs1 _ hl
  rename (d, _) ∈ _ => hdd
  rcases hw with ⟨rw, rfl, hrw, ht⟩ | ⟨tw, rfl, n0, n1, n2⟩
  · k_steps
    refine Halt.go' ?_
    rename Fr _ _ _ _ => F8
    k_dflt (refine' For_invVF (frF_hide (KtsTurn.refl (fs := fs) (g := g)) F8) ?fa1 ?fb1 ?_; (case fa1 => exact rfl); (case fb1 => exact rfl))
    k_steps
    refine Halt.go' ?_
    rename IsRange _ _ _ _ _ _ _ _ => rg
    rename News _ _ _ _ => N8
    rename Fr _ _ _ _ => F8
    with_unfolding_all refine range_slotF (n := 2) (g := g) (fs := fs) [Str.ofString "found"] ?hL (by rfl) rg (by decide) (by rfl) hfs KtsTurn.refl F8 N8 ?_ ?_
    case hL => rfl
    · clear rg F8 N8
      intro ki kt u h7 tk7 led g' hk0 hk9 hsub T9 F9 N9
      replace hc := hsub _ hc
      replace hdd := hsub _ hdd
      replace hl := hsub _ hl
      replace hrw := hsub _ hrw
      clear hsub
      subst hfsE
      have B9 := below_turn B' T9
      have X9 := XB.keeps B9.stays
      have P9 := TB.keeps B9.stays
      have D9 := D'.turn T9
      clear B' X' T' D' FG
      k_steps
      all_goals first | exact (chFa hcnt (by assumption) (by assumption)).elim | exact (chFb (by assumption) (by assumption)).elim | (exfalso; omega) | exact (bneSelf (by assumption)).elim | exact (anyF (by assumption) (by assumption) (by assumption) (by assumption)).elim
    · clear rg F8 N8
      intro u h7 tk7 g' T9 F9 N9
      subst hfsE
      k_steps
      refine hret _ news _ _ _ ⟨rfl, rfl⟩ (by assumption) (by assumption) ?_ (by assumption) (by assumption) (by assumption) (by assumption)
      rename News _ _ _ _ => nE
      exact fun p hp => nE p (hs1 p hp)
  · k_steps
    refine Halt.go' ?_
    rename Fr _ _ _ _ => F8
    k_dflt (refine' For_invVF (frF_hide (KtsTurn.refl (fs := fs) (g := g)) F8) ?fa2 ?fb2 ?_; (case fa2 => exact rfl); (case fb2 => exact rfl))
    k_steps
    refine Halt.go' ?_
    rename IsRange _ _ _ _ _ _ _ _ => rg
    rename News _ _ _ _ => N8
    rename Fr _ _ _ _ => F8
    with_unfolding_all refine range_slotF (n := 2) (g := g) (fs := fs) [Str.ofString "found"] ?hL (by rfl) rg (by decide) (by rfl) hfs KtsTurn.refl F8 N8 ?_ ?_
    case hL => rfl
    · clear rg F8 N8
      intro ki kt u h7 tk7 led g' hk0 hk9 hsub T9 F9 N9
      replace hc := hsub _ hc
      replace hdd := hsub _ hdd
      replace hl := hsub _ hl

      clear hsub
      subst hfsE
      have B9 := below_turn B' T9
      have X9 := XB.keeps B9.stays
      have P9 := TB.keeps B9.stays
      have D9 := D'.turn T9
      clear B' X' T' D' FG
      k_steps
      all_goals first | exact (chFa hcnt (by assumption) (by assumption)).elim | exact (chFb (by assumption) (by assumption)).elim | (exfalso; omega) | exact (bneSelf (by assumption)).elim | exact (anyF (by assumption) (by assumption) (by assumption) (by assumption)).elim
    · clear rg F8 N8
      intro u h7 tk7 g' T9 F9 N9
      subst hfsE
      k_steps
      refine hret _ news _ _ _ ⟨rfl, rfl⟩ (by assumption) (by assumption) ?_ (by assumption) (by assumption) (by assumption) (by assumption)
      rename News _ _ _ _ => nE
      exact fun p hp => nE p (hs1 p hp)
end
theorem doesC_use {w : World} {mean mg mb} {kk : Nat} {f : Addr} {news vs} {Res : Value → List (Addr × Obj) → Prop}
   {dp un : Nat} {gd : Option (List Code)} {cn : Str} {cs : Scope} {a : Addr} {ccd : Value} {outer : List Env} {A₀ : Around} {base g₀ h₀ : Heap} {L : Addr} {m : Str → Option Value} {s : Shared} {Q E : Value → Shared → Prop}
   (D : DoesC w mean mg mb kk f news vs Res)
   (B : Below A₀ base outer h₀) (F : Fr h₀ L s.heap m) (X : (hd.heap_1 w.params).In h₀) (N : News h₀ L s.heap news) (T : Top hd.view_1 (looseW hd.view_1 []) mean mg mb h₀) (XB : (hd.heap_1 w.params).In base) (TB : Top hd.view_1 (looseW hd.view_1 []) mean mg mb base)
   (DD : KtsDicts (outer.filterMap (·.frame)) h₀) (T0 : KtsTurn (outer.filterMap (·.frame)) g₀ h₀) (hk : cs.kind = .function)
   (hd' : dp + kk < recursionLimit) (hu : un + 8 * kk + 100 < cLine)
   (ret : ∀ v tl h' tk' h₀', Res v tl → KtsTurn (outer.filterMap (·.frame)) g₀ h₀' → Fr h₀' L h' m → News h₀' L h' tl → Below A₀ base outer h₀' → (hd.heap_1 w.params).In h₀' → Top hd.view_1 (looseW hd.view_1 []) mean mg mb h₀' → KtsDicts (outer.filterMap (·.frame)) h₀' → Q v { s with heap := h', toks := tk' }) :
   wpAny (model PySem.Challenge.rw_xw0262_01.row.toRowW.prog w) (ktrTop dp un gd cn cs L a ccd [] outer) (call (.ref f) vs) Q E s :=
  D _ _ _ _ _ _ _ _ _ _ _ _ _ _ _ _ _ B F X N T XB TB DD T0 hk hd' hu ret
theorem change_use {w : World} {mean mg mb} {news} {c d l : Addr} {k1 k2 k3} {tr : Int} {tt tu tv} {cx ct} {vs : List Value} {n : Nat} {cnt : Int} (hc : (c, instObj 297 d) ∈ news) (hd : (d, ccD w.params k1 k2 k3 tr tt l cx ct) ∈ news) (hl : (l, listOf vs.toArray n) ∈ news) (hcnt : (vs.length : Int) = cnt) (hv : vs.length ≤ 3) (h0 : -4294967296 ≤ tr) (h1 : tr ≤ 4294967296) :
    DoesC w mean mg mb 9 355 news [.ref c, .int tr tu, .int cnt tv] (fun v tl => v = .bool true ∧ tl = news) := change_does w mean mg mb news c d l k1 k2 k3 tr tt tu tv cx ct vs n cnt hcnt hv hc hd hl ⟨h0, h1⟩
section

local macro_rules | `(tactic| walk_at "UnrEnd") => `(tactic| (k_here; refine' Halt.go ?_))
local macro_rules | `(tactic| walk_at "exec For Name Call cons nil") => `(tactic| (k_here; refine' Halt.go ?_))
local macro_rules | `(tactic| walk_at "exec For Name List cons nil") => `(tactic| (k_here; refine' Halt.go ?_))
local macro_rules | `(tactic| walk_at "execs cons") => `(tactic| (k_here; (with_reducible refine gtk ?_); intro tk))
local macro_rules | `(tactic| walk_at "execs nil") => `(tactic| (k_here; (with_reducible refine gtk ?_); intro tk))

local macro_rules | `(tactic| walk_at "call builtin:list.append") => `(tactic| (k_here; (with_reducible show wpAny _ _ (call (Value.builtin _) [Value.ref _, _]) _ _ _); k_dflt (refine' append_K ?k1 ?k2 ?k3 ?_ ?z; (case k1 => k_asm); (case k2 => k_asm); (case k3 => k_upd); (case z => first | exact Nat.le_of_ble_eq_true rfl | size_fits)); intro h' F' N'; (try k_sweep)))
local macro_rules | `(tactic| walk_at "CompEnd") => `(tactic| (k_here; k_dflt (refine' comp_end_1 ?F ?N ?l ?o ?S ?_; (case F => k_asm); (case N => k_asm); (case l => assumption); (case o => assumption); (case S => exact Or.inr ⟨_, by k_mem, rfl, _, rfl⟩))))
local macro_rules | `(tactic| walk_at "my sub") => `(tactic| (k_here; (with_reducible show wpAny _ _ (subscriptTail _ _ (Value.ref _) (Value.int (Int.fmod _ _) _)) _ _ _); k_dflt (first | (refine' menuIn (-1) 4294967296 (h := ?_)) | (refine' menuIn 0 1099511627776 (h := ?_)) | (refine' menuBy 1 (h := ?_)))))
def PairsOf (led : List (Addr × Obj)) : List Value → List (Int × Int) → Prop
  | [], [] => True
  | v :: vs, p :: ps => (∃ q s r, v = .ref q ∧ (q, tupO #[.int p.1 s, .int p.2 r]) ∈ led) ∧ PairsOf led vs ps
  | _, _ => False
theorem PairsOf.mono {led led' : List (Addr × Obj)} (h : ∀ p ∈ led, p ∈ led') : ∀ {vs : List Value} {ps : List (Int × Int)}, PairsOf led vs ps → PairsOf led' vs ps
  | [], [], _ => trivial
  | _ :: _, _ :: _, ⟨⟨q, s, r, e, m⟩, t⟩ => ⟨⟨q, s, r, e, h _ m⟩, PairsOf.mono h t⟩
  | [], _ :: _, H => H.elim
  | _ :: _, [], H => H.elim
theorem PairsOf.take {led : List (Addr × Obj)} : ∀ (k : Nat) {vs : List Value} {ps : List (Int × Int)}, PairsOf led vs ps → PairsOf led (vs.take k) (ps.take k)
  | 0, _, _, _ => trivial
  | _ + 1, [], [], _ => trivial
  | k + 1, _ :: _, _ :: _, ⟨a, t⟩ => ⟨a, PairsOf.take k t⟩
  | _ + 1, [], _ :: _, H => H.elim
  | _ + 1, _ :: _, [], H => H.elim
theorem PairsOf.alike {l1 l2 led : List (Addr × Obj)} (h1 : ∀ p ∈ l1, p ∈ led) (h2 : ∀ p ∈ l2, p ∈ led) {n : Nat} : ∀ {vs us : List Value} {ps : List (Int × Int)}, PairsOf l1 vs ps → PairsOf l2 us ps → AlikeAll led (n + 1) vs us
  | [], [], [], _, _ => .nil
  | _ :: _, _ :: _, _ :: _, ⟨⟨q, s, r, e, m⟩, t⟩, ⟨⟨q', s', r', e', m'⟩, t'⟩ => by subst e; subst e'; exact .cons (.tuple (h1 _ m) (h2 _ m') (.cons .int (.cons .int .nil))) (PairsOf.alike h1 h2 t t')
  | [], _, _ :: _, H, _ => H.elim
  | _ :: _, _, [], H, _ => H.elim
  | _, [], _ :: _, _, H => H.elim
  | _, _ :: _, [], _, H => H.elim
theorem pickTake {vs : List Value} {k : Int} (h : 0 ≤ k) : kms_pick vs.toArray.toList none (some k) = vs.take k.toNat := by
  have h0 : ¬ k < 0 := by omega
  simp only [kms_pick, kms_lo, kms_hi, if_neg h0, List.drop_zero, Nat.sub_zero]
  rcases Nat.le_total k.toNat vs.length with e | e
  · rw [Nat.min_eq_left e]
  · rw [Nat.min_eq_right e, List.take_length, List.take_of_length_le e]
theorem size3 {vs : List Value} (h : vs.length = 3) : vs.toArray.size ≤ sizeLine := by
  rw [List.size_toArray, h]; exact Nat.le_of_ble_eq_true rfl
theorem newsFront {h₀ : Heap} {L : Addr} {h : Heap} {e : Addr × Obj} {led : List (Addr × Obj)} (front : List (Addr × Obj)) (N : News h₀ L h (front ++ e :: led)) : News h₀ L h (e :: (front ++ led)) := fun p hp => N p (by
  rcases List.mem_cons.mp hp with rfl | hp
  · exact List.mem_append_right _ (.head _)
  · rcases List.mem_append.mp hp with hp | hp
    · exact List.mem_append_left _ hp
    · exact List.mem_append_right _ (.tail _ hp))
theorem newsMid {h₀ : Heap} {L : Addr} {h : Heap} {z a b c : Addr × Obj} {led added : List (Addr × Obj)} (N : News h₀ L h (z :: (added ++ a :: b :: c :: led))) : News h₀ L h (z :: a :: b :: c :: (added ++ led)) := fun p hp => N p (by
  simp only [List.mem_cons, List.mem_append] at hp ⊢
  rcases hp with h | h | h | h | h | h <;> simp only [h, true_or, or_true])
theorem off1M {D : Addr} : ∀ {l : List (Addr × Obj)}, LCg.Off1 D l → ∀ p ∈ l, @Ne Nat p.1 D
  | [], _, _, h => nomatch h
  | _ :: _, x, p, h => by
    rcases List.mem_cons.mp h with rfl | h
    · exact x.1
    · exact off1M x.2 p h
theorem allLtM {d : Addr} : ∀ {l : List (Addr × Obj)}, AllLt d l → ∀ p ∈ l, @LT.lt Nat _ p.1 d
  | [], _, _, h => nomatch h
  | _ :: _, x, p, h => by
    rcases List.mem_cons.mp h with rfl | h
    · exact x.1
    · exact allLtM x.2 p h
theorem PairsOf.len {led : List (Addr × Obj)} : ∀ {vs : List Value} {ps : List (Int × Int)}, PairsOf led vs ps → vs.length = ps.length
  | [], [], _ => rfl
  | _ :: _, _ :: _, ⟨_, t⟩ => by rw [List.length_cons, List.length_cons, PairsOf.len t]
  | [], _ :: _, H => H.elim
  | _ :: _, [], H => H.elim
theorem PairsOf.at {led : List (Addr × Obj)} : ∀ {vs : List Value} {ps : List (Int × Int)}, PairsOf led vs ps → ∀ (i : Nat) v, vs[i]? = some v → ∃ q p s r, v = .ref q ∧ (q, tupO #[.int p.1 s, .int p.2 r]) ∈ led ∧ ps[i]? = some p
  | _ :: _, p0 :: _, ⟨⟨q, s, r, e, m⟩, _⟩, 0, v, hv => ⟨q, p0, s, r, by rw [← e]; exact (Option.some.inj (by simpa using hv)).symm, m, rfl⟩
  | _ :: _, _ :: _, ⟨_, t⟩, i + 1, v, hv => PairsOf.at t i v (by simpa using hv)
  | [], _, _, i, v, hv => by simp at hv
  | _ :: _, [], H, _, _, _ => H.elim
theorem PairsOf.snoc {led : List (Addr × Obj)} {q : Addr} {p : Int × Int} {s r : Tok} (hm : (q, tupO #[.int p.1 s, .int p.2 r]) ∈ led) : ∀ {vs : List Value} {ps : List (Int × Int)}, PairsOf led vs ps → PairsOf led (vs ++ [.ref q]) (ps ++ [p])
  | [], [], _ => ⟨⟨q, s, r, rfl, hm⟩, trivial⟩
  | _ :: _, _ :: _, ⟨a, t⟩ => ⟨a, PairsOf.snoc hm t⟩
  | [], _ :: _, H => H.elim
  | _ :: _, [], H => H.elim
theorem comp_indP {prog : Program} {w : World} {A : Around} {s : Shared} {h₀ : Heap} {L : Addr} {m : Str → Option Value} {env : Env} {elt : Expr} {x x₂ : Str} {scope : Scope} {cl : List (Str × Addr)} {S : List (Addr × Obj) → Prop} {P : Nat → Value → Prop} {Fin : List Value → List (Addr × Obj) → Prop} {n : Nat} {news : List (Addr × Obj)}
    (J : Nat → List Value → List (Addr × Obj) → Prop) (j0 : J 0 [] news)
    (step : ∀ i ys news, i < n → J i ys news → ∀ v, P i v → ∃ (t : Addr) (ot : Obj) (v₁ v₂ : Value) (nt : Nat), v = .ref t ∧ (t, ot) ∈ news ∧ ot.cls = .type "tuple" ∧ ot.data = .seq #[v₁, v₂] nt ∧
      ∀ I oI C oC D m₂ h tk (E' : Value → Shared → Prop), LCg.NsObj oC m₂ → m₂ x = some v₁ → m₂ x₂ = some v₂ → Fr h₀ L h m → News h₀ L h ((I, oI) :: (C, oC) :: (D, LCg.lst ys) :: news) → LCg.Off3 I C D news → ((@Ne Nat I C) ∧ (@Ne Nat I D) ∧ (@Ne Nat C D)) →
      wpAny (model prog w) A (eval elt (compEnvC scope cl C env)) (LCg.CompEnd h₀ L m { s with heap := h, toks := tk } I oI C oC D (LCg.lst ys) S (fun y news' => J (i + 1) (ys ++ [y]) news')) E' { s with heap := h, toks := tk })
    (fin : ∀ ys news, J n ys news → Fin ys news) :
    LCp.CompRestP prog w A h₀ L m env elt x x₂ scope cl s S P Fin n 0 [] news := by
  have all : ∀ k i ys news, k + i = n → J i ys news → LCp.CompRestP prog w A h₀ L m env elt x x₂ scope cl s S P Fin k i ys news := by
    intro k
    induction k with
    | zero =>
      intro i ys news e hj
      refine LCp.CompRestP.zero (fin ys news ?_)
      have : i = n := by omega
      rw [← this]; exact hj
    | succ k ih =>
      intro i ys news e hj
      refine LCp.CompRestP.succ (fun v hv => ?_)
      obtain ⟨t, ot, v1, v2, nt, h1, h2, h3, h4, f⟩ := step i ys news (by omega) hj v hv
      refine ⟨t, ot, v1, v2, nt, h1, h2, h3, h4, fun I oI C oC D m₂ h tk E' hC hx hx' F N off ne => ?_⟩
      refine wpAny_mono (f I oI C oC D m₂ h tk E' hC hx hx' F N off ne) (fun y s₂ p => ?_) fun _ _ e => e
      obtain ⟨h', tk', news', e', F', N', off', hS, hJ⟩ := p
      exact ⟨h', tk', news', e', F', N', off', hS, ih (i + 1) _ _ (by omega) hJ⟩
  exact all n 0 [] news (by omega) j0
def PJ (LED : List (Addr × Obj)) (b : Addr) (ps : List (Int × Int)) (i : Nat) (ys : List Value) (nw : List (Addr × Obj)) : Prop := ∃ added, nw = added ++ LED ∧ (∀ p ∈ added, @LT.lt Nat _ b p.1) ∧ PairsOf added ys (ps.take i)
theorem sizeLe3 {vs : List Value} (h : vs.length ≤ 3) : vs.toArray.size ≤ sizeLine := by
  rw [List.size_toArray]; exact Nat.le_trans h (Nat.le_of_ble_eq_true rfl)
section
local macro_rules | `(tactic| walk_at "my none") => `(tactic| skip)
local macro_rules | `(tactic| walk_at "SrcLP") => `(tactic| (k_here; refine' Halt.go ?_))
local macro_rules | `(tactic| k_all) => `(tactic| with_reducible assumption)
theorem mkch_does {w : World} {mean mg mb} {led : List (Addr × Obj)} {D : Addr} {n : Nat} {zs : List Value} {ps : List (Int × Int)} {tr : Int} {tt : Tok} {cx : Array UInt8} {ct : Tok} (hD : ∀ p ∈ led, p.1 < D) (hz : zs.length ≤ 3) (hP : PairsOf led zs ps) :
    Does w mean mg mb 6 297 ((D, listOf zs.toArray n) :: led) [.int tr tt, .ref D, .bytes cx ct] (fun v tl => ∃ c d l' vs' n' k1 k2 k3 led6, v = .ref c ∧ tl = (D, listOf zs.toArray n) :: led6 ∧ (∀ p ∈ led, p ∈ led6) ∧ (∀ p ∈ led6, p.1 ≠ D) ∧ (c, instObj 297 d) ∈ led6 ∧ (d, ccD w.params k1 k2 k3 tr tt l' cx ct) ∈ led6 ∧ (l', listOf vs'.toArray n') ∈ led6 ∧ PairsOf led6 vs' ps ∧ vs'.length = zs.length) := by
  unfold Does
  k_fill
  intro dp un gd cn cs a ccd cl outer A₀ base h₀ L m s Q E B F X N T hk hdp hun hret
  have kM := kstMark
  k_dflt (refine' call_cls ?k1 ?k2 ?k3 ?k4 ?k5 ?k6 ?_; (case k1 => k_asm); (case k2 => k_asm); (case k3 => k_asm); (case k4 => k_is); (case k5 => k_is); (case k6 => k_is); k_whole; intro x' d' h' F' N' ll1 ll2; (have ll3 := ll1); (try k_lt ll1); (try k_lt2 ll2); (try k_sweep); ktr_enter)
  k_steps
  refine Halt.go' ?_
  rename News _ _ _ _ => N5
  k_dflt (refine LCp.SrcLP.ledger (by rfl) (by k_asm) N5 (.tail _ (.tail _ (.head _))) (sizeLe3 hz) ?_)
  intro g5
  refine comp_indP (PJ _ x' ps) ⟨[], rfl, (fun _ h => nomatch h), trivial⟩ ?_ ?_
  · rintro i ys nw hin ⟨added, rfl, hA, hPA⟩ v hv
    obtain ⟨q, p, s1, r1, rfl, hq, hp⟩ := hP.at i v (by simpa using hv)
    refine ⟨q, _, _, _, _, rfl, List.mem_append_right _ (.tail _ (.tail _ (.tail _ hq))), rfl, rfl, ?_⟩
    intro I oI C oC Dl m₂ h tk E' hC hx1 hx2 F5 N6 off ne
    clear N5
    k_steps
    rename _ ∧ _ ∧ _ ∧ AllLt _ _ => l1
    refine comp_end_1 (by k_asm) (by k_asm) l1 off (Or.inr ⟨_, .tail _ (List.mem_append_right _ (.tail _ (.tail _ (.head _)))), rfl, _, rfl⟩) ⟨(_, _) :: added, rfl, List.forall_mem_cons.mpr ⟨allLtM l1.2.2.2 (x', _) (List.mem_append_right _ (.head _)), hA⟩, ?_⟩
    rw [show ps.take (i + 1) = ps.take i ++ [p] by simp [List.take_add_one, hp]]
    exact PairsOf.snoc (.head _) (hPA.mono fun p hp => .tail _ hp)
  · rintro ys nw ⟨added, rfl, hA, hPA⟩
    rw [show zs.toArray.size = ps.length by rw [List.size_toArray, hP.len], List.take_length] at hPA
    unfold LCg.FinE
    intro Zl h6 tk6 F6 N6 o1
    have z1 : @Ne Nat x' Zl := off1M o1 (x', _) (List.mem_append_right _ (.head _))
    have z2 : @Ne Nat d' Zl := off1M o1 (d', _) (List.mem_append_right _ (.tail _ (.head _)))
    have z3 : @Ne Nat D Zl := off1M o1 (D, _) (List.mem_append_right _ (.tail _ (.tail _ (.head _))))
    have e1 : ∀ p ∈ added ++ led, p.1 ≠ d' := List.forall_mem_append.mpr ⟨fun p hp => by have h1 := hA p hp; k_ne, fun p hp => by have h1 := ltN (hD p hp); k_ne⟩
    have e2 : ∀ p ∈ added ++ led, p.1 ≠ D := List.forall_mem_append.mpr ⟨fun p hp => by have h1 := hA p hp; k_ne, fun p hp => by have h1 := ltN (hD p hp); k_ne⟩
    refine (fun (key : ∀ led7, News _ _ _ ((Zl, _) :: (x', _) :: (d', _) :: (D, _) :: led7) → (∀ p ∈ led, p ∈ led7) → PairsOf led7 ys ps → (∀ p ∈ led7, p.1 ≠ d') → (∀ p ∈ led7, p.1 ≠ D) → _) =>
      key (added ++ led) (newsMid N6) (fun p hp => List.mem_append_right _ hp) (hPA.mono fun p hp => List.mem_append_left _ hp) e1 e2) ?_
    clear e1 e2 N6 o1 hPA hA N5
    intro led7 N7 hs7 hP7 hd7 hD7
    k_steps
    refine' hret _ _ _ _ ⟨_, _, _, _, _, _, _, _, _, rfl, rfl, ?s0, ?n0, ?c0, ?d0, ?l0, ?P0, ?z0⟩ ?F0 ?N0
    case F0 => k_asm
    case N0 => exact newsFront [_, _, _] (by k_asm)
    case s0 => exact fun p hp => List.mem_append_right _ (hs7 p hp)
    case n0 => exact List.forall_mem_append.mpr ⟨by k_all, hD7⟩
    case c0 => (repeat (first | exact List.Mem.head _ | apply List.Mem.tail))
    case l0 => (repeat (first | exact List.Mem.head _ | apply List.Mem.tail))
    case d0 => (repeat (first | exact List.Mem.head _ | apply List.Mem.tail))
    case P0 => exact hP7.mono (fun p hp => List.mem_append_right _ hp)
    case z0 => exact hP7.len.trans hP.len.symm
end
theorem tupleLv {prog : Program} {w : World} {A : Around} {E : Value → Shared → Prop} {s : Shared} {h₀ : Heap} {L l : Addr} {m : Str → Option Value} {news : List (Addr × Obj)} {vs : List Value} {n : Nat} {Q : Value → Shared → Prop} (F : Fr h₀ L s.heap m) (N : News h₀ L s.heap news) (hm : (l, listOf vs.toArray n) ∈ news) (h2 : vs.length ≤ 3)
    (h : ∀ D h', Fr h₀ L h' m → News h₀ L h' ((D, tupO vs.toArray) :: news) → (∀ p ∈ news, p.1 < D) → Q (.ref D) { s with heap := h' }) : wpAny (model prog w) A (call (.type "tuple") [.ref l]) Q E s :=
  kde_tupleOf F N ⟨_, (N _ hm).1, rfl, n, rfl⟩ (by rw [List.size_toArray]; omega) rfl h
theorem slice_take {prog : Program} {w : World} {A : Around} {E : Value → Shared → Prop} {s : Shared} {h₀ : Heap} {L l : Addr} {m : Str → Option Value} {news : List (Addr × Obj)} {value slice : PySem.Expr} {vs : List Value} {n : Nat} {k : Int} {u : Tok} {Q : Value → Shared → Prop} (F : Fr h₀ L s.heap m) (N : News h₀ L s.heap news) (hm : (l, listOf vs.toArray n) ∈ news) (h3 : vs.length = 3) (hk : 0 ≤ k)
    (h : ∀ D h', Fr h₀ L h' m → News h₀ L h' ((D, listOf (vs.take k.toNat).toArray 0) :: news) → (∀ p ∈ news, p.1 < D) → Q (.ref D) { s with heap := h' })
    (hs : subscripted slice false (.ref l) (.ref s.heap.objs.size) = operate [.ref s.heap.objs.size, .ref l] (getItem (.ref l) (.ref s.heap.objs.size))) (ht : ∀ r, letTemporaryGo value (.ref l) r = pure ()) :
    wpAny (model prog w) A (subscriptTail value slice (.ref l) (.ref s.heap.objs.size)) Q E { s with heap := s.heap.push { cls := .type "slice", data := .fields #[.none, .int k u, .none] } } :=
  kms_slice_lit F N ⟨_, (N _ hm).1, rfl, n, rfl⟩ IsPart.none (IsPart.int _ _) (pickTake hk) h hs ht (size3 h3)
theorem newsSub {h₀ : Heap} {L : Addr} {h : Heap} {l5 l6 : List (Addr × Obj)} (N : News h₀ L h l6) (s : ∀ p ∈ l5, p ∈ l6) : News h₀ L h l5 := fun p hp => N p (s p hp)
local macro_rules | `(tactic| walk_at "call type:tuple") => `(tactic| (k_here; (with_reducible show wpAny _ _ (call (Value.type _) [Value.ref _]) _ _ _); k_dflt (refine' tupleLv ?k1 ?k2 ?k3 ?k4 ?_; (case k1 => k_asm); (case k2 => k_asm); (case k3 => k_mem); (case k4 => assumption); k_whole); intro D' h' F' N' l1; (try k_lt l1); (try k_sweep)))
theorem chrow_does {w : World} {mean mg mb} {news} {c d l : Addr} {k1 k2 k3} {tr : Int} {tt cx ct} {vs : List Value} {n : Nat} (hv : vs.length ≤ 3) (hc : (c, instObj 297 d) ∈ news) (hdd : (d, ccD w.params k1 k2 k3 tr tt l cx ct) ∈ news) (hl : (l, listOf vs.toArray n) ∈ news) :
    Does w mean mg mb 4 280 news [.ref c] (fun v tl => ∃ r p, v = .ref r ∧ tl = (r, tupO #[.int tr tt, .ref p, .bytes cx ct]) :: (p, tupO vs.toArray) :: news) := by
  unfold Does
  k_fill
  intro dp un gd cn cs a ccd cl outer A₀ base h₀ L m s Q E B F X N T hk hdp hun hret
  refine wpAny_call ?_
  k_dflt ktr_enter
  have kM := kstMark
  k_steps
  exact hret _ _ _ _ ⟨_, _, rfl, rfl⟩ (by k_asm) (by k_asm)
end
section
variable {w : World} {mean : ExcName → Option Value} {mg mb : Str → Option Value} {news : List (Addr × Obj)} {dp un : Nat} {gd : Option (List Code)} {cn : Str} {cs : Scope} {a₁ : Addr} {ccd : Value} {cl : List (Str × Addr)} {outer : List Env} {A₀ : Around} {base h₀ hp : Heap} {gn : Array GenState} {dr : Drawn} {tk : Nat} {os : OsState} {L : Addr} {m : Str → Option Value} {Q E : Value → Shared → Prop}
theorem chrow_step {c d l : Addr} {k1 k2 k3 : Tok} {tr : Int} {tt : Tok} {cx : Array UInt8} {ct : Tok} {vs : List Value} {n : Nat} (B : Below A₀ base outer h₀ := by k_asm) (F : Fr h₀ L hp m := by k_asm) (X : (hd.heap_1 w.params).In h₀ := by k_asm) (N : News h₀ L hp news := by k_asm)
    (hc : (c, instObj 297 d) ∈ news := by k_mem) (hdd : (d, ccD w.params k1 k2 k3 tr tt l cx ct) ∈ news := by k_mem) (hl : (l, listOf vs.toArray n) ∈ news := by k_mem) (hv : vs.length ≤ 3 := by assumption) (T : Top hd.view_1 (looseW hd.view_1 []) mean mg mb h₀ := by k_asm) (hk : cs.kind = .function := by first | exact rfl | assumption) (hdp : dp + 4 < recursionLimit := by ktr_room) (hun : un + 8 * 4 + 100 < cLine := by ktr_units)
    (ret : ∀ r p h' tk', Fr h₀ L h' m → News h₀ L h' ((r, tupO #[.int tr tt, .ref p, .bytes cx ct]) :: (p, tupO vs.toArray) :: news) → Q (.ref r) ⟨h', gn, dr, tk', os⟩) :
    wpAny (model PySem.Challenge.rw_xw0262_01.row.toRowW.prog w) (ktrTop dp un gd cn cs L a₁ ccd cl outer) (call (.ref 280) [.ref c]) Q E ⟨hp, gn, dr, tk, os⟩ :=
  does_use (s := ⟨hp, gn, dr, tk, os⟩) (chrow_does hv hc hdd hl) B F X N T hk hdp hun (fun _ _ h' tk' hR F' N' => by
    obtain ⟨r, p, e1, e2⟩ := hR; subst e1; subst e2; exact ret r p h' tk' F' N')
theorem mkch_step {led : List (Addr × Obj)} {D S : Addr} {oS : Obj} {n : Nat} {zs : List Value} {ps : List (Int × Int)} {tr : Int} {tt : Tok} {cx : Array UInt8} {ct : Tok} {cnt : Int} (B : Below A₀ base outer h₀ := by k_asm) (F : Fr h₀ L hp m := by k_asm) (X : (hd.heap_1 w.params).In h₀ := by k_asm) (N : News h₀ L hp ((D, listOf zs.toArray n) :: led) := by k_asm)
    (hS : (S, oS) ∈ led := by assumption) (hD : ∀ p ∈ led, p.1 < D := by assumption) (hP : PairsOf led zs ps := by assumption) (hz : (zs.length : Int) = cnt := by assumption) (hz3 : zs.length ≤ 3 := by assumption) (T : Top hd.view_1 (looseW hd.view_1 []) mean mg mb h₀ := by k_asm) (hk : cs.kind = .function := by first | exact rfl | assumption) (hdp : dp + 6 < recursionLimit := by ktr_room) (hun : un + 8 * 6 + 100 < cLine := by ktr_units)
    (ret : ∀ c d l' vs' n' k1 k2 k3 led6 h' tk', (S, oS) ∈ led6 → PairsOf led6 zs ps → (∀ p ∈ led, p ∈ led6) → (∀ p ∈ led6, p.1 ≠ D) → (c, instObj 297 d) ∈ led6 → (d, ccD w.params k1 k2 k3 tr tt l' cx ct) ∈ led6 → (l', listOf vs'.toArray n') ∈ led6 → PairsOf led6 vs' ps → (vs'.length : Int) = cnt → vs'.length ≤ 3 → Fr h₀ L h' m → News h₀ L h' ((D, listOf zs.toArray n) :: led6) → Q (.ref c) ⟨h', gn, dr, tk', os⟩) :
    wpAny (model PySem.Challenge.rw_xw0262_01.row.toRowW.prog w) (ktrTop dp un gd cn cs L a₁ ccd cl outer) (call (.ref 297) [.int tr tt, .ref D, .bytes cx ct]) Q E ⟨hp, gn, dr, tk, os⟩ :=
  does_use (s := ⟨hp, gn, dr, tk, os⟩) (mkch_does hD hz3 hP) B F X N T hk hdp hun (fun _ _ h' tk' hR F' N' => by
    obtain ⟨c, d, l', vs', n', k1, k2, k3, led6, e1, e2, q1, q2, q3, q4, q5, q6, q7⟩ := hR; subst e1; subst e2; exact ret c d l' vs' n' k1 k2 k3 led6 h' tk' (q1 _ hS) (hP.mono q1) q1 q2 q3 q4 q5 q6 (by rw [q7]; exact hz) (by rw [q7]; exact hz3) F' N')
theorem change_step {c d l : Addr} {k1 k2 k3 tt tu tv : Tok} {tr cnt : Int} {cx : Array UInt8} {ct : Tok} {vs : List Value} {n : Nat} (B : Below A₀ base outer h₀ := by k_asm) (F : Fr h₀ L hp m := by k_asm) (X : (hd.heap_1 w.params).In h₀ := by k_asm) (N : News h₀ L hp news := by k_asm)
    (hc : (c, instObj 297 d) ∈ news := by k_mem) (hdd : (d, ccD w.params k1 k2 k3 tr tt l cx ct) ∈ news := by k_mem) (hl : (l, listOf vs.toArray n) ∈ news := by k_mem) (hcnt : (vs.length : Int) = cnt := by assumption) (hv : vs.length ≤ 3 := by assumption) (ht0 : -4294967296 ≤ tr := by assumption) (ht1 : tr ≤ 4294967296 := by assumption)
    (T : Top hd.view_1 (looseW hd.view_1 []) mean mg mb h₀ := by k_asm) (XB : (hd.heap_1 w.params).In base := by assumption) (TB : Top hd.view_1 (looseW hd.view_1 []) mean mg mb base := by assumption) (DD : KtsDicts (outer.filterMap (·.frame)) h₀ := by assumption) (hk : cs.kind = .function := by first | exact rfl | assumption) (hdp : dp + 9 < recursionLimit := by ktr_room) (hun : un + 8 * 9 + 100 < cLine := by ktr_units)
    (ret : ∀ h' tk' h₀', KtsTurn (outer.filterMap (·.frame)) h₀ h₀' → Fr h₀' L h' m → News h₀' L h' news → Below A₀ base outer h₀' → (hd.heap_1 w.params).In h₀' → Top hd.view_1 (looseW hd.view_1 []) mean mg mb h₀' → KtsDicts (outer.filterMap (·.frame)) h₀' → Q (.bool true) ⟨h', gn, dr, tk', os⟩) :
    wpAny (model PySem.Challenge.rw_xw0262_01.row.toRowW.prog w) (ktrTop dp un gd cn cs L a₁ ccd [] outer) (call (.ref 355) [.ref c, .int tr tu, .int cnt tv]) Q E ⟨hp, gn, dr, tk, os⟩ :=
  doesC_use (s := ⟨hp, gn, dr, tk, os⟩) (change_does w mean mg mb news c d l k1 k2 k3 tr tt tu tv cx ct vs n cnt hcnt hv hc hdd hl ⟨ht0, ht1⟩) B F X N T XB TB DD KtsTurn.refl hk hdp hun (fun _ _ h' tk' h₀' hR t1 F' N' b1 x1 p1 d1 => by
    obtain ⟨e1, e2⟩ := hR; subst e1; subst e2; exact ret h' tk' h₀' t1 F' N' b1 x1 p1 d1)
end
section

local macro_rules | `(tactic| walk_at "UnrEnd") => `(tactic| (k_here; refine' Halt.go ?_))
local macro_rules | `(tactic| walk_at "exec For Name Call cons nil") => `(tactic| (k_here; refine' Halt.go ?_))
local macro_rules | `(tactic| walk_at "exec For Name List cons nil") => `(tactic| (k_here; refine' Halt.go ?_))
local macro_rules | `(tactic| walk_at "execs cons") => `(tactic| (k_here; (with_reducible refine gtk ?_); intro tk))
local macro_rules | `(tactic| walk_at "execs nil") => `(tactic| (k_here; (with_reducible refine gtk ?_); intro tk))

local macro_rules | `(tactic| walk_at "call builtin:list.append") => `(tactic| (k_here; (with_reducible show wpAny _ _ (call (Value.builtin _) [Value.ref _, _]) _ _ _); k_dflt (refine' append_K ?k1 ?k2 ?k3 ?_ ?z; (case k1 => k_asm); (case k2 => k_asm); (case k3 => k_upd); (case z => first | exact Nat.le_of_ble_eq_true rfl | size_fits)); intro h' F' N'; (try k_sweep)))
local macro_rules | `(tactic| walk_at "CompEnd") => `(tactic| (k_here; k_dflt (refine' comp_end_1 ?F ?N ?l ?o ?S ?_; (case F => k_asm); (case N => k_asm); (case l => assumption); (case o => assumption); (case S => exact Or.inr ⟨_, by k_mem, rfl, _, rfl⟩))))
local macro_rules | `(tactic| walk_at "my sub") => `(tactic| (k_here; (with_reducible show wpAny _ _ (subscriptTail _ _ (Value.ref _) (Value.int (Int.fmod _ _) _)) _ _ _); k_dflt (first | (refine' menuIn (-1) 4294967296 (h := ?_)) | (refine' menuIn 0 1099511627776 (h := ?_)) | (refine' menuBy 1 (h := ?_)))))
local macro_rules | `(tactic| walk_at "call type:tuple") => `(tactic| (k_here; (with_reducible show wpAny _ _ (call (Value.type _) [Value.ref _]) _ _ _); k_dflt (refine' tupleLv ?k1 ?k2 ?k3 ?k4 ?_; (case k1 => k_asm); (case k2 => k_asm); (case k3 => k_mem); (case k4 => assumption); k_whole); intro D' h' F' N' l1; (try k_lt l1); (try k_sweep)))
local macro_rules | `(tactic| walk_at "call ref") => `(tactic| (k_here; (with_unfolding_all show wpAny _ _ (call (Value.ref 280) [Value.ref _]) _ _ _); k_dflt (refine' chrow_step (ret := ?_); k_whole); intro _ _ _ _ _ _; walk_at "swp"))
local macro_rules | `(tactic| walk_at "call ref") => `(tactic| (k_here; (with_unfolding_all show wpAny _ _ (call (Value.ref 297) [Value.int _ _, Value.ref _, Value.bytes _ _]) _ _ _); k_dflt (refine' mkch_step (ret := ?_); k_whole); intro c' d' l' vs' n' k1' k2' k3' led6' h' tk' _ _ _ _ _ _ _ _ _ _ F' N'; walk_at "swp"))
local macro_rules | `(tactic| walk_at "call ref") => `(tactic| (k_here; (with_unfolding_all show wpAny _ _ (call (Value.ref 355) [Value.ref _, Value.int _ _, Value.int _ _]) _ _ _); k_dflt (refine' change_step (ret := ?_); k_whole); intro h' tk' g' T' F' N' B' X' P' D'; (try dsimp only); (try k_lift B'); (try k_sweep)))
local macro_rules | `(tactic| walk_at "subscriptTail Name Slice ref ref") => `(tactic| (k_here; (with_reducible show wpAny _ _ (subscriptTail _ (PySem.Expr.Slice _ _ none _) (Value.ref _) (Value.ref _)) _ _ _); k_dflt (refine' slice_take ?F ?N ?m ?c ?p ?_ ?s ?t; (case F => k_asm); (case N => k_asm); (case m => k_mem); (case c => assumption); (case p => assumption); (case s => with_unfolding_all rfl); (case t => kmk_pure)); intro D' h' F' N' l1; (try k_sweep)))
local macro_rules | `(tactic| k_all) => `(tactic| with_reducible assumption)
local macro_rules | `(tactic| ktr_rel) => `(tactic| (refine' PairsOf.alike ?a ?b ?c ?d; (case c => assumption); (case d => assumption); (case a => exact fun p hp => by (repeat (first | exact hp | apply List.Mem.tail))); (case b => exact fun p hp => by (repeat (first | exact hp | apply List.Mem.tail)))))
local macro_rules | `(tactic| walk_at "my news") => `(tactic| ((rename News _ _ _ _ => nE); (repeat (first | exact nE | exact newsSub nE (by assumption) | replace nE := newsT nE))))
theorem changes_does (w : World) (mean mg mb) (l : Addr) (xs : List Int) (vs : List Value) (n : Nat) (hi : IntsAre vs xs) (hne : 0 < xs.length) (hlen : xs.length ≤ 11)
    (hb : ∀ x ∈ xs, 0 ≤ x ∧ x < 999983) :
    DoesT w mean mg mb 14 362 [(l, listOf vs.toArray n)] [.ref l] (fun v tl => v = .bool true ∧ tl = [(l, listOf vs.toArray n)]) := by
  unfold DoesT
  k_fill
  intro dp un gd cn cs a ccd A₀ base h₀ L m s Q E B F X N T XB TB hk hdp hun hret
  refine wpAny_call ?_
  have kM := kstMark
  k_dflt (refine' code_defS0 B F X N T rfl ?ho ?hcd ?hroom ?hbind ?hloc ?_ hk ?c2 ?c3 ?c4 ?hcell; (case ho => k_is); (case hcd => k_is); (case hroom => ktr_room); (case hbind => exact BindsTo.of_eq rfl); (case hloc => exact locs rfl); (case hcell => decide); (case c2 => exact rfl); (case c3 => exact rfl); (case c4 => exact rfl))
  intro g L' h' FG F' N' B' X' T' D'
  dsimp only
  obtain ⟨fs, hfsE⟩ : ∃ fs, fs = [envOf cn cs L a ccd].filterMap (·.frame) := ⟨_, rfl⟩
  have hfs : ∀ b ∈ fs, ∃ o, g.get? b = some o := fun b hb => by
    obtain ⟨o, _, _, ho, _⟩ := D' b (hfsE ▸ hb)
    exact ⟨o, ho⟩
  k_steps
  refine Halt.go' ?_
  rename Fr _ _ _ _ => F8
  k_dflt (refine' For_invVF (frF_hide (KtsTurn.refl (fs := fs) (g := g)) F8) ?a ?b ?_; (case a => exact rfl); (case b => exact rfl))
  k_steps
  refine Halt.go' ?_
  rename IsRange _ _ _ _ _ _ _ _ => rg
  rename News _ _ _ _ => N8
  rename Fr _ _ _ _ => F8
  with_unfolding_all refine range_slotF (n := 2) (g := g) (fs := fs) [Str.ofString "steps", Str.ofString "j", Str.ofString "z", Str.ofString "context", Str.ofString "count", Str.ofString "transition", Str.ofString "lent", Str.ofString "change"] ?hL (by rfl) rg (by decide) (by rfl) hfs KtsTurn.refl F8 N8 ?_ ?_
  case hL => rfl
  · clear rg
    clear F8 N8
    intro ki kt u h7 tk7 led g' hk0 hk9 hsub T9 F9 N9
    have hl9 := hsub _ (show (l, listOf vs.toArray n) ∈ _ by k_mem)
    clear hsub
    have T9' := T9
    rw [hfsE] at T9'
    have B9 := below_turn B' T9'
    have X9 := XB.keeps B9.stays
    have P9 := TB.keeps B9.stays
    have D9 := D'.turn T9'
    clear X' T' FG
    k_steps
    refine Halt.go' ?_
    rename Fr _ _ _ _ => F8
    k_dflt (refine' For_invVF F8 ?a ?b ?_; (case a => exact rfl); (case b => exact rfl))
    k_steps
    refine Halt.go' ?_
    (try clear F8)
    rename IsRange _ _ _ _ _ _ _ _ => rg
    rename News _ _ _ _ => N8
    rename Fr _ _ _ _ => F8
    with_unfolding_all refine iter_rangeUnr (n := 3) (by rfl) rg (by decide) (by rfl) F8 N8 ?_
    clear rg F8 N8
    intro I hI
    have hI0 := allLt_of hI
    k_lt hI
    have hIl := hI.2
    refine RangeRest.succ (fun t0 h0 tk0 F0 N0 => ?_)
    replace F0 := frJ (k' := 0) (by rfl) F0
    k_steps
    refine Halt.go' ?_
    (try clear F0); (try clear N0)
    rename News _ _ _ _ => N8
    rename Fr _ _ _ _ => F8
    refine unrE F8 N8 (List.forall_mem_cons.mpr ⟨by k_ne, List.forall_mem_cons.mpr ⟨by k_ne, allNe2 hIl⟩⟩) ?_
    clear F8 N8
    refine RangeRest.succ (fun t1 h1 tk1 F1 N1 => ?_)
    replace F1 := frJ (k' := 1) (by rfl) F1
    k_steps
    refine Halt.go' ?_
    (try clear F1); (try clear N1)
    rename News _ _ _ _ => N8
    rename Fr _ _ _ _ => F8
    refine unrE F8 N8 (List.forall_mem_cons.mpr ⟨by k_ne, List.forall_mem_cons.mpr ⟨by k_ne, List.forall_mem_cons.mpr ⟨by k_ne, allNe2 hIl⟩⟩⟩) ?_
    clear F8 N8
    refine RangeRest.succ (fun t2 h2 tk2 F2 N2 => ?_)
    replace F2 := frJ (k' := 2) (by rfl) F2
    k_steps
    refine Halt.go' ?_
    (try clear F2); (try clear N2)
    rename News _ _ _ _ => N8
    rename Fr _ _ _ _ => F8
    refine unrE F8 N8 (List.forall_mem_cons.mpr ⟨by k_ne, List.forall_mem_cons.mpr ⟨by k_ne, List.forall_mem_cons.mpr ⟨by k_ne, List.forall_mem_cons.mpr ⟨by k_ne, allNe2 hIl⟩⟩⟩⟩) ?_
    clear F8 N8
    refine RangeRest.zero (fun h3 tk3 F3 N3 => ?_)
    k_steps
    refine Halt.go' ?_
    rename News _ _ _ _ => N8
    obtain ⟨led2, N9, vsS, psS, hS, hPS, hS3, hl2, hle⟩ : ∃ led2, News _ _ _ led2 ∧ ∃ vsS psS, (_, listOf vsS.toArray 3) ∈ led2 ∧ PairsOf led2 vsS psS ∧ vsS.length = 3 ∧ (l, listOf vs.toArray n) ∈ led2 ∧ ∀ p ∈ led, p ∈ led2 :=
      ⟨_, N8, [_, _, _], [(_, _), (_, _), (_, _)], by k_mem, ⟨⟨_, _, _, rfl, by k_mem⟩, ⟨_, _, _, rfl, by k_mem⟩, ⟨_, _, _, rfl, by k_mem⟩, trivial⟩, rfl, by k_mem, fun _ hp => .tail _ (.tail _ (.tail _ (.tail _ (.tail _ hp))))⟩
    clear N8
    rename Fr _ _ _ _ => F8
    have hfs' : ∀ b ∈ fs, ∃ o, g'.get? b = some o := fun b hb => by
      obtain ⟨o, ho⟩ := hfs b hb
      obtain ⟨sl, hs⟩ := T9.up ho
      exact ⟨_, hs⟩
    k_dflt (refine' For_invVF (frF_hide (KtsTurn.refl (fs := fs) (g := g')) F8) ?a ?b ?_; (case a => exact rfl); (case b => exact rfl))
    k_steps
    refine Halt.go' ?_
    rename IsRange _ _ _ _ _ _ _ _ => rg
    rename Fr _ _ _ _ => F8
    rename News _ _ _ _ => N8
    with_unfolding_all refine range_slotF (n := 4) (g := g') (fs := fs) [Str.ofString "transition", Str.ofString "lent", Str.ofString "change"] ?hL (by rfl) rg (by decide) (by rfl) hfs' KtsTurn.refl F8 N8 ?_ ?_
    case hL => rfl
    · (try clear N9); (try clear rg); (try clear F8); (try clear N8)
      intro kc kct u4 h4 tk4 led3 g4 hc0 hc4 hsub T10 F10 N10
      replace hS := hsub _ hS
      replace hPS := hPS.mono hsub
      replace hl2 := hsub _ hl2
      clear hsub
      have hfs4 : ∀ b ∈ fs, ∃ o, g4.get? b = some o := fun b hb => by
        obtain ⟨o, ho⟩ := hfs' b hb
        obtain ⟨sl, hs⟩ := T10.up ho
        exact ⟨_, hs⟩
      have hcn : kc ≤ 3 := by omega
      k_steps
      refine Halt.go' ?_
      rename Fr _ _ _ _ => F8
      k_dflt (refine' For_invVF (frF_hide (KtsTurn.refl (fs := fs) (g := g4)) F8) ?a ?b ?_; (case a => exact rfl); (case b => exact rfl))
      k_steps
      refine Halt.go' ?_
      (try clear F8)
      rename Fr _ _ _ _ => F8
      rename News _ _ _ _ => N8
      with_unfolding_all refine list_slotF (g := g4) (fs := fs) [Str.ofString "lent", Str.ofString "change"] ?hL (by rfl) (List.Mem.head _) hfs4 KtsTurn.refl F8 N8 ?_ ?_
      case hL => rfl
      · intro i5 v5 u5 h5 tk5 led5 g5 hi5 hsub T11 F11 N11
        have hT : ∃ x t, v5 = .int x t ∧ -4294967296 ≤ x ∧ x ≤ 4294967296 := by
          rcases i5 with _ | _ | _ | _ | i5
          · cases hi5; exact ⟨_, _, rfl, by omega, by omega⟩
          · cases hi5; exact ⟨_, _, rfl, by omega, by omega⟩
          · cases hi5; exact ⟨_, _, rfl, by omega, by omega⟩
          · cases hi5; exact ⟨_, _, rfl, by omega, by omega⟩
          · cases hi5
        obtain ⟨tr, tt, e5, htr0, htr1⟩ := hT
        subst e5
        replace hS := hsub _ (.tail _ hS)
        replace hPS := hPS.mono (fun p hp => hsub p (.tail _ hp))
        have hPz := hPS.take kc.toNat
        have hz : ((vsS.take kc.toNat).length : Int) = kc := by rw [List.length_take, hS3]; omega
        have hz3 : (vsS.take kc.toNat).length ≤ 3 := by rw [List.length_take, hS3]; omega
        clear hPS
        (try clear F8); (try clear N8); (try clear F10); (try clear N10); clear hsub hi5 hl2
        subst hfsE
        have B11 := below_turn (below_turn (below_turn B' T9) T10) T11
        have X11 := XB.keeps B11.stays
        have P11 := TB.keeps B11.stays
        have D11 := ((D'.turn T9).turn T10).turn T11
        clear B' D' T9'; (try clear B9); (try clear X9); (try clear P9); (try clear D9)
        k_steps
      · intro u5 h5 tk5 g5 T11 F11 N11
        (try clear F8); (try clear N8)
        k_steps
    · intro u4 h4 tk4 g4 T10 F10 N10
      replace N10 : News _ _ _ led := fun p hp => N10 p (hle p hp)
      (try clear F8); (try clear N8); (try clear rg)
      k_steps
  · intro u7 h7 tk7 g7 T9 F9 N9
    (try clear F8); (try clear N8); (try clear rg)
    subst hfsE
    k_steps
    refine hret _ [(l, listOf vs.toArray n)] _ _ ⟨rfl, rfl⟩ (by k_asm) ?_
    · ((rename News _ _ _ _ => nE); (repeat (first | exact nE | replace nE := newsT nE)))

end
section
theorem newsHead {h₀ : Heap} {L : Addr} {h : Heap} {p : Addr × Obj} {r : List (Addr × Obj)} (N : News h₀ L h (p :: r)) : News h₀ L h [p] := fun q hq => by rw [List.mem_singleton.mp hq]; exact N _ (.head _)
theorem doesT_use {w : World} {mean mg mb} {kk : Nat} {f : Addr} {news vs} {Res : Value → List (Addr × Obj) → Prop}
   {dp un : Nat} {gd : Option (List Code)} {cn : Str} {cs : Scope} {a : Addr} {ccd : Value} {A₀ : Around} {base h₀ : Heap} {L : Addr} {m : Str → Option Value} {s : Shared} {Q E : Value → Shared → Prop}
   (D : DoesT w mean mg mb kk f news vs Res)
   (B : Below A₀ base [] h₀) (F : Fr h₀ L s.heap m) (X : (hd.heap_1 w.params).In h₀) (N : News h₀ L s.heap news) (T : Top hd.view_1 (looseW hd.view_1 []) mean mg mb h₀) (XB : (hd.heap_1 w.params).In base) (TB : Top hd.view_1 (looseW hd.view_1 []) mean mg mb base) (hk : cs.kind = .function)
   (hd' : dp + kk < recursionLimit) (hu : un + 8 * kk + 100 < cLine)
   (ret : ∀ v tl h' tk', Res v tl → Fr h₀ L h' m → News h₀ L h' tl → Q v { s with heap := h', toks := tk' }) :
   wpAny (model PySem.Challenge.rw_xw0262_01.row.toRowW.prog w) (ktrTop dp un gd cn cs L a ccd [] []) (call (.ref f) vs) Q E s :=
  D _ _ _ _ _ _ _ _ _ _ _ _ _ _ _ B F X N T XB TB hk hd' hu ret
section
variable {w : World} {mean : ExcName → Option Value} {mg mb : Str → Option Value} {news : List (Addr × Obj)} {dp un : Nat} {gd : Option (List Code)} {cn : Str} {cs : Scope} {a₁ : Addr} {ccd : Value} {cl : List (Str × Addr)} {outer : List Env} {A₀ : Around} {base h₀ hp : Heap} {gn : Array GenState} {dr : Drawn} {tk : Nat} {os : OsState} {L : Addr} {m : Str → Option Value} {Q E : Value → Shared → Prop}
theorem hard_step {l : Addr} {vs : List Value} {n : Nat} {xs : List Int} (B : Below A₀ base outer h₀ := by k_asm) (F : Fr h₀ L hp m := by k_asm) (X : (hd.heap_1 w.params).In h₀ := by k_asm) (N : News h₀ L hp [(l, listOf vs.toArray n)] := by k_asm)
    (hi : IntsAre vs xs := by assumption) (hne : 0 < xs.length := by assumption) (hlen : xs.length ≤ 11 := by assumption) (hb : ∀ x ∈ xs, 0 ≤ x ∧ x < 999983 := by assumption) (T : Top hd.view_1 (looseW hd.view_1 []) mean mg mb h₀ := by k_asm) (hk : cs.kind = .function := by first | exact rfl | assumption) (hdp : dp + 10 < recursionLimit := by ktr_room) (hun : un + 8 * 10 + 100 < cLine := by ktr_units)
    (ret : ∀  h' tk', Fr h₀ L h' m → News h₀ L h' ([(l, listOf vs.toArray n)]) → Q (.bool true) ⟨h', gn, dr, tk', os⟩) :
    wpAny (model PySem.Challenge.rw_xw0262_01.row.toRowW.prog w) (ktrTop dp un gd cn cs L a₁ ccd cl outer) (call (.ref 341) [.ref l]) Q E ⟨hp, gn, dr, tk, os⟩ :=
  does_use (s := ⟨hp, gn, dr, tk, os⟩) (hard_does w mean mg mb l xs vs n hi hne hlen hb) B F X N T hk hdp hun (fun _ _ h' tk' hR F' N' => by
    obtain ⟨e1, e2⟩ := hR; subst e1; subst e2; exact ret h' tk' F' N')
theorem snap_step {l : Addr} {vs : List Value} {n : Nat} {xs : List Int} (B : Below A₀ base outer h₀ := by k_asm) (F : Fr h₀ L hp m := by k_asm) (X : (hd.heap_1 w.params).In h₀ := by k_asm) (N : News h₀ L hp [(l, listOf vs.toArray n)] := by k_asm)
    (hi : IntsAre vs xs := by assumption) (hne : 0 < xs.length := by assumption) (hlen : xs.length ≤ 11 := by assumption) (hb : ∀ x ∈ xs, 0 ≤ x ∧ x < 999983 := by assumption) (T : Top hd.view_1 (looseW hd.view_1 []) mean mg mb h₀ := by k_asm) (hk : cs.kind = .function := by first | exact rfl | assumption) (hdp : dp + 10 < recursionLimit := by ktr_room) (hun : un + 8 * 10 + 100 < cLine := by ktr_units)
    (ret : ∀  h' tk', Fr h₀ L h' m → News h₀ L h' ([(l, listOf vs.toArray n)]) → Q (.bool true) ⟨h', gn, dr, tk', os⟩) :
    wpAny (model PySem.Challenge.rw_xw0262_01.row.toRowW.prog w) (ktrTop dp un gd cn cs L a₁ ccd cl outer) (call (.ref 348) [.ref l]) Q E ⟨hp, gn, dr, tk, os⟩ :=
  does_use (s := ⟨hp, gn, dr, tk, os⟩) (snapshots_does w mean mg mb l xs vs n hi hne hlen hb) B F X N T hk hdp hun (fun _ _ h' tk' hR F' N' => by
    obtain ⟨e1, e2⟩ := hR; subst e1; subst e2; exact ret h' tk' F' N')
theorem changes_step {l : Addr} {vs : List Value} {n : Nat} {xs : List Int} (B : Below A₀ base [] h₀ := by k_asm) (F : Fr h₀ L hp m := by k_asm) (X : (hd.heap_1 w.params).In h₀ := by k_asm) (N : News h₀ L hp [(l, listOf vs.toArray n)] := by k_asm)
    (hi : IntsAre vs xs := by assumption) (hne : 0 < xs.length := by assumption) (hlen : xs.length ≤ 11 := by assumption) (hb : ∀ x ∈ xs, 0 ≤ x ∧ x < 999983 := by assumption) (T : Top hd.view_1 (looseW hd.view_1 []) mean mg mb h₀ := by k_asm) (XB : (hd.heap_1 w.params).In base := by assumption) (TB : Top hd.view_1 (looseW hd.view_1 []) mean mg mb base := by assumption) (hk : cs.kind = .function := by first | exact rfl | assumption) (hdp : dp + 14 < recursionLimit := by ktr_room) (hun : un + 8 * 14 + 100 < cLine := by ktr_units)
    (ret : ∀  h' tk', Fr h₀ L h' m → News h₀ L h' ([(l, listOf vs.toArray n)]) → Q (.bool true) ⟨h', gn, dr, tk', os⟩) :
    wpAny (model PySem.Challenge.rw_xw0262_01.row.toRowW.prog w) (ktrTop dp un gd cn cs L a₁ ccd [] []) (call (.ref 362) [.ref l]) Q E ⟨hp, gn, dr, tk, os⟩ :=
  doesT_use (s := ⟨hp, gn, dr, tk, os⟩) (changes_does w mean mg mb l xs vs n hi hne hlen hb) B F X N T XB TB hk hdp hun (fun _ _ h' tk' hR F' N' => by
    obtain ⟨e1, e2⟩ := hR; subst e1; subst e2; exact ret h' tk' F' N')
theorem kinds_step {i : Int} {t : Tok} {j : Int} {t' : Tok} (B : Below A₀ base [] h₀ := by k_asm) (F : Fr h₀ L hp m := by k_asm) (X : (hd.heap_1 w.params).In h₀ := by k_asm) (N : News h₀ L hp news := by k_asm)
    (h0 : 0 ≤ i := by assumption) (h1 : i < 1079173 := by assumption) (hj0 : 0 ≤ j := by assumption) (hj1 : j < 1079173 := by assumption) (T : Top hd.view_1 (looseW hd.view_1 []) mean mg mb h₀ := by k_asm) (XB : (hd.heap_1 w.params).In base := by assumption) (TB : Top hd.view_1 (looseW hd.view_1 []) mean mg mb base := by assumption) (hk : cs.kind = .function := by first | exact rfl | assumption) (hdp : dp + 10 < recursionLimit := by ktr_room) (hun : un + 8 * 10 + 100 < cLine := by ktr_units)
    (ret : ∀ tl h' tk', Fr h₀ L h' m → News h₀ L h' (tl) → Q (.bool true) ⟨h', gn, dr, tk', os⟩) :
    wpAny (model PySem.Challenge.rw_xw0262_01.row.toRowW.prog w) (ktrTop dp un gd cn cs L a₁ ccd [] []) (call (.ref 369) [.int i t, .int j t']) Q E ⟨hp, gn, dr, tk, os⟩ :=
  doesT_use (s := ⟨hp, gn, dr, tk, os⟩) (kinds_does w mean mg mb news i t h0 h1 j t' hj0 hj1) B F X N T XB TB hk hdp hun (fun _ _ h' tk' hR F' N' => by
    subst hR; exact ret _ h' tk' F' N')
end
def LInv (g : Heap) (L : Addr) (m0 : Str → Option Value) (s s' : Shared) : Prop :=
  ∃ h1 tk1 l vs n xs, s' = ⟨h1, s.gens, s.drawn, tk1, s.os⟩ ∧ Fr g L h1 (fun y => if y = Str.ofString "nums" then some (.ref l) else m0 y) ∧ News g L h1 [(l, listOf vs.toArray n)] ∧ IntsAre vs xs ∧ 0 < xs.length ∧ xs.length ≤ 11 ∧ ∀ x ∈ xs, (0 : Int) ≤ x ∧ x < 999983
theorem cut_law {M : Model} {A : Around} {env : Env} {s : Shared} {Q : Flow → Shared → Prop} {E : Value → Shared → Prop} {g : Heap} {L : Addr} {m0 : Str → Option Value} {a b : Stmt} {ys : List Stmt}
    (F : Fr g L s.heap m0) (h : Fr g L s.heap m0 → wpAny M A (execs [a, b] env) (fun a s' => match a with | .next => LInv g L m0 s s' | _ => False) E s)
    (h2 : ∀ h1 tk1 l vs n xs, Fr g L h1 (fun y => if y = Str.ofString "nums" then some (.ref l) else m0 y) → News g L h1 [(l, listOf vs.toArray n)] → IntsAre vs xs → 0 < xs.length → xs.length ≤ 11 → (∀ x ∈ xs, (0 : Int) ≤ x ∧ x < 999983) → wpAny M A (execs ys env) Q E ⟨h1, s.gens, s.drawn, tk1, s.os⟩) :
    wpAny M A (execs (a :: b :: ys) env) Q E s :=
  cut_execs (LInv g L m0 s) [a, b] (h F) (fun s' hi => by
    obtain ⟨h1, tk1, l, vs, n, xs, rfl, F1, N1, p1, p2, p3, p4⟩ := hi
    exact h2 h1 tk1 l vs n xs F1 N1 p1 p2 p3 p4)
local macro_rules | `(tactic| walk_at "execs cons") => `(tactic| (k_here; (with_reducible refine gtk ?_); intro tk))
local macro_rules | `(tactic| walk_at "execs nil") => `(tactic| (k_here; (with_reducible refine gtk ?_); intro tk))

local macro_rules | `(tactic| walk_at "my sub") => `(tactic| (k_here; (with_reducible show wpAny _ _ (subscriptTail _ _ (Value.ref _) (Value.int (Int.fmod _ _) _)) _ _ _); k_dflt (first | (refine' menuIn 1 300 (h := ?_)))))
local macro_rules | `(tactic| walk_at "call ref") => `(tactic| (k_here; (with_unfolding_all show wpAny _ _ (call (Value.ref 341) [Value.ref _]) _ _ _); k_dflt (refine' hard_step (ret := ?_); k_whole); intro _ _ _ _; walk_at "swp"))
local macro_rules | `(tactic| walk_at "call ref") => `(tactic| (k_here; (with_unfolding_all show wpAny _ _ (call (Value.ref 348) [Value.ref _]) _ _ _); k_dflt (refine' snap_step (ret := ?_); k_whole); intro _ _ _ _; walk_at "swp"))
local macro_rules | `(tactic| walk_at "call ref") => `(tactic| (k_here; (with_unfolding_all show wpAny _ _ (call (Value.ref 362) [Value.ref _]) _ _ _); k_dflt (refine' changes_step (ret := ?_); k_whole); intro _ _ _ _; walk_at "swp"))
local macro_rules | `(tactic| walk_at "call ref") => `(tactic| (k_here; (with_unfolding_all show wpAny _ _ (call (Value.ref 369) [Value.int _ _, Value.int _ _]) _ _ _); k_dflt (refine' kinds_step (ret := ?_); k_whole); intro _ _ _ _ _; walk_at "swp"))
local macro_rules | `(tactic| walk_at "exec For Name List cons nil") => `(tactic| (k_here; refine' Halt.go ?_))
set_option Elab.async true
theorem law_holds.tw17278066146493586357 : True := trivial
theorem law_holds.tw5389484754426515990 : True := trivial
theorem law_holds.tw9448578274616159529 : True := trivial
theorem law_holds.tw9960142351548082545 : True := trivial
theorem law_holds.tw15759456685926392790 : True := trivial
theorem law_holds.tw13720010993933535758 : True := trivial
theorem law_holds.tw6847655697494810383 : True := trivial
theorem law_holds.tw4581164400922460565 : True := trivial
theorem law_holds.tw15297231500560381522 : True := trivial
theorem law_holds.tw11575242352228052633 : True := trivial
theorem law_holds.tw16124956940837004246 : True := trivial
theorem law_holds.tw18221428039690301666 : True := trivial
theorem law_holds.tw11881114122080957857 : True := trivial
theorem law_holds.tw8570087061310353148 : True := trivial
theorem law_holds.tw11924911360389889469 : True := trivial
theorem law_holds.tw16063024586401919876 : True := trivial
theorem law_holds.tw13372777758803739583 : True := trivial
theorem law_holds.tw699380112222796084 : True := trivial
theorem law_holds.tw8909828626151137519 : True := trivial
theorem law_holds.tw13392613628428298086 : True := trivial
theorem law_holds.tw4464252984393422682 : True := trivial
theorem law_holds.tw3438298445031660282 : True := trivial
theorem law_holds.tw18135211599370774712 : True := trivial
theorem law_holds.tw15333956030411951890 : True := trivial
theorem law_holds.tw10362271348294423435 : True := trivial
theorem law_holds.tw3955097671198598788 : True := trivial
theorem law_holds.tw3896150654470677357 : True := trivial
theorem law_holds.tw17923851452625207687 : True := trivial
theorem law_holds.tw2078624436916829710 : True := trivial
theorem law_holds.tw17180001009569633970 : True := trivial
theorem law_holds.tw15512400803093757105 : True := trivial
theorem law_holds.tw981846192996546977 : True := trivial
theorem law_holds.tw16700892368766657466 : True := trivial
theorem law_holds.tw3184553860529739047 : True := trivial
theorem law_holds.tw15157858054915424247 : True := trivial
theorem law_holds.tw16368874440196955584 : True := trivial
theorem law_holds.tw6333624483447246961 : True := trivial
theorem law_holds.tw7566432030715092817 : True := trivial
theorem law_holds.tw2175392478943181252 : True := trivial
theorem law_holds.tw8786122383778125906 : True := trivial
theorem law_holds.tw15883345262158282383 : True := trivial
theorem law_holds.tw4833173496992025938 : True := trivial
theorem law_holds.tw12296726922439171297 : True := trivial
theorem law_holds.tw11182679623053108816 : True := trivial
theorem law_holds.tw2842810181116790245 : True := trivial
theorem law_holds.tw17974257514489008736 : True := trivial
theorem law_holds.tw3776956092104397036 : True := trivial
theorem law_holds.tw1909877003179415225 : True := trivial
theorem law_holds.tw17942709131360195518 : True := trivial
theorem law_holds.tw8176227357466254829 : True := trivial
theorem law_holds.tw11404014056486942332 : True := trivial
theorem law_holds.tw7120836010843673076 : True := trivial
theorem law_holds.tw2043166853727251185 : True := trivial
theorem law_holds.tw2887050238494874643 : True := trivial
theorem law_holds.tw2856731137302751260 : True := trivial
theorem law_holds.tw1622690429015379626 : True := trivial
theorem law_holds.tw16273140198857503625 : True := trivial
theorem law_holds.tw13280740594461564331 : True := trivial
theorem law_holds.tw11223184984439025696 : True := trivial
theorem law_holds.tw14385925486924208373 : True := trivial
theorem law_holds.tw6629495429873386292 : True := trivial
theorem law_holds.tw6861490101519172755 : True := trivial
theorem law_holds.tw7221428835167493151 : True := trivial
theorem law_holds.tw18254337876149969668 : True := trivial
theorem law_holds.tw8417186165934385351 : True := trivial
theorem law_holds.tw7497986649931050792 : True := trivial
theorem law_holds.tw8249079356659094474 : True := trivial
theorem law_holds.tw4439653461905209652 : True := trivial
theorem law_holds.tw6934448944433832347 : True := trivial
theorem law_holds.tw11633083819707477107 : True := trivial
theorem law_holds.tw7910590604623066228 : True := trivial
theorem law_holds.tw15617896438947887921 : True := trivial
theorem law_holds.tw12977093529070104392 : True := trivial
theorem law_holds.tw17028624522117568015 : True := trivial
theorem law_holds.tw2124134355350193313 : True := trivial
theorem law_holds.tw9843604407834444796 : True := trivial
theorem law_holds.tw15150646450996357022 : True := trivial
theorem law_holds.tw8652346329174877282 : True := trivial
theorem law_holds.tw2102315897755806987 : True := trivial
theorem law_holds.tw3850375180904979519 : True := trivial
theorem law_holds.tw14774650325386425613 : True := trivial
theorem law_holds.tw11803358882649189518 : True := trivial
theorem law_holds.tw784011647948385275 : True := trivial
theorem law_holds.tw676263390381983339 : True := trivial
theorem law_holds.tw18203989763732354715 : True := trivial
theorem law_holds.tw1685627985566243432 : True := trivial
theorem law_holds.tw15162217921772873613 : True := trivial
theorem law_holds.tw12456547296908542839 : True := trivial
theorem law_holds.tw16947615914383616782 : True := trivial
theorem law_holds.tw3742325753681652743 : True := trivial
theorem law_holds.tw15472126771306010800 : True := trivial
theorem law_holds.tw10368410895845634921 : True := trivial
theorem law_holds.tw11098625913536864229 : True := trivial
theorem law_holds.tw1496123403401453975 : True := trivial
theorem law_holds.tw16009327648451700120 : True := trivial
theorem law_holds.tw13478230802861573701 : True := trivial
theorem law_holds.tw10296202853966499060 : True := trivial
theorem law_holds.tw7019463264422422977 : True := trivial
theorem law_holds.tw6159533029260741167 : True := trivial
theorem law_holds.tw14883556706271630602 : True := trivial
theorem law_holds.tw18430954121086234272 : True := trivial
theorem law_holds.tw11781800970755023335 : True := trivial
theorem law_holds.tw8191475993861738794 : True := trivial
theorem law_holds.tw15448297888555860652 : True := trivial
theorem law_holds.tw16381176275627223697 : True := trivial
theorem law_holds.tw10958410103948607464 : True := trivial
theorem law_holds.tw17255088995462705879 : True := trivial
theorem law_holds.tw9634471323475708679 : True := trivial
theorem law_holds.tw5364902710198789758 : True := trivial
theorem law_holds.tw2578278018795888234 : True := trivial
theorem law_holds.tw17993387198741990920 : True := trivial
theorem law_holds.tw1905533677188600702 : True := trivial
theorem law_holds.tw1832781179975386347 : True := trivial
theorem law_holds.tw5212653520564569363 : True := trivial
theorem law_holds.tw12303009252429188658 : True := trivial
theorem law_holds.tw16461882675039125421 : True := trivial
theorem law_holds.tw15191720212996534143 : True := trivial
theorem law_holds.tw14160533322030094474 : True := trivial
theorem law_holds.tw9184033795430018204 : True := trivial
theorem law_holds.tw18326849912455186884 : True := trivial
theorem law_holds.tw17253691774821329096 : True := trivial
theorem law_holds.tw10812634152524527747 : True := trivial
theorem law_holds.tw1096898596823417342 : True := trivial
theorem law_holds.tw8553002610548859549 : True := trivial
theorem law_holds.tw13780023080261437657 : True := trivial
theorem law_holds.tw17274716441693411508 : True := trivial
theorem law_holds.tw15607887362523206001 : True := trivial
theorem law_holds.tw16099233806120587224 : True := trivial
theorem law_holds.tw18340598423539479173 : True := trivial
theorem law_holds.tw2143268655074302082 : True := trivial
theorem law_holds.tw4037582482628031876 : True := trivial
theorem law_holds.tw8472228645029834797 : True := trivial
theorem law_holds.tw15732109348078318572 : True := trivial
theorem law_holds.tw12476058986133298565 : True := trivial
theorem law_holds.tw12732824653754844360 : True := trivial
theorem law_holds.tw3850334171643177529 : True := trivial
theorem law_holds.tw13182730311906835528 : True := trivial
theorem law_holds.tw11470271118054631628 : True := trivial
theorem law_holds.tw9288214680346807717 : True := trivial
theorem law_holds.tw18261290160731607033 : True := trivial
theorem law_holds.tw5769158387606399586 : True := trivial
theorem law_holds.tw8441880690091102137 : True := trivial
theorem law_holds.tw14545874151571354728 : True := trivial
theorem law_holds.tw10465528174321978529 : True := trivial
theorem law_holds.tw8720880381367431298 : True := trivial
theorem law_holds.tw7696488724909661519 : True := trivial
theorem law_holds.tw9168033884955339765 : True := trivial
theorem law_holds.tw7407239408455114201 : True := trivial
theorem law_holds.tw11966672015165255308 : True := trivial
theorem law_holds.tw1414043511812021011 : True := trivial
theorem law_holds.tw18269650602155537469 : True := trivial
theorem law_holds.tw16883458599210261866 : True := trivial
theorem law_holds.tw12459966957829302596 : True := trivial
theorem law_holds.tw15609566024721092083 : True := trivial
theorem law_holds.tw14390095281932903014 : True := trivial
theorem law_holds.tw2136269947727277649 : True := trivial
theorem law_holds.tw7185456241796803578 : True := trivial
theorem law_holds.tw5451054884063135654 : True := trivial
theorem law_holds.tw13190408463805328480 : True := trivial
theorem law_holds.tw10566571302883470556 : True := trivial
theorem law_holds.tw14354538779393863138 : True := trivial
theorem law_holds.tw12622292602297523153 : True := trivial
theorem law_holds.tw18006792725990754497 : True := trivial
theorem law_holds.tw5858263632927829637 : True := trivial
theorem law_holds.tw7769649832755249146 : True := trivial
theorem law_holds.tw1973129929022764952 : True := trivial
theorem law_holds.tw13958071646730322851 : True := trivial
theorem law_holds.tw3253568177066640346 : True := trivial
theorem law_holds.tw12116493165278983582 : True := trivial
theorem law_holds.tw11133525997344109421 : True := trivial
theorem law_holds.tw15352839923633478061 : True := trivial
theorem law_holds.tw11690447701083486646 : True := trivial
theorem law_holds.tw8369274380968253667 : True := trivial
theorem law_holds.tw5640673133297012132 : True := trivial
theorem law_holds.tw907578622648922086 : True := trivial
theorem law_holds.tw12223724995276690173 : True := trivial
theorem law_holds.tw4273555757443719353 : True := trivial
theorem law_holds.tw1689763614830377041 : True := trivial
theorem law_holds.tw10007947361888340627 : True := trivial
theorem law_holds.tw9992725586745946429 : True := trivial
theorem law_holds.tw4818577856007422655 : True := trivial
theorem law_holds.tw16614716721108272449 : True := trivial
theorem law_holds.tw14991590004735058009 : True := trivial
theorem law_holds.tw6677821561840896501 : True := trivial
theorem law_holds.tw4524032621918665186 : True := trivial
theorem law_holds.tw8330938851228082562 : True := trivial
theorem law_holds.tw8549365171731915398 : True := trivial
theorem law_holds.tw3882201998751590657 : True := trivial
theorem law_holds.tw10666784280354678857 : True := trivial
theorem law_holds.tw1670043908289496885 : True := trivial
theorem law_holds.tw5920216800500632969 : True := trivial
theorem law_holds.tw2508255044705368994 : True := trivial
theorem law_holds : PySem.Challenge.rw_xw0262_01.Holds := by
  w_on; o_law; k_head; (case hw => w_witness2)
  show WalkO hd.view_1 [] (XL hd.view_1 []) (Hook.says (kHook hd.heap_1 _ _)) _ _ _ _
  k_go0
  (all_goals try k_fold)
  refine cut_law (by k_asm) ?_ ?_
  · intro F0
    k_steps
    · exact ⟨_, _, _, _, _, _, rfl, frM (by k_asm) (by first | exact fun y => rfl | exact fun y => ifif), newsHead (by assumption), .cons _ _ .nil, by decide, by decide, fun x hx => by rw [List.mem_singleton.mp hx]; decide⟩
    · exact ⟨_, _, _, _, _, _, rfl, frM (by k_asm) (by first | exact fun y => rfl | exact fun y => ifif), newsHead (by assumption), by assumption, by omega, by simp only [List.length_map, List.length_take]; omega, fun x hx => by obtain ⟨y, _, rfl⟩ := List.mem_map.mp hx; exact ⟨Int.fmod_nonneg_of_pos _ (by decide), Int.fmod_lt_of_pos _ (by decide)⟩⟩
  rename Fr _ _ _ _ => F0
  clear F0
  intro h1 tk1 l vs n xs F1 N1 hi hne hlen hb
  k_steps
  refine Halt.go' ?_
  rename Fr _ _ _ _ => F8
  k_dflt (refine' For_invVF F8 ?qa1 ?qb1 ?_; (case qa1 => exact rfl); (case qb1 => exact rfl))
  k_steps
  refine Halt.go' ?_
  (try clear F8)
  rename Fr _ _ _ _ => F8
  rename News _ _ _ _ => N8
  have hz0 : 0 ≤ (600 : Int) := by decide
  with_unfolding_all refine list_fix [Str.ofString "sort", Str.ofString "one"] (by rfl) (by rfl) (List.Mem.head _) F8 N8 ?_ ?_
  · intro i5 v5 u5 h5 tk5 led5 hi5 hsub F11 N11
    have hT : ∃ x t, v5 = .int x t ∧ 0 ≤ x ∧ x ≤ 600 := by
      rcases i5 with _ | _ | _ | i5
      · cases hi5; exact ⟨_, _, rfl, by omega, by omega⟩
      · cases hi5; exact ⟨_, _, rfl, by omega, by omega⟩
      · cases hi5; exact ⟨_, _, rfl, Int.fmod_nonneg_of_pos _ (by decide), Int.le_of_lt (Int.fmod_lt_of_pos _ (by decide))⟩
      · cases hi5
    obtain ⟨ct, tt, e5, hct0, hct1⟩ := hT
    subst e5
    (try clear F8); (try clear N8)
    clear hsub hi5
    k_steps
    refine Halt.go' ?_
    rename Fr _ _ _ _ => F8
    k_dflt (refine' For_invVF F8 ?qa2 ?qb2 ?_; (case qa2 => exact rfl); (case qb2 => exact rfl))
    k_steps
    refine Halt.go' ?_
    (try clear F8)
    rename Fr _ _ _ _ => F8
    rename News _ _ _ _ => N8
    with_unfolding_all refine list_fix [Str.ofString "one"] (by rfl) (by rfl) (List.Mem.head _) F8 N8 ?_ ?_
    · intro i6 v6 u6 h6 tk6 led6 hi6 hsub F12 N12
      have hT : ∃ x t, v6 = .int x t := by
        rcases i6 with _ | _ | i6
        · cases hi6; exact ⟨_, _, rfl⟩
        · cases hi6; exact ⟨_, _, rfl⟩
        · cases hi6
      obtain ⟨srt, ts, e6⟩ := hT
      subst e6
      (try clear F8); (try clear N8)
      clear hsub hi6
      k_steps
    · intro u6 h6 tk6 F12 N12
      (try clear F8); (try clear N8)
      k_steps
  · intro u5 h5 tk5 F11 N11
    (try clear F8); (try clear N8)
    k_steps
end
end Mine
theorem PySem.Challenge.cw_xw0262_01_holds : PySem.Challenge.rw_xw0262_01.Holds := by
  exact Mine.law_holds
