import PyProof.Rows.All
import Wide.All
import OpenK.AllK
import Wide.FinOn
import PySem.Challenge.RW_xm0644_01
set_option Elab.async false
set_option maxRecDepth 100000
set_option maxHeartbeats 4000000
/-! part X1 -/
section
open PySem PySem.W PyProof.Rows
namespace Mine
open_top hd for PySem.Challenge.rw_xm0644_01
end Mine
end
/-! part S1 -/
section
open PySem PySem.W PyProof.Rows
namespace Mine
abbrev Led := List (Addr × Obj)
abbrev Ret (h₀ : Heap) (L : Addr) (m : Str → Option Value) (s : Shared) (Q : Value → Shared → Prop) (Post : Value → Led → Prop) : Prop :=
  ∀ (r : Value) (nw : Led) (h' : Heap) (tk' : Nat), Fr h₀ L h' m → News h₀ L h' nw → Post r nw → Q r { s with heap := h', toks := tk' }
/-- what a call of the def at f does, whatever frame it is called from -/
abbrev Spec (w : World) (mean : ExcName → Option Value) (mg mb : Str → Option Value) (f : Addr) (d : Nat) (nt : Nat) (news : Led) (vs : List Value) (Post : Value → Led → Prop) : Prop :=
  ∀ (dp un : Nat) (gd : Option (List Code)) (cn : Str) (cs : Scope) (a : Addr) (ccd : Value) (cl : List (Str × Addr)) (outer : List Env) (A₀ : Around) (base h₀ : Heap) (L : Addr) (m : Str → Option Value) (s : Shared) (Q E : Value → Shared → Prop),
    Below A₀ base outer h₀ → Fr h₀ L s.heap m → (hd.heap_39 w.params).In h₀ → News h₀ L s.heap news → Top hd.view_39 (looseW hd.view_39 []) mean mg mb h₀ → cs.kind = .function →
    dp + d < recursionLimit → un + 8 * d < cLine → nt ≤ s.toks → Ret h₀ L m s Q Post →
    wpAny (model PySem.Challenge.rw_xm0644_01.row.prog w) (ktrTop dp un gd cn cs L a ccd cl outer) (call (.ref f) vs) Q E s

section
variable {w : World} {mean : ExcName → Option Value} {mg mb : Str → Option Value}
theorem Spec.use {f : Addr} {d nt : Nat} {news : Led} {vs : List Value} {Post : Value → Led → Prop} (S : Spec w mean mg mb f d nt news vs Post)
    {dp un : Nat} {gd : Option (List Code)} {cn : Str} {cs : Scope} {a : Addr} {ccd : Value} {cl : List (Str × Addr)} {outer : List Env} {A₀ : Around} {base h₀ : Heap} {L : Addr} {m : Str → Option Value} {s : Shared} {Q E : Value → Shared → Prop}
    (B : Below A₀ base outer h₀) (F : Fr h₀ L s.heap m) (X : (hd.heap_39 w.params).In h₀) (N : News h₀ L s.heap news) (T : Top hd.view_39 (looseW hd.view_39 []) mean mg mb h₀) (hk : cs.kind = .function)
    (hd : dp + d < recursionLimit) (hu : un + 8 * d < cLine) (ht : nt ≤ s.toks)
    (ret : ∀ (r : Value) (nw : Led) (h' : Heap) (tk' : Nat), Fr h₀ L h' m → News h₀ L h' nw → Post r nw → Q r { s with heap := h', toks := tk' }) :
    wpAny (model PySem.Challenge.rw_xm0644_01.row.prog w) (ktrTop dp un gd cn cs L a ccd cl outer) (call (.ref f) vs) Q E s := S _ _ _ _ _ _ _ _ _ _ _ _ _ _ _ _ _ B F X N T hk hd hu ht ret

theorem Spec.useT {f : Addr} {d nt : Nat} {news : Led} {vs : List Value} {Post : Value → Led → Prop} (S : Spec w mean mg mb f d nt news vs Post)
    {dp un : Nat} {gd : Option (List Code)} {cn : Str} {cs : Scope} {a : Addr} {ccd : Value} {cl : List (Str × Addr)} {outer : List Env} {A₀ : Around} {base h₀ : Heap} {L : Addr} {m : Str → Option Value} {s : Shared} {Q E : Value → Shared → Prop}
    (B : Below A₀ base outer h₀) (F : Fr h₀ L s.heap m) (X : (hd.heap_39 w.params).In h₀) (N : News h₀ L s.heap news) (T : Top hd.view_39 (looseW hd.view_39 []) mean mg mb h₀) (hk : cs.kind = .function)
    (hd : dp + d < recursionLimit) (hu : un + 8 * d < cLine) (ht : nt ≤ s.toks)
    (ret : ∀ (r : Value) (nw : Led) (h' : Heap) (tk' : Nat), s.toks ≤ tk' → Fr h₀ L h' m → News h₀ L h' nw → Post r nw → Q r { s with heap := h', toks := tk' }) :
    wpAny (model PySem.Challenge.rw_xm0644_01.row.prog w) (ktrTop dp un gd cn cs L a ccd cl outer) (call (.ref f) vs) Q E s :=
  wpAny_with_toks (Nat.le_refl s.toks) (S _ _ _ _ _ _ _ _ _ _ _ _ _ _ _ _ _ B F X N T hk hd hu ht fun r nw h' tk' F' N' hp le => ret r nw h' tk' le F' N' hp)

/-- the draws' pool: a list of two ints, neither below nought, the second below the modulus -/
abbrev srcO (a b : Int) (ta tb : Tok) (n : Nat) : Obj := listOf #[.int a ta, .int b tb] n
def PoolO (o : Obj) : Prop := ∃ (a b : Int) (ta tb : Tok) (n : Nat), 0 ≤ a ∧ 0 ≤ b ∧ b < 2147483647 ∧ o = srcO a b ta tb n

theorem upd_mem {d : Addr} {o o' : Obj} {news : Led} {g : Obj → Led} (U : UpdF d o news g) {x : Addr × Obj} (hm : x ∈ news) (hx : x.1 ≠ d) : x ∈ g o' := by
  obtain ⟨pre, post, rfl, hg, _, _⟩ := U.split
  rw [hg]
  rcases List.mem_append.mp hm with h | h
  · exact List.mem_append_left _ h
  · rcases List.mem_cons.mp h with rfl | h
    · exact absurd rfl hx
    · exact List.mem_append_right _ (.tail _ h)
theorem upd_at {d : Addr} {o o' : Obj} {news : Led} {g : Obj → Led} (U : UpdF d o news g) : (d, o') ∈ g o' := by
  obtain ⟨pre, post, rfl, hg, _, _⟩ := U.split
  rw [hg]
  exact List.mem_append_right _ (.head _)
theorem upd_again {d : Addr} {o o' : Obj} {news : Led} {g : Obj → Led} (U : UpdF d o news g) : UpdF d o' (g o') g := by
  induction U with
  | head h => exact .head h
  | tail h _ ih => exact .tail h ih
theorem upd_adr {d : Addr} {o o' : Obj} {news : Led} {g : Obj → Led} (U : UpdF d o news g) {x : Addr × Obj} (hm : x ∈ g o') : ∃ y ∈ news, y.1 = x.1 := by
  obtain ⟨pre, post, rfl, hg, _, _⟩ := U.split
  rw [hg] at hm
  rcases List.mem_append.mp hm with h | h
  · exact ⟨x, List.mem_append_left _ h, rfl⟩
  · rcases List.mem_cons.mp h with rfl | h
    · exact ⟨(d, o), List.mem_append_right _ (.head _), rfl⟩
    · exact ⟨x, List.mem_append_right _ (.tail _ h), rfl⟩

/-- a contract over a ledger with the pool at its head, carried over to a ledger that holds it anywhere -/
theorem Spec.upd {f : Addr} {d nt : Nat} {src : Addr} {o : Obj} {news : Led} {g : Obj → Led} {vs : List Value} {R : Value → Obj → Prop} (U : UpdF src o news g)
    (h : ∀ rest, (∀ p ∈ rest, p.1 ≠ src) → Spec w mean mg mb f d nt ((src, o) :: rest) vs (fun r nw => ∃ o', R r o' ∧ nw = (src, o') :: rest)) :
    Spec w mean mg mb f d nt news vs (fun r nw => ∃ o', R r o' ∧ nw = g o') := by
  intro dp un gd cn cs aa ccd cl outer A₀ base h₀ L m s Q E B F X N T hk hd hu ht hret
  obtain ⟨pre, post, rfl, hg, h1, h2⟩ := U.split
  refine h (pre ++ post) (fun p hp => (List.mem_append.mp hp).elim (h1 p) (h2 p)) _ _ _ _ _ _ _ _ _ _ _ _ _ _ _ _ _ B F X (fun p hp => N p ?_) T hk hd hu ht ?_
  · rcases List.mem_cons.mp hp with rfl | hp
    · exact List.mem_append_right _ (.head _)
    · exact (List.mem_append.mp hp).elim (fun h => List.mem_append_left _ h) fun h => List.mem_append_right _ (.tail _ h)
  · rintro r nw h' tk' F' N' ⟨o', hR, rfl⟩
    refine hret r _ h' tk' F' (fun p hp => N' p ?_) ⟨o', hR, rfl⟩
    rw [hg] at hp
    rcases List.mem_append.mp hp with hp | hp
    · exact .tail _ (List.mem_append_left _ hp)
    · rcases List.mem_cons.mp hp with rfl | hp
      · exact .head _
      · exact .tail _ (List.mem_append_right _ hp)

theorem fm_lo (x : Int) : -(2 ^ 64 : Int) < x.fmod 2147483647 := by have := Int.fmod_nonneg_of_pos x (b := 2147483647) (by decide); omega
theorem fm_hi (x : Int) : x.fmod 2147483647 < (2 ^ 64 : Int) := by have := Int.fmod_lt_of_pos x (b := 2147483647) (by decide); omega

theorem item_led {prog : Program} {A : Around} {E : Value → Shared → Prop} {s : Shared} {h₀ : Heap} {L l : Addr} {news : Led} {value slice : PySem.Expr} {vs : List Value} {n : Nat} {k : Int} {u : Tok} {Q : Value → Shared → Prop}
    (N : News h₀ L s.heap news) (hm : (l, listOf vs.toArray n) ∈ news) (h0 : 0 ≤ k) (hk : k < vs.length) (hl : vs.length < 1000) (h : ∀ v, v ∈ vs → Q v s)
    (hs : subscripted slice false (.ref l) (.int k u) = operate [.ref l, .int k u] (getItem (.ref l) (.int k u)) := by with_unfolding_all rfl) :
    wpAny (model prog w) A (subscriptTail value slice (.ref l) (.int k u)) Q E s :=
  have hL : s.heap.IsList l vs.toArray := ⟨_, N.get hm, rfl, n, rfl⟩
  have hi : k.toNat < vs.length := by omega
  tail_any hL.typeIs slot_list_getitem.lookup (wpAny_getItem_list hL h0 (by omega) (by simpa using (List.getElem?_eq_getElem hi)) (h _ (List.getElem_mem hi))) hs
theorem len_led {prog : Program} {A : Around} {E : Value → Shared → Prop} {s : Shared} {h₀ : Heap} {L l : Addr} {news : Led} {vs : List Value} {n : Nat} {Q : Value → Shared → Prop}
    (N : News h₀ L s.heap news) (hm : (l, listOf vs.toArray n) ∈ news) (hl : vs.length < 1000) (h : Q (.int (vs.length : Int) (s.toks + 1)) { s with toks := s.toks + 1 + 1 }) :
    wpAny (model prog w) A (call (.builtin "len") [.ref l]) Q E s :=
  have hL : s.heap.IsList l vs.toArray := ⟨_, N.get hm, rfl, n, rfl⟩
  len_list hL (by rw [List.size_toArray]; omega) (by rw [List.size_toArray]; exact h)
end
end Mine
end
/-! part S2 -/
section
open PySem PySem.W PyProof.Rows
namespace Mine
section
local macro_rules | `(tactic| k_all) => `(tactic| assumption)
local macro_rules | `(tactic| mul_fits) => `(tactic| with_unfolding_all exact PySem.IntMulOk.of_left (PySem.intBits_le_64 (fm_lo _) (fm_hi _)))
variable {w : World} {mean : ExcName → Option Value} {mg mb : Str → Option Value}
theorem take_spec0 (src : Addr) (n : Nat) (rest : Led) (a b top : Int) (ta tb tt : Tok) (hrest : ∀ p ∈ rest, p.1 ≠ src) (ha : 0 ≤ a) (hb0 : 0 ≤ b) (hb1 : b < 2147483647) (h0 : 0 < top) (h1 : top < 1000) :
    Spec w mean mg mb 56 1 0 ((src, srcO a b ta tb n) :: rest) [.ref src, .int top tt]
      (fun r nw => ∃ o', (PoolO o' ∧ ∃ fig tf, r = .int fig tf ∧ 0 ≤ fig ∧ fig < top) ∧ nw = (src, o') :: rest) := by
  unfold Spec
  k_fill
  w_top off
  intro dp un gd cn cs aa ccd cl outer A₀ base h₀ L m s Q E B F X N T hk hd hu ht hret
  dsimp only [srcO] at N
  refine wpAny_call ?_
  k_dflt cell_enter
  k_steps
  · exact hret _ _ _ _ ‹_› ‹_› ⟨_, ⟨⟨_, _, _, _, _, by simpa using Int.fdiv_nonneg ha (by omega), hb0, hb1, rfl⟩, _, _, rfl, by simpa using Int.fmod_nonneg_of_pos a h0, by simpa using Int.fmod_lt_of_pos a h0⟩, rfl⟩
  · exact hret _ _ _ _ ‹_› ‹_› ⟨_, ⟨⟨_, _, _, _, _, ha, Int.fmod_nonneg_of_pos _ (by decide), Int.fmod_lt_of_pos _ (by decide), rfl⟩, _, _, rfl, Int.fmod_nonneg_of_pos _ h0, Int.fmod_lt_of_pos _ h0⟩, rfl⟩
theorem take_spec {src : Addr} {o : Obj} {news : Led} {g : Obj → Led} {top : Int} {tt : Tok} (U : UpdF src o news g) (ho : PoolO o) (h0 : 0 < top) (h1 : top < 1000) :
    Spec w mean mg mb 56 1 0 news [.ref src, .int top tt] (fun r nw => ∃ o', (PoolO o' ∧ ∃ fig tf, r = .int fig tf ∧ 0 ≤ fig ∧ fig < top) ∧ nw = g o') := by
  obtain ⟨a, b, ta, tb, n, ha, hb0, hb1, rfl⟩ := ho
  exact Spec.upd (R := fun r o' => PoolO o' ∧ ∃ fig tf, r = .int fig tf ∧ 0 ≤ fig ∧ fig < top) U fun rest hr => take_spec0 src n rest a b top ta tb tt hr ha hb0 hb1 h0 h1
end
section
local macro_rules | `(tactic| k_updF) => `(tactic| assumption)
local macro_rules | `(tactic| k_mem) => `(tactic| first | assumption | exact upd_mem (by assumption) (by assumption) (by assumption))
local macro_rules | `(tactic| walk_at "call ref") => `(tactic| (k_here; k_dflt (
  refine' Spec.use (take_spec ?U ?h2 ?h3 ?h4) ?k1 ?k2 ?k3 ?k4 ?k5 ?kK ?kd ?ku ?kt ?_
  (case k1 => k_asm)
  (case k2 => k_asm)
  (case k3 => k_asm)
  (case k4 => k_asm)
  (case k5 => k_asm)
  (case kK => first | exact rfl | assumption)
  (case U => k_updF)
  (case h2 => assumption)
  (case h3 => omega)
  (case h4 => omega)
  (case kd => ktr_room)
  (case ku => ktr_units)
  (case kt => exact Nat.zero_le _)
  intro r9 nw9 h9 tk9 F9 N9 hp9
  obtain ⟨o9, ⟨ho9, fig9, tf9, er9, hf0, hf1⟩, en9⟩ := hp9
  subst er9 en9
  (try dsimp only)
  (try k_fold))))
local macro_rules | `(tactic| walk_at "subscriptTail Name Call ref int") => `(tactic| (k_here; k_dflt (
  refine' item_led ?k1 ?k2 ?k3 ?k4 ?k5 ?_
  (case k1 => k_asm)
  (case k2 => k_mem)
  (case k3 => omega)
  (case k4 => omega)
  (case k5 => omega)
  k_whole
  intro v9 hv9)))
local macro_rules | `(tactic| walk_at "call builtin:len") => `(tactic| (k_here; (with_reducible show wpAny _ _ (call (Value.builtin "len") [Value.ref _]) _ _ _); k_dflt (
  refine' len_led ?k1 ?k2 ?k3 ?_
  (case k1 => k_asm)
  (case k2 => k_mem)
  (case k3 => omega)
  k_whole)))
variable {w : World} {mean : ExcName → Option Value} {mg mb : Str → Option Value}
theorem one_spec {src th : Addr} {k : Nat} {o : Obj} {news : Led} {g : Obj → Led} {vs : List Value} (U : UpdF src o news g) (ho : PoolO o) (hm : (th, listOf vs.toArray k) ∈ news) (hne : th ≠ src) (h0 : 0 < vs.length) (h1 : vs.length < 1000) :
    Spec w mean mg mb 63 2 0 news [.ref src, .ref th] (fun r nw => ∃ o', (PoolO o' ∧ r ∈ vs) ∧ nw = g o') := by
  unfold Spec
  k_fill
  w_top off
  intro dp un gd cn cs aa ccd cl outer A₀ base h₀ L m s Q E B F X N T hk hd hu ht hret
  refine wpAny_call ?_
  k_dflt cell_enter
  k_steps
  · exact hret _ _ _ _ ‹_› ‹_› ⟨_, ⟨‹_›, ‹_›⟩, rfl⟩
end
end Mine
end
/-! part S3 -/
section
open PySem PySem.W PyProof.Rows PySem.StrLaws
namespace Mine
local macro_rules | `(tactic| walk_at "padS30") => `(tactic| skip)
theorem all_ne {rest : Led} {c d : Nat} (h : ∀ p ∈ rest, @LT.lt Nat _ p.1 c) (hcd : c ≤ d) : ∀ p ∈ rest, p.1 ≠ d := fun p hp => Nat.ne_of_lt (Nat.lt_of_lt_of_le (h p hp) hcd)
local macro_rules | `(tactic| k_all) => `(tactic| first | assumption | exact all_ne (by assumption) (by omega))
local macro_rules | `(tactic| walk_at "call ref") => `(tactic| (k_here; k_dflt (
  refine' Spec.use (take_spec ?U ?h2 ?h3 ?h4) ?k1 ?k2 ?k3 ?k4 ?k5 ?kK ?kd ?ku ?kt ?_
  (case k1 => k_asm)
  (case k2 => k_asm)
  (case k3 => k_asm)
  (case k4 => k_asm)
  (case k5 => k_asm)
  (case kK => first | exact rfl | assumption)
  (case U => k_updF)
  (case h2 => assumption)
  (case h3 => omega)
  (case h4 => omega)
  (case kd => ktr_room)
  (case ku => ktr_units)
  (case kt => exact Nat.zero_le _)
  intro r9 nw9 h9 tk9 F9 N9 hp9
  obtain ⟨o9, ⟨ho9, fig9, tf9, er9, hf0, hf1⟩, en9⟩ := hp9
  subst er9 en9
  (try dsimp only)
  (try k_fold))))
section
variable {prog : Program} {w : World} {A : Around} {h₀ : Heap} {L : Addr} {m : Str → Option Value} {env : Env} {elt : PySem.Expr} {x : Str} {scope : Scope} {cl : List (Str × Addr)} {s : Shared} {P : Nat → Value → Prop} {Fin : List Value → Led → Prop}
/-- what one turn of a drawing comprehension ends with -/
def DrawEnd (h₀ : Heap) (L : Addr) (m : Str → Option Value) (s : Shared) (vs : List Value) (g : Obj → Led) (I C D : Addr) (oI oC oD : Obj) (y : Value) (s₂ : Shared) : Prop :=
  ∃ h' tk' ob', s₂ = { s with heap := h', toks := tk' } ∧ PoolO ob' ∧ y ∈ vs ∧ Fr h₀ L h' m ∧ News h₀ L h' ((I, oI) :: (C, oC) :: (D, oD) :: g ob')
theorem DrawEnd.intro {h₀ : Heap} {L : Addr} {m : Str → Option Value} {s : Shared} {vs : List Value} {g : Obj → Led} {I C D : Addr} {oI oC oD : Obj} {y : Value} {h' : Heap} {tk' : Nat} (ob' : Obj) (ho : PoolO ob') (hy : y ∈ vs) (F : Fr h₀ L h' m)
    (N : News h₀ L h' ((I, oI) :: (C, oC) :: (D, oD) :: g ob')) : DrawEnd h₀ L m s vs g I C D oI oC oD y { s with heap := h', toks := tk' } := ⟨h', tk', ob', rfl, ho, hy, F, N⟩
theorem comp_draw (src : Addr) {o : Obj} {news : Led} {g : Obj → Led} {vs : List Value} {n : Nat} {th : Addr} {kk : Nat} (hmem : (th, listOf vs.toArray kk) ∈ news) (U : UpdF src o news g) (ho : PoolO o)
    (turn : ∀ ob v I oI C oC D m₂ ys h tk (E' : Value → Shared → Prop), PoolO ob → LCg.NsObj oC m₂ → UpdF src ob ((I, oI) :: (C, oC) :: (D, LCg.lst ys) :: g ob) (fun o' => (I, oI) :: (C, oC) :: (D, LCg.lst ys) :: g o') → m₂ x = some v → Fr h₀ L h m → News h₀ L h ((I, oI) :: (C, oC) :: (D, LCg.lst ys) :: g ob) → LCg.Off3 I C D (g ob) →
      wpAny (model prog w) A (eval elt (compEnvC scope cl C env)) (DrawEnd h₀ L m { s with heap := h, toks := tk } vs g I C D oI oC (LCg.lst ys)) E' { s with heap := h, toks := tk })
    (fin : ∀ ys ob, PoolO ob → ys.length = n → (∀ y ∈ ys, y ∈ vs) → Fin ys (g ob)) :
    LCg.CompRest prog w A h₀ L m env elt x scope cl s (fun _ => True) P Fin n 0 [] news := by
  have key : ∀ (j i : Nat) (ys : List Value) (ob : Obj), i + j = n → ys.length = i → (∀ y ∈ ys, y ∈ vs) → PoolO ob → LCg.CompRest prog w A h₀ L m env elt x scope cl s (fun _ => True) P Fin j i ys (g ob) := by
    intro j
    induction j with
    | zero => intro i ys ob hi hy hv hob; exact LCg.CompRest.zero (fin ys ob hob (by omega) hv)
    | succ j ih =>
      intro i ys ob hi hy hv hob
      refine LCg.CompRest.succ ?_
      intro v I oI C oC D m₂ h tk E' _ hC hx F N off ne
      have U1 : UpdF src ob (g ob) g := upd_again U
      have hs := off.mem _ (upd_at (o' := ob) U)
      refine wpAny_mono (turn ob v I oI C oC D m₂ ys h tk E' hob hC (.tail (Ne.symm hs.1) (.tail (Ne.symm hs.2.1) (.tail (Ne.symm hs.2.2) U1))) hx F N off) (fun y s₂ hq => ?_) fun _ _ e => e
      obtain ⟨h', tk', ob', e, hob', hy', F', N'⟩ := hq
      refine ⟨h', tk', g ob', e, F', N', LCg.Off3.of fun p hp => ?_, trivial, ?_⟩
      · obtain ⟨q, hq, e'⟩ := upd_adr U1 hp
        rw [← e']
        exact off.mem q hq
      · refine ih (i + 1) _ ob' (by omega) (by rw [List.length_append, hy]; rfl) (fun z hz => ?_) hob'
        rcases List.mem_append.mp hz with hz | hz
        · exact hv z hz
        · rw [List.mem_singleton.mp hz]; exact hy'
  have e : news = g o := by
    obtain ⟨pre, post, rfl, hg, _, _⟩ := U.split
    rw [hg]
  rw [e]
  exact key n 0 [] o (by omega) rfl (fun _ h => nomatch h) ho
end
theorem strs_of {B : Nat} {vs : List Value} (hv : ∀ v ∈ vs, ∃ x t, v = Value.str x t ∧ x.length ≤ B) : ∀ {ys : List Value}, (∀ y ∈ ys, y ∈ vs) → ∃ ts : List Str, StrsAre ys ts ∧ ts.length = ys.length ∧ ∀ t ∈ ts, t.length ≤ B
  | [], _ => ⟨[], .nil, rfl, fun _ h => nomatch h⟩
  | y :: r, h => by
    obtain ⟨ts, h1, h2, h3⟩ := strs_of hv (ys := r) fun z hz => h z (.tail _ hz)
    obtain ⟨x, t, rfl, hx⟩ := hv y (h y (.head _))
    refine ⟨x :: ts, .cons x t h1, by simp [h2], fun z hz => ?_⟩
    rcases List.mem_cons.mp hz with rfl | hz
    · exact hx
    · exact h3 z hz
theorem news_sub {h₀ h : Heap} {L : Addr} {a b : Led} (N : News h₀ L h a) (hs : ∀ p ∈ b, p ∈ a) : News h₀ L h b := fun p hp => N p (hs p hp)
/-- the one sign that the law's texts make by its number -/
theorem chr_e {prog : Program} {w : World} {A : Around} {E : Value → Shared → Prop} {s : Shared} {t : Tok} {Q : Value → Shared → Prop} (h : Q (.str (Str.ofString "\u00e9") s.toks) { s with toks := s.toks + 1 }) :
    wpAny (model prog w) A (call (.builtin "chr") [.int 233 t]) Q E s :=
  P.chr_of_int (by decide) (by rw [show (⟨#[(233 : Int).toNat]⟩ : Str) = Str.ofString "\u00e9" from by decide +kernel]; exact h)
local macro_rules | `(tactic| walk_at "call builtin:chr") => `(tactic| (k_here; refine chr_e ?_))
def Stop (P : Prop) : Prop := P
theorem Stop.of {P : Prop} (h : Stop P) : P := h
local macro_rules | `(tactic| walk_at "CompSrc") => `(tactic| (k_here; refine Stop.of ?_))
local macro_rules | `(tactic| walk_at "call ref") => `(tactic| (k_here; k_dflt (
  refine' Spec.use (one_spec ?U ?h2 ?h3 ?h4 ?h5 ?h6) ?k1 ?k2 ?k3 ?k4 ?k5 ?kK ?kd ?ku ?kt ?_
  (case k1 => k_asm)
  (case k2 => k_asm)
  (case k3 => k_asm)
  (case k4 => k_asm)
  (case k5 => k_asm)
  (case kK => first | exact rfl | assumption)
  (case U => first | assumption | k_updF)
  (case h2 => assumption)
  (case h3 => k_mem)
  (case h4 => k_ne)
  (case h5 => exact Nat.le_of_ble_eq_true rfl)
  (case h6 => exact Nat.le_of_ble_eq_true rfl)
  (case kd => ktr_room)
  (case ku => ktr_units)
  (case kt => exact Nat.zero_le _)
  intro r9 nw9 h9 tk9 F9 N9 hp9
  obtain ⟨o9, ⟨ho9, hv9⟩, en9⟩ := hp9
  subst en9
  (try dsimp only)
  (try k_fold))))
section
variable {w : World} {mean : ExcName → Option Value} {mg mb : Str → Option Value}
theorem text_spec0 {src : Addr} {o : Obj} {rest : Led} (hr : ∀ p ∈ rest, p.1 ≠ src) (ho : PoolO o) :
    Spec w mean mg mb 68 3 0 ((src, o) :: rest) [.ref src] (fun r nw => ∃ o', (PoolO o' ∧ ∃ x t, r = .str x t ∧ x.length ≤ 40) ∧ nw = (src, o') :: rest) := by
  unfold Spec
  k_fill
  w_top off
  intro dp un gd cn cs aa ccd cl outer A₀ base h₀ L m s Q E B F X N T hk hd hu ht hret
  refine wpAny_call ?_
  k_dflt (refine' code_defC ?k1 ?k2 ?k3 ?k4 ?k5 ?kA ?kF ?kK ?k6 ?k7 ?k8 ?k9 ?kB ?kD ?_ ?c2 ?c3 ?c4; (case kA => exact rfl); (case kF => exact rfl); (case kK => assumption); (case k1 => k_asm); (case k2 => k_asm); (case k3 => k_asm); (case k4 => k_asm); (case k5 => k_asm); (case k6 => k_is); (case k7 => k_is); (case k8 => ktr_room); (case k9 => exact BindsTo.of_eq rfl); (case kB => exact rfl); (case kD => decide +kernel); (case c2 => exact rfl); (case c3 => exact rfl); (case c4 => exact rfl); k_whole; intro g' L' h' tk' cells' FG' F' N' Y' B' X' T' l1; (have hL : ∀ p ∈ rest, @LT.lt Nat _ p.1 L' := fun p hp => l1 p (.tail _ hp)); (try k_lt l1); k_cells Y'; (try simp only [List.cons_append, List.nil_append] at N'); (try dsimp only); (try k_lift B'); (try k_fold))
  k_steps
  unfold Stop
  refine LCg.CompSrc.range (by rfl) (by k_asm) (by k_asm) (by assumption) (by first | decide | exact small_one (by l_bnd) (by l_bnd) (by l_bnd) (by l_bnd)) (by first | exact rangeSize_nat _ _ | rfl) (by first | exact Nat.le_of_ble_eq_true rfl | (rw [PySem.sizeLine_eq]; omega) | size_fits) ?_
  intro g1
  refine' comp_draw src (.head _) ?kU ?kO ?kT ?kF
  (case kU => k_updF)
  (case kO => assumption)
  · intro ob v I oI C oC D m₂ ys h tk E' hob hC U9 hx F9 N9 off9
    dsimp only at U9 N9 off9 ⊢
    simp only [LCg.Off3] at off9
    k_steps
    exact DrawEnd.intro _ ‹_› ‹_› ‹_› ‹_›
  · intro ys ob hob hlen hys
    k_steps
    obtain ⟨ts, hts, hlt, hl5⟩ := strs_of (B := 5) (by repeat' (first | exact List.forall_mem_nil _ | refine List.forall_mem_cons.mpr ⟨⟨_, _, rfl, by decide +kernel⟩, ?_⟩)) hys
    have hsum := sumLen_le ts hl5
    rename News _ _ _ _ => hN
    have hj : (Txt.join (Str.ofString "") ts).length ≤ 40 := by
      have h1 := StrLaws.join_length_le (Str.ofString "") ts
      have h2 : (Str.ofString "").length = 0 := by decide +kernel
      rw [h2, Nat.mul_zero] at h1
      have h3 : Txt.join (Str.ofString "") ts = Str.join (Str.ofString "") ts := StrLaws.glued_eq_join _ _
      rw [h3]
      omega
    refine join_listW (News.isList hN (.head _)) hts (by decide +kernel) (by omega) ?_
    intro t9 k9
    k_steps
    exact hret _ _ _ _ ‹_› (news_sub ‹_› fun p hp => .tail _ (.tail _ (.tail _ (.tail _ hp)))) ⟨_, ⟨hob, _, _, rfl, hj⟩, rfl⟩
theorem text_spec {src : Addr} {o : Obj} {news : Led} {g : Obj → Led} (U : UpdF src o news g) (ho : PoolO o) :
    Spec w mean mg mb 68 3 0 news [.ref src] (fun r nw => ∃ o', (PoolO o' ∧ ∃ x t, r = .str x t ∧ x.length ≤ 40) ∧ nw = g o') :=
  Spec.upd (R := fun r o' => PoolO o' ∧ ∃ x t, r = .str x t ∧ x.length ≤ 40) U fun _ hr => text_spec0 hr ho
end
end Mine
end
/-! part S4 -/
section
open PySem PySem.W PyProof.Rows PySem.StrLaws
namespace Mine
local macro_rules | `(tactic| k_all) => `(tactic| first | assumption | exact all_ne (by assumption) (by omega))
local macro_rules | `(tactic| walk_at "call ref") => `(tactic| (k_here; k_dflt (
  refine' Spec.use (take_spec ?U ?h2 ?h3 ?h4) ?k1 ?k2 ?k3 ?k4 ?k5 ?kK ?kd ?ku ?kt ?_
  (case k1 => k_asm)
  (case k2 => k_asm)
  (case k3 => k_asm)
  (case k4 => k_asm)
  (case k5 => k_asm)
  (case kK => first | exact rfl | assumption)
  (case U => k_updF)
  (case h2 => assumption)
  (case h3 => omega)
  (case h4 => omega)
  (case kd => ktr_room)
  (case ku => ktr_units)
  (case kt => exact Nat.zero_le _)
  intro r9 nw9 h9 tk9 F9 N9 hp9
  obtain ⟨o9, ⟨ho9, fig9, tf9, er9, hf0, hf1⟩, en9⟩ := hp9
  subst er9 en9
  (try dsimp only)
  (try k_fold))))
local macro_rules | `(tactic| walk_at "CompSrc") => `(tactic| (k_here; refine Stop.of ?_))
local macro_rules | `(tactic| walk_at "call ref") => `(tactic| (k_here; k_dflt (
  refine' Spec.use (one_spec ?U ?h2 ?h3 ?h4 ?h5 ?h6) ?k1 ?k2 ?k3 ?k4 ?k5 ?kK ?kd ?ku ?kt ?_
  (case k1 => k_asm)
  (case k2 => k_asm)
  (case k3 => k_asm)
  (case k4 => k_asm)
  (case k5 => k_asm)
  (case kK => first | exact rfl | assumption)
  (case U => first | assumption | k_updF)
  (case h2 => assumption)
  (case h3 => k_mem)
  (case h4 => k_ne)
  (case h5 => exact Nat.le_of_ble_eq_true rfl)
  (case h6 => exact Nat.le_of_ble_eq_true rfl)
  (case kd => ktr_room)
  (case ku => ktr_units)
  (case kt => exact Nat.zero_le _)
  intro r9 nw9 h9 tk9 F9 N9 hp9
  obtain ⟨o9, ⟨ho9, hv9⟩, en9⟩ := hp9
  subst en9
  (try dsimp only)
  (try k_fold))))
section
variable {prog : Program} {w : World} {A₀ A : Around} {s : Shared} {K : Frag} {L : Addr} {h₀ base : Heap} {m mg mb : Str → Option Value} {news : Led} {p : Program} {loose : List Str} {mean : ExcName → Option Value}
  {env : Env} {outer : List Env} {R : Result → Shared → Prop} {name qual : Str} {params : Arguments} {body : List Stmt} {scope : Scope} {dV kV doc pm cdv ct oc : Value} {an od : Option Addr} {osl : Array (Option Value)} {f : Addr} {args : Args} {binds : List (Str × Value)}
/-- a def with captured names is entered, and its first token lies not below the caller's -/
theorem enter_cells (B : Below A₀ base outer h₀) (F : Fr h₀ L s.heap m) (X₀ : K.In h₀) (N : News h₀ L s.heap news) (T : Top p loose mean mg mb h₀) (hA : A.frames = some (env :: outer)) (hf : env.frame = some L) (hke : env.scope.kind = .function)
    (ho : K.lookup f = some ⟨oc, od, .func (fnOf name qual params body scope dV kV doc pm an cdv ct), osl⟩) (hcd : codeIn K cdv qual = true) (hroom : A.depth < recursionLimit)
    (hbind : BindsTo s (fnOf name qual params body scope dV kV doc pm an cdv ct) args binds) (hkind : (binds.all fun y => scope.names.lookup y.1 == some .local || scope.names.lookup y.1 == some .cell) = true)
    (hnd : ((cellsFrom 0 scope.names []).map (·.1)).Nodup)
    (h : ∀ g L' h₁ tk cells, s.toks ≤ tk → Fr h₀ L g m → Fr g L' h₁ (bindL (envOfC qual scope L' f cdv).kindOf binds fun _ => none) → News g L' h₁ (cells ++ news) →
      CellsAre (bindC (envOfC qual scope L' f cdv).kindOf binds fun _ => none) (cellsFrom (L' + 1) scope.names []) cells → Below A base (env :: outer) g → K.In g → Top p loose mean mg mb g → (∀ p ∈ news, p.1 < L') →
      wpAny (model prog w) (A.deeper (envOfC qual scope L' f cdv)) (execs body (envOfC qual scope L' f cdv))
        (fun fl s' => LeaveK h₀ L m g R (match fl with | .ret v => v | _ => .none) s')
        (fun e s' => wpAny (model prog w) (A.deeper (envOfC qual scope L' f cdv)) (leaving (envOfC qual scope L' f cdv) e) (fun _ s'' => R (.error e) s'') (fun e' s'' => R (.error e') s'') s')
        { s with heap := h₁, toks := tk })
    (hco : scope.isCoroutine = false) (hgen : scope.isGenerator = false) (hk : scope.kind = .function) : codeAny (model prog w) A (.call (.ref f) args) R s := by
  obtain ⟨FG, BG, st, back⟩ := groundX (R := R) B F N hA hf hke
  have NL : s.heap.NoLimit := T.nolimit.keeps F.keep
  refine codeAny_call_function hroom ((X₀.keeps F.keep) _ _ ho) rfl hco hgen rfl (codeRec_of (X₀.keeps F.keep) hcd) (hbind _ _ _ _ (wpAny_with_toks (Nat.le_refl s.toks) ?_))
  refine wpAny_newFunctionEnv_cells hk (kindsX hkind _) fun env' he s' x le => ?_
  subst he
  refine ⟨NL.keeps x.toInCall.keep, codeAny_func ?_⟩
  obtain ⟨h₁, tk, rfl, kp⟩ := x.done
  obtain ⟨cells, NC, Y⟩ := Cl.news (h₀ := s.heap) (Nat.le_refl _) fun n c hm => ⟨x.cell n c (lookup_of_mem_nodup (cellsFrom_names scope.names 0 (s.heap.objs.size + 1) [] [] rfl ▸ hnd) hm), x.above n c hm⟩
  have low : ∀ p ∈ news, p.1 < s.heap.objs.size := fun p hp => Heap.lt_size (N p hp).1
  have NG : News (hideAll s.heap (news.map (·.1))) s.heap.objs.size h₁ (cells ++ news) := by
    intro p hp
    rcases List.mem_append.mp hp with hc | hn
    · refine ⟨(NC p hc).1, (NC p hc).2.1, ?_⟩
      cases q : (hideAll s.heap (news.map (·.1))).get? p.1 with
      | none => rfl
      | some ob => exact absurd ((NC p hc).2.2.symm.trans (of_hideAll _ q)) (by simp)
    · exact ⟨kp _ _ (N p hn).1, Nat.ne_of_lt (low p hn), hideAll_none _ (List.mem_map_of_mem hn)⟩
  exact wpAny_mono (h _ s.heap.objs.size h₁ tk cells le FG ⟨x.toInCall.ns, fun b ob e => kp b ob (of_hideAll _ e), Nat.le_of_eq (hideAll_size _ _)⟩ NG Y BG (X₀.keeps st) (T.keeps st) low) (fun fl s' hl => back _ _ hl) fun _ _ y => y
end
section
variable {w : World} {mean : ExcName → Option Value} {mg mb : Str → Option Value}
/-- an object of the ledger that is a pair: one sign, and a text that is another -/
def PairAt (nw : Led) (v : Value) : Prop := ∃ (T : Addr) (c : Nat) (z : Str) (u t : Tok) (k : Nat), v = .ref T ∧ (T, ({ cls := .type "tuple", data := .seq #[.str ⟨#[c]⟩ u, .str z t] k } : Obj)) ∈ nw ∧ u ≠ 0 ∧ t ≠ 0 ∧ u ≠ t ∧ ((⟨#[c]⟩ : Str) == z) = false ∧ z.length ≤ 5
theorem PairAt.mono {a b : Led} (h : ∀ p ∈ a, p ∈ b) {v : Value} (x : PairAt a v) : PairAt b v := by
  obtain ⟨T, c, z, u, t, k, e, hm, r⟩ := x
  exact ⟨T, c, z, u, t, k, e, h _ hm, r⟩
theorem PairAt.of {nw : Led} {T : Addr} {c : Nat} {x z : Str} {u t : Tok} {k : Nat} (hm : (T, ({ cls := .type "tuple", data := .seq #[.str x u, .str z t] k } : Obj)) ∈ nw) (hx : x = ⟨#[c]⟩) (h1 : u ≠ 0) (h2 : t ≠ 0) (h3 : u ≠ t) (h4 : ((⟨#[c]⟩ : Str) == z) = false) (h5 : z.length ≤ 5) : PairAt nw (.ref T) := by
  subst hx
  exact ⟨T, c, z, u, t, k, rfl, hm, h1, h2, h3, h4, h5⟩
theorem pairs_spec0 {src : Addr} {o : Obj} {rest : Led} (hr : ∀ p ∈ rest, p.1 ≠ src) (ho : PoolO o) :
    Spec w mean mg mb 80 3 1 ((src, o) :: rest) [.ref src] (fun r nw => ∃ o' D ys, PoolO o' ∧ r = .ref D ∧ ys.length ≤ 4 ∧ (D, LCg.lst ys) ∈ nw ∧ (∀ y ∈ ys, PairAt nw y) ∧ ∀ p ∈ (src, o') :: rest, p ∈ nw) := by
  unfold Spec
  k_fill
  w_top off
  intro dp un gd cn cs aa ccd cl outer A₀ base h₀ L m s Q E B F X N T hk hd hu ht hret
  refine wpAny_call ?_
  k_dflt (refine' enter_cells ?k1 ?k2 ?k3 ?k4 ?k5 ?kA ?kF ?kK ?k6 ?k7 ?k8 ?k9 ?kB ?kD ?_ ?c2 ?c3 ?c4; (case kA => exact rfl); (case kF => exact rfl); (case kK => assumption); (case k1 => k_asm); (case k2 => k_asm); (case k3 => k_asm); (case k4 => k_asm); (case k5 => k_asm); (case k6 => k_is); (case k7 => k_is); (case k8 => ktr_room); (case k9 => exact BindsTo.of_eq rfl); (case kB => exact rfl); (case kD => decide +kernel); (case c2 => exact rfl); (case c3 => exact rfl); (case c4 => exact rfl); k_whole; intro g' L' h' tk' cells' le9 FG' F' N' Y' B' X' T' l1; (have hL : ∀ p ∈ rest, @LT.lt Nat _ p.1 L' := fun p hp => l1 p (.tail _ hp)); (try k_lt l1); k_cells Y'; (try simp only [List.cons_append, List.nil_append] at N'); (try dsimp only); (try k_lift B'); (try k_fold))
  k_steps
  unfold Stop
  refine LCg.CompSrc.range (by rfl) (by k_asm) (by k_asm) (by assumption) (by first | decide | exact small_one (by l_bnd) (by l_bnd) (by l_bnd) (by l_bnd)) (by first | exact rangeSize_nat _ _ | rfl) (by first | exact Nat.le_of_ble_eq_true rfl | (rw [PySem.sizeLine_eq]; omega) | size_fits) ?_
  intro g1
  refine' comp_draw src (.head _) ?kU ?kO ?kT ?kF
  (case kU => k_updF)
  (case kO => assumption)
  · intro ob v I oI C oC D m₂ ys h tk E' hob hC U9 hx F9 N9 off9
    dsimp only at U9 N9 off9 ⊢
    simp only [LCg.Off3] at off9
    k_steps
    exact DrawEnd.intro _ ‹_› ‹_› ‹_› ‹_›
  · intro ys ob hob hlen hys
    k_steps
    refine hret _ _ _ _ ‹_› ‹_› ⟨ob, _, ys, hob, rfl, by omega, .head _, fun y hy => ?_, fun p hp => ?_⟩
    · have key := hys y hy
      clear hy hys
      revert key
      revert y
      refine List.forall_mem_cons.mpr ⟨PairAt.of (c := 97) (by k_mem) (by decide +kernel) (by show @Ne Nat _ _; omega) (by show @Ne Nat _ _; omega) (by show @Ne Nat _ _; omega) (by decide +kernel) (by decide +kernel), ?_⟩
      refine List.forall_mem_cons.mpr ⟨PairAt.of (c := 38) (by k_mem) (by decide +kernel) (by show @Ne Nat _ _; omega) (by show @Ne Nat _ _; omega) (by show @Ne Nat _ _; omega) (by decide +kernel) (by decide +kernel), ?_⟩
      refine List.forall_mem_cons.mpr ⟨PairAt.of (c := 38) (by k_mem) (by decide +kernel) (by show @Ne Nat _ _; omega) (by show @Ne Nat _ _; omega) (by show @Ne Nat _ _; omega) (by decide +kernel) (by decide +kernel), ?_⟩
      refine List.forall_mem_cons.mpr ⟨PairAt.of (c := 60) (by k_mem) (by decide +kernel) (by show @Ne Nat _ _; omega) (by show @Ne Nat _ _; omega) (by show @Ne Nat _ _; omega) (by decide +kernel) (by decide +kernel), ?_⟩
      refine List.forall_mem_cons.mpr ⟨PairAt.of (c := 59) (by k_mem) (by decide +kernel) (by show @Ne Nat _ _; omega) (by show @Ne Nat _ _; omega) (by show @Ne Nat _ _; omega) (by decide +kernel) (by decide +kernel), ?_⟩
      refine List.forall_mem_cons.mpr ⟨PairAt.of (c := 13) (by k_mem) (by decide +kernel) (by show @Ne Nat _ _; omega) (by show @Ne Nat _ _; omega) (by show @Ne Nat _ _; omega) (by decide +kernel) (by decide +kernel), ?_⟩
      refine List.forall_mem_cons.mpr ⟨PairAt.of (c := 10) (by k_mem) (by decide +kernel) (by show @Ne Nat _ _; omega) (by show @Ne Nat _ _; omega) (by show @Ne Nat _ _; omega) (by decide +kernel) (by decide +kernel), ?_⟩
      refine List.forall_mem_cons.mpr ⟨PairAt.of (c := 35) (by k_mem) (by decide +kernel) (by show @Ne Nat _ _; omega) (by show @Ne Nat _ _; omega) (by show @Ne Nat _ _; omega) (by decide +kernel) (by decide +kernel), ?_⟩
      exact List.forall_mem_nil _
    · rcases List.mem_cons.mp hp with rfl | hp
      · k_mem
      · repeat (first | exact hp | refine List.mem_cons_of_mem _ ?_)
theorem pairs_spec {src : Addr} {o : Obj} {news : Led} {g : Obj → Led} (U : UpdF src o news g) (ho : PoolO o) :
    Spec w mean mg mb 80 3 1 news [.ref src] (fun r nw => ∃ o' D ys, PoolO o' ∧ r = .ref D ∧ ys.length ≤ 4 ∧ (D, LCg.lst ys) ∈ nw ∧ (∀ y ∈ ys, PairAt nw y) ∧ ∀ p ∈ g o', p ∈ nw) := by
  intro dp un gd cn cs aa ccd cl outer A₀ base h₀ L m s Q E B F X N T hk hd hu ht hret
  obtain ⟨pre, post, rfl, hg, h1, h2⟩ := U.split
  refine pairs_spec0 (rest := pre ++ post) (fun p hp => (List.mem_append.mp hp).elim (h1 p) (h2 p)) ho _ _ _ _ _ _ _ _ _ _ _ _ _ _ _ _ _ B F X (fun p hp => N p ?_) T hk hd hu ht ?_
  · rcases List.mem_cons.mp hp with rfl | hp
    · exact List.mem_append_right _ (.head _)
    · exact (List.mem_append.mp hp).elim (fun h => List.mem_append_left _ h) fun h => List.mem_append_right _ (.tail _ h)
  · rintro r nw h' tk' F' N' ⟨o', D, ys, ho', hr, hlen, hD, hP, hsub⟩
    refine hret r nw h' tk' F' N' ⟨o', D, ys, ho', hr, hlen, hD, hP, fun p hp => hsub p ?_⟩
    rw [hg] at hp
    rcases List.mem_append.mp hp with hp | hp
    · exact .tail _ (List.mem_append_left _ hp)
    · rcases List.mem_cons.mp hp with rfl | hp
      · exact .head _
      · exact .tail _ (List.mem_append_right _ hp)
end
end Mine
end
/-! part P1 -/
section
open PySem PySem.W PyProof.Rows PySem.StrLaws
namespace Mine
/-- what a table tells a sign by -/
def look (kv : List (Str × Str)) (n : Nat) : Str := match kv.find? (fun p => p.1 == ⟨#[n]⟩) with
  | some p => p.2
  | none => ⟨#[n]⟩
def tabF (kv : List (Str × Str)) (a : Str) (n : Nat) : Str := a ++ look kv n
/-- a text told sign by sign -/
def tab (kv : List (Str × Str)) (x : Str) : Str := x.cps.toList.foldl (tabF kv) Str.empty
def lookL (kv : List (Str × Str)) (n : Nat) : List Nat := (look kv n).cps.toList

theorem tab_fold (kv : List (Str × Str)) : ∀ (l : List Nat) (a : Str), (l.foldl (tabF kv) a).cps.toList = a.cps.toList ++ l.flatMap (lookL kv)
  | [], a => by simp
  | n :: r, a => by
    rw [List.foldl_cons, tab_fold kv r, List.flatMap_cons]
    show (a ++ look kv n).cps.toList ++ _ = _
    rw [Str.cps_append, Array.toList_append, List.append_assoc]
    rfl
theorem tab_list (kv : List (Str × Str)) (x : Str) : (tab kv x).cps.toList = x.cps.toList.flatMap (lookL kv) := by
  unfold tab
  rw [tab_fold]
  rfl
theorem str_eq {a b : Str} (h : a.cps.toList = b.cps.toList) : a = b := Str.ext' (Array.toList_inj.mp h)

theorem fm_len {B : Nat} {f : Nat → List Nat} (h : ∀ n, (f n).length ≤ B) : ∀ l : List Nat, (l.flatMap f).length ≤ B * l.length
  | [] => by simp
  | n :: r => by
    have h1 := h n
    have h2 := fm_len h r
    rw [List.flatMap_cons, List.length_append, List.length_cons, Nat.mul_succ]
    omega
theorem look_len {B : Nat} (hB : 1 ≤ B) {kv : List (Str × Str)} (h : ∀ p ∈ kv, p.2.length ≤ B) (n : Nat) : (lookL kv n).length ≤ B := by
  unfold lookL look
  split
  · rename_i p hp
    have := h p (List.mem_of_find?_eq_some hp)
    simpa [Str.length] using this
  · simpa using hB
theorem fold_len {B : Nat} (hB : 1 ≤ B) {kv : List (Str × Str)} (h : ∀ p ∈ kv, p.2.length ≤ B) (l : List Nat) : (l.foldl (tabF kv) Str.empty).length ≤ B * l.length := by
  have h1 := fm_len (look_len hB h) l
  have h2 := tab_fold kv l Str.empty
  have h3 : (l.foldl (tabF kv) Str.empty).length = (l.foldl (tabF kv) Str.empty).cps.toList.length := by simp [Str.length]
  rw [h3, h2]
  simpa [Str.empty] using h1
theorem tab_len {B : Nat} (hB : 1 ≤ B) {kv : List (Str × Str)} (h : ∀ p ∈ kv, p.2.length ≤ B) (x : Str) : (tab kv x).length ≤ B * x.length := by
  have h1 := fold_len hB h x.cps.toList
  rw [Array.length_toList] at h1
  exact h1

/-- the table of one sign -/
theorem lookL_one (c : Nat) (z : Str) (n : Nat) : lookL [(⟨#[c]⟩, z)] n = if n = c then z.cps.toList else [n] := by
  unfold lookL look
  by_cases h : n = c
  · subst h
    simp
  · have h1 : ((⟨#[c]⟩ : Str) == ⟨#[n]⟩) = false := by
      rw [beq_eq_false_iff_ne]
      intro e
      injection e with e
      injection e with e
      injection e with e
      exact h e.symm
    simp [List.find?, h1, h]
theorem fm_free (c : Nat) (z : Str) : ∀ l : List Nat, c ∉ l → l.flatMap (lookL [(⟨#[c]⟩, z)]) = l
  | [], _ => rfl
  | n :: r, h => by
    have h1 : n ≠ c := fun e => h (e ▸ List.mem_cons_self ..)
    rw [List.flatMap_cons, lookL_one, if_neg h1, fm_free c z r fun m => h (List.mem_cons_of_mem _ m)]
    rfl
theorem fm_join (c : Nat) (z : Str) : ∀ parts : List Str, (∀ p ∈ parts, c ∉ p.cps.toList) → (Str.join ⟨#[c]⟩ parts).cps.toList.flatMap (lookL [(⟨#[c]⟩, z)]) = (Str.join z parts).cps.toList
  | [], _ => rfl
  | [p], h => fm_free c z _ (h p (List.mem_singleton.mpr rfl))
  | p :: q :: r, h => by
    have ih := fm_join c z (q :: r) fun a ha => h a (List.mem_cons_of_mem _ ha)
    have e1 : Str.join ⟨#[c]⟩ (p :: q :: r) = p ++ ⟨#[c]⟩ ++ Str.join ⟨#[c]⟩ (q :: r) := rfl
    have e2 : Str.join z (p :: q :: r) = p ++ z ++ Str.join z (q :: r) := rfl
    rw [e1, e2]
    simp only [Str.cps_append, Array.toList_append, List.flatMap_append]
    rw [ih, fm_free c z _ (h p (List.mem_cons_self ..))]
    congr 2
    rw [List.flatMap_cons, lookL_one, if_pos rfl, List.flatMap_nil, List.append_nil]
/-- replace of one sign is the table of one sign -/
theorem replace_tab (x z : Str) (c : Nat) : Txt.replace x ⟨#[c]⟩ z = tab [(⟨#[c]⟩, z)] x := by
  refine str_eq ?_
  rw [replace_one, tab_list, ← fm_join c z _ (split_free x c), join_split]

/-- a table's first sign told first, and the others behind it -/
theorem tab_chain (c : Nat) (z : Str) (kv : List (Str × Str)) (hz : ∀ n ∈ z.cps.toList, lookL kv n = [n]) (x : Str) : tab kv (tab [(⟨#[c]⟩, z)] x) = tab ((⟨#[c]⟩, z) :: kv) x := by
  refine str_eq ?_
  rw [tab_list, tab_list, tab_list, List.flatMap_assoc]
  congr 1
  funext n
  rw [lookL_one]
  by_cases h : n = c
  · subst h
    rw [if_pos rfl]
    have e : ∀ l : List Nat, (∀ n ∈ l, lookL kv n = [n]) → l.flatMap (lookL kv) = l := by
      intro l
      induction l with
      | nil => intro _; rfl
      | cons a r ih =>
        intro hh
        rw [List.flatMap_cons, hh a (List.mem_cons_self ..), ih fun b hb => hh b (List.mem_cons_of_mem _ hb)]
        rfl
    rw [e _ hz]
    unfold lookL look
    simp
  · rw [if_neg h, List.flatMap_cons, List.flatMap_nil, List.append_nil]
    have h1 : ((⟨#[c]⟩ : Str) == ⟨#[n]⟩) = false := by
      rw [beq_eq_false_iff_ne]
      intro e
      injection e with e
      injection e with e
      injection e with e
      exact h e.symm
    unfold lookL look
    simp [List.find?, h1]
theorem tab_nil (x : Str) : tab [] x = x := by
  refine str_eq ?_
  rw [tab_list]
  have e : ∀ l : List Nat, l.flatMap (lookL []) = l := by
    intro l
    induction l with
    | nil => rfl
    | cons a r ih => rw [List.flatMap_cons, ih]; rfl
  exact e _
end Mine
end
/-! part S5 -/
section
open PySem PySem.W PyProof.Rows PySem.StrLaws PyProof.V
namespace Mine
section
variable {prog : Program} {w : World} {A : Around} {E : Value → Shared → Prop} {s : Shared} {env : Env} {h₀ : Heap} {x y : Str} {body : List Stmt} {Q : Flow → Shared → Prop}
/-- what stands between two turns of a loop over a text's signs that turns the one name y -/
def SignJ (x y : Str) (m₀ : Str → Option Value) (news : Led) (a : Str) (m : Str → Option Value) (nx : Led) : Prop := nx = news ∧ (∃ t, m y = some (.str a t)) ∧ ∀ z, z ≠ x → z ≠ y → m z = m₀ z
/-- a loop over a text's signs that turns the one name y, folded -/
theorem sign_fold {xt a₀ : Str} {tx t₀ : Tok} {m₀ : Str → Option Value} {news : Led} (f : Str → Nat → Str)
    (hh : A.handled = none) (F : Fr h₀ env.locals s.heap m₀) (N : News h₀ env.locals s.heap news) (hy : m₀ y = some (.str a₀ t₀)) (hxy : y ≠ x)
    (turn : ∀ (pre post : List Nat) (n : Nat) t ta h tk own, xt.cps.toList = pre ++ n :: post →
      Fr h₀ env.locals h (fun z => if z = x then some (.str ⟨#[n]⟩ t) else if z = y then some (.str (pre.foldl f a₀) ta) else m₀ z) → News h₀ env.locals h (news ++ own) →
      wpAny (model prog w) A (execs body env) (InvPostN h₀ env.locals (SignJ x y m₀ news (f (pre.foldl f a₀) n)) own (news.map (·.1)) { s with heap := h, toks := tk } Q) E { s with heap := h, toks := tk })
    (done : ∀ (u : Str → Option Value) t h tk, Fr h₀ env.locals h (fun z => if z = x then u z else if z = y then some (.str (xt.cps.toList.foldl f a₀) t) else m₀ z) → News h₀ env.locals h news → Q .next { s with heap := h, toks := tk }) :
    wpAny (model prog w) A (pyIter (.str xt tx)) (fun it s₂ => LoopAtV prog w A h₀ env x body Q E it s₂) E s := by
  refine wpAny_pyIter_str fun o St hW hst => ?_
  have fr : ∀ p ∈ news, p.1 ∉ [s.heap.objs.size] := fun p hp hI => Nat.lt_irrefl _ ((List.mem_singleton.mp hI) ▸ Heap.lt_size (N p hp).1)
  have mp : ∀ {m : Str → Option Value} {a : Str} {u : Option Value}, SignJ x y m₀ news a m news → ∃ t, (fun z => if z = x then u else m z) = fun z => if z = x then u else if z = y then some (.str a t) else m₀ z := by
    rintro m a u ⟨_, ⟨t, ht⟩, hm⟩
    refine ⟨t, funext fun z => ?_⟩
    by_cases h1 : z = x
    · rw [if_pos h1, if_pos h1]
    · rw [if_neg h1, if_neg h1]
      by_cases h2 : z = y
      · rw [if_pos h2, h2, ht]
      · rw [if_neg h2, hm z h1 h2]
  refine loop_invN (fun i m nx => SignJ x y m₀ news ((xt.cps.toList.take i).foldl f a₀) m nx) (hW A hh) (fun hm => Nat.lt_irrefl _ ((List.mem_singleton.mp hm) ▸ F.ns.lt)) (fun b hb => by rw [List.mem_singleton.mp hb]; exact next_is_new F) fr fr hst (F.push _)
    (fun p hp => ⟨Heap.get?_push_of_some _ (N p hp).1, (N p hp).2⟩) ⟨rfl, ⟨t₀, by simpa using hy⟩, fun _ _ _ => rfl⟩ ?_ ?_
  · rintro i v m₁ nx h tk own hi ⟨n, u, hn, rfl⟩ _ _ ⟨rfl, hJ⟩ F₁ N₁
    have hn' : xt.cps.toList[i]? = some n := by simpa using hn
    have hs : xt.cps.toList.take (i + 1) = xt.cps.toList.take i ++ [n] := by rw [List.take_add_one, hn']; rfl
    have e : xt.cps.toList = xt.cps.toList.take i ++ n :: xt.cps.toList.drop (i + 1) := by
      have ht := List.take_append_drop (i + 1) xt.cps.toList
      rw [hs, List.append_assoc] at ht
      exact ht.symm
    obtain ⟨ta, em⟩ := mp (u := some (.str ⟨#[n]⟩ u)) ⟨rfl, hJ⟩
    rw [em] at F₁
    rw [hs, List.foldl_append]
    exact turn _ _ n u ta h tk own e F₁ N₁
  · rintro m₁ nx h tk ⟨rfl, hJ⟩ F₁ N₁
    have hl : xt.cps.toList.take xt.cps.size = xt.cps.toList := List.take_of_length_le (by simp)
    rw [hl] at hJ
    obtain ⟨⟨t, ht⟩, hm⟩ := hJ
    refine done m₁ t h tk ?_ N₁
    have e : (fun z => if z = x then m₁ z else if z = y then some (.str (xt.cps.toList.foldl f a₀) t) else m₀ z) = m₁ := by
      funext z
      by_cases h1 : z = x
      · rw [if_pos h1]
      · rw [if_neg h1]
        by_cases h2 : z = y
        · rw [if_pos h2, h2, ht]
        · rw [if_neg h2, hm z h1 h2]
    rw [e]
    exact F₁
end
section
variable {w : World}
/-- the ledger's dict at t is the table kv -/
def TabIn (w : World) (nw : Led) (t : Addr) (kv : List (Str × Str)) : Prop :=
  (t == sysModules) = false ∧ ∃ od kvs, (t, od) ∈ nw ∧ od.IsDictOf (strKind PySem.Challenge.rw_xm0644_01.row.prog w) kvs ∧ FlatPairs PyData.str kvs (kv.map fun p => (PyData.str p.1, PyData.str p.2))
theorem TabIn.mono {a b : Led} {t : Addr} {kv : List (Str × Str)} (h : ∀ p ∈ a, p ∈ b) (x : TabIn w a t kv) : TabIn w b t kv := by
  obtain ⟨lo, od, kvs, hm, r⟩ := x
  exact ⟨lo, od, kvs, h _ hm, r⟩
theorem TabIn.at {nw : Led} {t : Addr} {kv : List (Str × Str)} {h₀ h : Heap} {L : Addr} (x : TabIn w nw t kv) (N : News h₀ L h nw) : StrTab PySem.Challenge.rw_xm0644_01.row.prog w h t (kv.map fun p => (PyData.str p.1, PyData.str p.2)) := by
  obtain ⟨lo, od, kvs, hm, hd, hf⟩ := x
  exact TabAt.ofNews N hm lo hd hf
theorem lookup_tab (n : Nat) : ∀ kv : List (Str × Str), (PySem.Spec.lookup (PyData.str ⟨#[n]⟩) (kv.map fun p => (PyData.str p.1, PyData.str p.2))).getD (PyData.str ⟨#[n]⟩) = PyData.str (look kv n)
  | [] => rfl
  | (a, b) :: r => by
    have ih := lookup_tab n r
    simp only [List.map_cons, PySem.Spec.lookup, PyProof.V.same_str]
    by_cases h : a = ⟨#[n]⟩
    · subst h
      simp [look]
    · have h1 : (a == (⟨#[n]⟩ : Str)) = false := by simpa using h
      simp only [h, decide_false, Bool.false_eq_true, if_false]
      rw [ih]
      simp [look, List.find?, h1]
theorem get_tab {A : Around} {E : Value → Shared → Prop} {s : Shared} {nw : Led} {t : Addr} {kv : List (Str × Str)} {h₀ : Heap} {L : Addr} {n : Nat} {u v : Tok} {Q : Value → Shared → Prop} (x : TabIn w nw t kv) (N : News h₀ L s.heap nw)
    (h : ∀ t', Q (.str (look kv n) t') { s with toks := s.toks + 1 }) : wpAny (model PySem.Challenge.rw_xm0644_01.row.prog w) A (call (.builtin "dict.get") [.ref t, .str ⟨#[n]⟩ u, .str ⟨#[n]⟩ v]) Q E s :=
  call_get2_strTab (x.at N) (Flat.str _ _) fun val hv => by
    rw [lookup_tab] at hv
    obtain ⟨t', rfl⟩ := hv.str_inv
    exact h t'
end
end Mine
end
/-! part S6 -/
section
open PySem PySem.W PyProof.Rows PySem.StrLaws PyProof.V
namespace Mine
theorem with_toksQ {α : Type} {M : Model} {A : Around} {t : Sem α} {Q : α → Shared → Prop} {E : Value → Shared → Prop} {s : Shared} {n : Nat} (hn : n ≤ s.toks) (h : wpAny M A t (fun a s' => n ≤ s'.toks → Q a s') E s) : wpAny M A t Q E s :=
  wpAny_mono (wpAny_toks_of hn h) (fun _ _ x => x.2 x.1) fun _ _ x => x.2
/-- a contract that tells besides that the last token lies not below nl -/
abbrev SpecT (w : World) (mean : ExcName → Option Value) (mg mb : Str → Option Value) (f : Addr) (d : Nat) (nl : Nat) (news : Led) (vs : List Value) (Post : Value → Led → Prop) : Prop :=
  ∀ (dp un : Nat) (gd : Option (List Code)) (cn : Str) (cs : Scope) (a : Addr) (ccd : Value) (cl : List (Str × Addr)) (outer : List Env) (A₀ : Around) (base h₀ : Heap) (L : Addr) (m : Str → Option Value) (s : Shared) (Q E : Value → Shared → Prop),
    Below A₀ base outer h₀ → Fr h₀ L s.heap m → (hd.heap_39 w.params).In h₀ → News h₀ L s.heap news → Top hd.view_39 (looseW hd.view_39 []) mean mg mb h₀ → cs.kind = .function →
    dp + d < recursionLimit → un + 8 * d < cLine → (∀ (r : Value) (nw : Led) (h' : Heap) (tk' : Nat), nl ≤ tk' → Fr h₀ L h' m → News h₀ L h' nw → Post r nw → Q r { s with heap := h', toks := tk' }) →
    wpAny (model PySem.Challenge.rw_xm0644_01.row.prog w) (ktrTop dp un gd cn cs L a ccd cl outer) (call (.ref f) vs) Q E s
section
local macro_rules | `(tactic| walk_at "exec For Name Name cons nil") => `(tactic| (k_here; (rename Fr _ _ _ _ => lF'); (with_unfolding_all refine' For_invVF lF' ?k1 ?k2 ?_; (case k1 => exact rfl); (case k2 => exact rfl); k_whole)))
local macro_rules | `(tactic| walk_at "pyIter str") => `(tactic| (k_here; refine Stop.of ?_))
local macro_rules | `(tactic| walk_at "InvPostN") => `(tactic| (k_here; refine Stop.of ?_))
local macro_rules | `(tactic| walk_at "getMethod ref") => `(tactic| (k_here; k_dflt (refine getMethod_strTab_get (TabIn.at (by assumption) (by k_asm)) ?_)))
local macro_rules | `(tactic| walk_at "call builtin:dict.get") => `(tactic| (k_here; k_dflt (refine get_tab (by assumption) (by k_asm) ?_; intro t9)))
local macro_rules | `(tactic| walk_at "binaryOp Add str str") => `(tactic| (k_here; refine add_str ?_ (by assumption); intro t9 tk9))
variable {w : World} {mean : ExcName → Option Value} {mg mb : Str → Option Value}
theorem by_table_spec {nw : Led} {t : Addr} {kv : List (Str × Str)} {xt : Str} {tx : Tok} (hT : TabIn w nw t kv) (h8 : ∀ p ∈ kv, p.2.length ≤ 8) (hx : xt.length ≤ 2000000) :
    SpecT w mean mg mb 75 1 1 nw [.str xt tx, .ref t] (fun r nw' => nw' = nw ∧ ∃ t', r = .str (tab kv xt) t') := by
  unfold SpecT
  k_fill
  w_top off
  intro dp un gd cn cs aa ccd cl outer A₀ base h₀ L m s Q E B F X N T hk hd hu hret
  refine wpAny_call ?_
  k_dflt cell_enter
  refine @with_toksQ _ _ _ _ _ _ _ 1 (Nat.le_add_left 1 _) ?_
  k_fold
  k_steps
  unfold Stop
  rename Fr _ _ _ _ => hF
  rename News _ _ _ _ => hN
  have e0 : Str.ofString "" = Str.empty := by decide +kernel
  rw [e0] at hF
  k_dflt (refine' sign_fold (y := Str.ofString "found") (tabF kv) (by rfl) hF hN (by rfl) (by decide) ?_ ?_)
  · intro pre post n t1 ta h tk own e F1 N1
    have hT' := hT.mono (b := nw ++ own) (fun p hp => List.mem_append_left _ hp)
    have hsz : (List.foldl (tabF kv) Str.empty pre).length + (look kv n).length ≤ sizeLine := by
      have h1 := fold_len (by decide) h8 pre
      have h2 := look_len (by decide) h8 n
      have h3 : (look kv n).length = (lookL kv n).length := by simp [lookL, Str.length]
      have h4 : xt.length = pre.length + (post.length + 1) := by
        have : xt.length = xt.cps.toList.length := by simp [Str.length]
        rw [this, e]
        simp
      rw [sizeLine_eq]
      omega
    k_steps
    unfold Stop
    exact InvEndN.intro ‹_› ‹_› ⟨rfl, ⟨_, rfl⟩, fun z h1 h2 => by simp only [if_neg h1, if_neg h2]⟩ rfl (fun p hp => List.mem_append_left _ hp) (fun p hp => List.mem_append_right _ hp)
  · intro u t1 h tk F1 N1
    k_steps
    exact hret _ _ _ _ ‹_› ‹_› ‹_› ⟨rfl, _, rfl⟩
end
end Mine
end
/-! part S7 -/
section
open PySem PySem.W PyProof.Rows PySem.StrLaws PyProof.V
namespace Mine
/-- an object of the ledger that is the pair q -/
def PairIs (nw : Led) (v : Value) (q : Nat × Str) : Prop := ∃ (T : Addr) (u t : Tok) (k : Nat), v = .ref T ∧ (T, ({ cls := .type "tuple", data := .seq #[.str ⟨#[q.1]⟩ u, .str q.2 t] k } : Obj)) ∈ nw ∧ u ≠ 0 ∧ t ≠ 0 ∧ u ≠ t ∧ ((⟨#[q.1]⟩ : Str) == q.2) = false ∧ q.2.length ≤ 6
def PairsAre (nw : Led) : List Value → List (Nat × Str) → Prop
  | [], [] => True
  | v :: vs, q :: qs => PairIs nw v q ∧ PairsAre nw vs qs
  | _, _ => False
theorem PairIs.mono {a b : Led} (h : ∀ p ∈ a, p ∈ b) {v : Value} {q : Nat × Str} (x : PairIs a v q) : PairIs b v q := by
  obtain ⟨T, u, t, k, e, hm, r⟩ := x
  exact ⟨T, u, t, k, e, h _ hm, r⟩
theorem PairsAre.mono {a b : Led} (h : ∀ p ∈ a, p ∈ b) : ∀ {vs : List Value} {qs : List (Nat × Str)}, PairsAre a vs qs → PairsAre b vs qs
  | [], [], _ => trivial
  | _ :: _, _ :: _, x => ⟨x.1.mono h, x.2.mono h⟩
  | [], _ :: _, x => (show False from x).elim
  | _ :: _, [], x => (show False from x).elim
theorem PairsAre.length {a : Led} : ∀ {vs : List Value} {qs : List (Nat × Str)}, PairsAre a vs qs → vs.length = qs.length
  | [], [], _ => rfl
  | _ :: _, _ :: _, x => congrArg (· + 1) x.2.length
  | [], _ :: _, x => (show False from x).elim
  | _ :: _, [], x => (show False from x).elim
theorem PairsAre.of {nw : Led} : ∀ {ys : List Value}, (∀ y ∈ ys, PairAt nw y) → ∃ qs, PairsAre nw ys qs
  | [], _ => ⟨[], trivial⟩
  | y :: r, h => by
    obtain ⟨qs, hq⟩ := PairsAre.of (ys := r) fun z hz => h z (.tail _ hz)
    obtain ⟨T, c, z, u, t, k, e, hm, h1, h2, h3, h4, h5⟩ := h y (.head _)
    exact ⟨(c, z) :: qs, ⟨T, u, t, k, e, hm, h1, h2, h3, h4, by show z.length ≤ 6; omega⟩, hq⟩
/-- one pair's sign told by what is put in its place -/
def rep1 (a : Str) (q : Nat × Str) : Str := tab [(⟨#[q.1]⟩, q.2)] a
def rep (qs : List (Nat × Str)) (a : Str) : Str := qs.foldl rep1 a
theorem rep1_len {a : Str} {q : Nat × Str} (h : q.2.length ≤ 6) : (rep1 a q).length ≤ 6 * a.length :=
  tab_len (by decide) (fun p hp => by rw [List.mem_singleton.mp hp]; exact h) a
/-- what stands between two turns: the text that is told, and what no turn touches -/
def PairJ (x1 x2 y : Str) (m₀ : Str → Option Value) (a : Str) (m : Str → Option Value) : Prop := (∃ t, m y = some (.str a t)) ∧ ∀ z, z ≠ y → z ≠ x1 → z ≠ x2 → m z = m₀ z
def PairStep (h₀ : Heap) (L : Addr) (x1 x2 y : Str) (m₀ : Str → Option Value) (s : Shared) (led : Led) (a : Str) (f : Flow) (s₃ : Shared) : Prop :=
  f = .next ∧ ∃ h' tk' m', s₃ = { s with heap := h', toks := tk' } ∧ Fr h₀ L h' m' ∧ News h₀ L h' led ∧ PairJ x1 x2 y m₀ a m'
theorem PairStep.intro {h₀ : Heap} {L : Addr} {x1 x2 y : Str} {m₀ m' : Str → Option Value} {s : Shared} {led all : Led} {a : Str} {h' : Heap} {tk' : Nat} (F : Fr h₀ L h' m') (N : News h₀ L h' all) (hs : ∀ p ∈ led, p ∈ all) (J : PairJ x1 x2 y m₀ a m') :
    PairStep h₀ L x1 x2 y m₀ s led a .next { s with heap := h', toks := tk' } := ⟨rfl, h', tk', m', rfl, F, fun p hp => N p (hs p hp), J⟩
section
variable {prog : Program} {w : World} {A : Around} {E : Value → Shared → Prop} {h₀ : Heap} {env : Env} {target : PySem.Expr} {body : List Stmt} {Q : Flow → Shared → Prop} {s : Shared}
theorem PairJ.fn {x1 x2 y : Str} {m₀ m : Str → Option Value} {a : Str} (J : PairJ x1 x2 y m₀ a m) : ∃ t, m = fun z => if z = y then some (.str a t) else if z = x1 then m z else if z = x2 then m z else m₀ z := by
  obtain ⟨⟨t, ht⟩, hm⟩ := J
  refine ⟨t, funext fun z => ?_⟩
  by_cases h1 : z = y
  · rw [if_pos h1, h1, ht]
  · rw [if_neg h1]
    by_cases h2 : z = x1
    · rw [if_pos h2]
    · rw [if_neg h2]
      by_cases h3 : z = x2
      · rw [if_pos h3]
      · rw [if_neg h3, hm z h1 h2 h3]
theorem pair_items {x1 x2 y : Str} {m₀ : Str → Option Value} {nw : Led} {I : Addr} {cls : String} {keep : Led} (hk : SubL keep nw) (hI : ∀ p ∈ nw, p.1 < I)
    (step : ∀ v q a t (u : Str → Option Value) h tk it, PairIs nw v q → a.length ≤ 2000000 → Fr h₀ env.locals h (fun z => if z = y then some (.str a t) else if z = x1 then u z else if z = x2 then u z else m₀ z) → News h₀ env.locals h ((I, it) :: nw) →
      wpAny (model prog w) A (assign target env v) (fun _ s₂ => wpAny (model prog w) A (execs body env) (PairStep h₀ env.locals x1 x2 y m₀ { s with heap := h, toks := tk } ((I, it) :: nw) (rep1 a q)) E s₂) E { s with heap := h, toks := tk }) :
    ∀ (ys : List Value) (qs : List (Nat × Str)) (a : Str) (m₁ : Str → Option Value), PairsAre nw ys qs → a.length * 6 ^ qs.length ≤ 2000000 → PairJ x1 x2 y m₀ a m₁ →
    (∀ t (u : Str → Option Value) h tk, Fr h₀ env.locals h (fun z => if z = y then some (.str (rep qs a) t) else if z = x1 then u z else if z = x2 then u z else m₀ z) → News h₀ env.locals h nw → Q .next { s with heap := h, toks := tk }) →
    ItemsRest prog w A E h₀ env target body Q s [(I, cls)] keep (ys.map .val) m₁ nw
  | [], [], a, m₁, _, _, J, done => by
    refine ItemsRest.zero fun h tk F N => ?_
    obtain ⟨t, e⟩ := J.fn
    rw [e] at F
    exact done t m₁ h tk F N
  | v :: vs, q :: qs, a, m₁, hP, hlen, J, done => by
    have hpow : 0 < 6 ^ qs.length := Nat.pow_pos (by decide)
    have hl1 : a.length * 6 ^ qs.length * 6 ≤ 2000000 := by
      rw [Nat.mul_assoc, ← Nat.pow_succ]
      exact hlen
    have hl2 : a.length * 6 ≤ 2000000 := Nat.le_trans (Nat.mul_le_mul_right 6 (Nat.le_mul_of_pos_right _ hpow)) hl1
    refine ItemsRest.val fun h tk F => AllObj.cons fun o _ => AllObj.nil fun N => ?_
    obtain ⟨t, e⟩ := J.fn
    rw [e] at F
    refine wpAny_mono (step v q a t m₁ h tk o hP.1 (by omega) F N) (fun _ s₂ h₂ => wpAny_mono h₂ (fun f s₃ hp => ?_) fun _ _ e => e) fun _ _ e => e
    obtain ⟨rfl, h', tk', m', rfl, F', N', J'⟩ := hp
    refine ⟨h', tk', m', nw, rfl, F', N', fun p hp r hr => ?_, hk, pair_items hk hI step vs qs (rep1 a q) m' hP.2 ?_ J' done⟩
    · rw [List.mem_singleton.mp hr]
      exact Nat.ne_of_lt (hI p hp)
    · obtain ⟨T, u, t, k, _, _, _, _, _, _, h6⟩ := hP.1
      have h1 := rep1_len (a := a) h6
      have h2 : (rep1 a q).length * 6 ^ qs.length ≤ 6 * a.length * 6 ^ qs.length := Nat.mul_le_mul_right _ h1
      have h3 : 6 * a.length * 6 ^ qs.length = a.length * 6 ^ qs.length * 6 := by rw [Nat.mul_comm 6, Nat.mul_right_comm]
      omega
  | [], _ :: _, _, _, hP, _, _, _ => (show False from hP).elim
  | _ :: _, [], _, _, hP, _, _, _ => (show False from hP).elim
end
section
local macro_rules | `(tactic| walk_at "exec For Tuple Name cons nil") => `(tactic| (k_here; (rename Fr _ _ _ _ => lF'); (with_unfolding_all refine' For_turns lF' ?_; k_whole)))
local macro_rules | `(tactic| walk_at "pyIter ref") => `(tactic| (k_here; refine Stop.of ?_))
local macro_rules | `(tactic| k_mem) => `(tactic| first | assumption | (refine List.Mem.tail _ ?_; assumption))
local macro_rules | `(tactic| walk_at "call builtin:str.replace") => `(tactic| (k_here; refine SC.replace (by assumption) (by assumption) (by assumption) (by assumption) (by assumption) ?_; intro t9 k9))
local macro_rules | `(tactic| walk_at "PairStep") => `(tactic| (k_here; refine Stop.of ?_))
variable {w : World} {mean : ExcName → Option Value} {mg mb : Str → Option Value}
theorem replaced_spec {nw : Led} {P : Addr} {ys : List Value} {qs : List (Nat × Str)} {k : Nat} {xt : Str} {tx : Tok} (hm : (P, ({ cls := .type "tuple", data := .seq ys.toArray k } : Obj)) ∈ nw) (hP : PairsAre nw ys qs) (hlen : xt.length * 6 ^ qs.length ≤ 2000000) :
    Spec w mean mg mb 21 1 0 nw [.str xt tx, .ref P] (fun r nw' => nw' = nw ∧ ∃ t', r = .str (rep qs xt) t') := by
  unfold Spec
  k_fill
  w_top off
  intro dp un gd cn cs aa ccd cl outer A₀ base h₀ L m s Q E B F X N T hk hd hu ht hret
  refine wpAny_call ?_
  k_dflt cell_enter
  k_steps
  unfold Stop
  rename Fr _ _ _ _ => hF
  rename News _ _ _ _ => hN
  refine iter_tupTurns (by rfl) hF hN hm (by rfl) (by rfl) ?_
  intro I lI
  refine pair_items (x1 := Str.ofString "sign") (x2 := Str.ofString "told") (y := Str.ofString "text") (nw := nw) (keep := [(P, { cls := .type "tuple", data := .seq ys.toArray k })]) (And.intro hm trivial) lI ?_ ys qs xt _ hP hlen ⟨⟨_, rfl⟩, fun _ _ _ _ => rfl⟩ ?_
  · intro v q a t1 u h tk it hq ha F1 N1
    obtain ⟨T1, u1, t2, k1, rfl, hm1, h1, h2, h3, h4, h5⟩ := hq
    dsimp only [envOf] at F1 N1
    have hsz : a.length + (a.length + 1) * q.2.length ≤ 16777216 := by
      have h6 : (a.length + 1) * q.2.length ≤ (a.length + 1) * 6 := Nat.mul_le_mul_left _ h5
      omega
    have e : Txt.replace a ⟨#[q.1]⟩ q.2 = rep1 a q := replace_tab _ _ _
    k_steps
    unfold Stop
    exact PairStep.intro ‹_› ‹_› (fun p hp => hp) ⟨⟨_, congrArg (fun r => some (Value.str r _)) e⟩, fun z h1 h2 h3 => by simp only [if_neg h1, if_neg h2, if_neg h3]⟩
  · intro t1 u h tk F1 N1
    k_steps
    exact hret _ _ _ _ ‹_› ‹_› ⟨rfl, _, rfl⟩
end
end Mine
end
/-! part S8 -/
section
open PySem PySem.W PyProof.Rows PySem.StrLaws PyProof.V
namespace Mine
theorem gen_toks {α : Type} {M : Model} {A : Around} {t : Sem α} {Q : α → Shared → Prop} {E : Value → Shared → Prop} {s : Shared} (n : Nat) (hn : n ≤ s.toks) (h : ∀ tk, n ≤ tk → wpAny M A t Q E { s with toks := tk }) : wpAny M A t Q E s := h s.toks hn
theorem PairIs.of {nw : Led} {T : Addr} {c : Nat} {x z : Str} {u t : Tok} {k : Nat} (hm : (T, ({ cls := .type "tuple", data := .seq #[.str x u, .str z t] k } : Obj)) ∈ nw) (hx : x = ⟨#[c]⟩) (h1 : u ≠ 0) (h2 : t ≠ 0) (h3 : u ≠ t) (h4 : ((⟨#[c]⟩ : Str) == z) = false) (h5 : z.length ≤ 6) : PairIs nw (.ref T) (c, z) := by
  subst hx
  exact ⟨T, u, t, k, rfl, hm, h1, h2, h3, h4, h5⟩
/-- the pairs and the tables of the text and of a value -/
abbrev qsT : List (Nat × Str) := [(38, Str.ofString "&amp;"), (60, Str.ofString "&lt;"), (62, Str.ofString "&gt;"), (13, Str.ofString "&#xD;")]
abbrev qsV : List (Nat × Str) := [(38, Str.ofString "&amp;"), (60, Str.ofString "&lt;"), (34, Str.ofString "&quot;"), (9, Str.ofString "&#x9;"), (10, Str.ofString "&#xA;"), (13, Str.ofString "&#xD;")]
abbrev qsD : List (Nat × Str) := [(13, Str.ofString "&#xD;")]
def kvOf (qs : List (Nat × Str)) : List (Str × Str) := qs.map fun q => (⟨#[q.1]⟩, q.2)
/-- no text that is put in holds a sign of a later pair -/
def calm : List (Nat × Str) → Bool
  | [] => true
  | q :: r => (q.2.cps.toList.all fun n => decide (lookL (kvOf r) n = [n])) && calm r
theorem rep_tab : ∀ (qs : List (Nat × Str)), calm qs = true → ∀ x, rep qs x = tab (kvOf qs) x
  | [], _, x => (tab_nil x).symm
  | q :: r, h, x => by
    have h1 := Bool.and_eq_true_iff.mp h
    show rep r (rep1 x q) = _
    rw [rep_tab r h1.2]
    exact tab_chain q.1 q.2 (kvOf r) (fun n hn => of_decide_eq_true (List.all_eq_true.mp h1.1 n hn)) x
theorem rep_T (x : Str) : rep qsT x = tab (kvOf qsT) x := rep_tab qsT (by decide +kernel) x
theorem rep_V (x : Str) : rep qsV x = tab (kvOf qsV) x := rep_tab qsV (by decide +kernel) x
theorem rep_D (x : Str) : rep qsD x = tab (kvOf qsD) x := rep_tab qsD (by decide +kernel) x
section
local macro_rules | `(tactic| walk_at "call ref") => `(tactic| (k_here; refine Stop.of ?_))
local macro_rules | `(tactic| walk_at "execs cons") => `(tactic| (k_here; refine wpAny_execs_cons ?_))
variable {w : World} {mean : ExcName → Option Value} {mg mb : Str → Option Value}
theorem canon_text {nw : Led} {xt : Str} {tx : Tok} (hx : xt.length ≤ 40) :
    Spec w mean mg mb 28 2 0 nw [.str xt tx] (fun r nw' => nw' = nw ∧ ∃ t', r = .str (tab (kvOf qsT) xt) t') := by
  unfold Spec
  k_fill
  w_top off
  intro dp un gd cn cs aa ccd cl outer A₀ base h₀ L m s Q E B F X N T hk hd hu ht hret
  refine wpAny_call ?_
  k_dflt cell_enter
  refine @gen_toks _ _ _ _ _ _ _ 1 (Nat.le_add_left 1 _) ?_
  intro tk1 htk1
  dsimp only
  k_steps
  unfold Stop
  rename News _ _ _ _ => hN
  refine' Spec.use (replaced_spec (qs := qsT) (.head _) ?hP ?hl) ?k1 ?k2 ?k3 hN ?k5 ?kK ?kd ?ku ?kt ?_
  (case k1 => k_asm)
  (case k2 => k_asm)
  (case k3 => k_asm)
  (case k5 => k_asm)
  (case kK => exact rfl)
  (case hP => exact ⟨PairIs.of (by k_mem) (by decide +kernel) (by show @Ne Nat _ _; omega) (by show @Ne Nat _ _; omega) (by show @Ne Nat _ _; omega) (by decide +kernel) (by decide +kernel), PairIs.of (by k_mem) (by decide +kernel) (by show @Ne Nat _ _; omega) (by show @Ne Nat _ _; omega) (by show @Ne Nat _ _; omega) (by decide +kernel) (by decide +kernel), PairIs.of (by k_mem) (by decide +kernel) (by show @Ne Nat _ _; omega) (by show @Ne Nat _ _; omega) (by show @Ne Nat _ _; omega) (by decide +kernel) (by decide +kernel), PairIs.of (by k_mem) (by decide +kernel) (by show @Ne Nat _ _; omega) (by show @Ne Nat _ _; omega) (by show @Ne Nat _ _; omega) (by decide +kernel) (by decide +kernel), trivial⟩)
  (case hl => (show xt.length * 1296 ≤ 2000000); omega)
  (case kd => ktr_room)
  (case ku => ktr_units)
  (case kt => exact Nat.zero_le _)
  rintro r nw' h9 tk9 F9 N9 ⟨rfl, t', rfl⟩
  rw [rep_T]
  dsimp only
  k_steps
  exact hret _ _ _ _ ‹_› (news_sub ‹_› fun p hp => by repeat (first | exact hp | refine List.mem_cons_of_mem _ ?_)) ⟨rfl, _, rfl⟩
theorem canon_value {nw : Led} {xt : Str} {tx : Tok} (hx : xt.length ≤ 40) :
    Spec w mean mg mb 35 2 0 nw [.str xt tx] (fun r nw' => nw' = nw ∧ ∃ t', r = .str (tab (kvOf qsV) xt) t') := by
  unfold Spec
  k_fill
  w_top off
  intro dp un gd cn cs aa ccd cl outer A₀ base h₀ L m s Q E B F X N T hk hd hu ht hret
  refine wpAny_call ?_
  k_dflt cell_enter
  refine @gen_toks _ _ _ _ _ _ _ 1 (Nat.le_add_left 1 _) ?_
  intro tk1 htk1
  dsimp only
  k_steps
  unfold Stop
  rename News _ _ _ _ => hN
  refine' Spec.use (replaced_spec (qs := qsV) (.head _) ?hP ?hl) ?k1 ?k2 ?k3 hN ?k5 ?kK ?kd ?ku ?kt ?_
  (case k1 => k_asm)
  (case k2 => k_asm)
  (case k3 => k_asm)
  (case k5 => k_asm)
  (case kK => exact rfl)
  (case hP => exact ⟨PairIs.of (by k_mem) (by decide +kernel) (by show @Ne Nat _ _; omega) (by show @Ne Nat _ _; omega) (by show @Ne Nat _ _; omega) (by decide +kernel) (by decide +kernel), PairIs.of (by k_mem) (by decide +kernel) (by show @Ne Nat _ _; omega) (by show @Ne Nat _ _; omega) (by show @Ne Nat _ _; omega) (by decide +kernel) (by decide +kernel), PairIs.of (by k_mem) (by decide +kernel) (by show @Ne Nat _ _; omega) (by show @Ne Nat _ _; omega) (by show @Ne Nat _ _; omega) (by decide +kernel) (by decide +kernel), PairIs.of (by k_mem) (by decide +kernel) (by show @Ne Nat _ _; omega) (by show @Ne Nat _ _; omega) (by show @Ne Nat _ _; omega) (by decide +kernel) (by decide +kernel), PairIs.of (by k_mem) (by decide +kernel) (by show @Ne Nat _ _; omega) (by show @Ne Nat _ _; omega) (by show @Ne Nat _ _; omega) (by decide +kernel) (by decide +kernel), PairIs.of (by k_mem) (by decide +kernel) (by show @Ne Nat _ _; omega) (by show @Ne Nat _ _; omega) (by show @Ne Nat _ _; omega) (by decide +kernel) (by decide +kernel), trivial⟩)
  (case hl => (show xt.length * 46656 ≤ 2000000); omega)
  (case kd => ktr_room)
  (case ku => ktr_units)
  (case kt => exact Nat.zero_le _)
  rintro r nw' h9 tk9 F9 N9 ⟨rfl, t', rfl⟩
  rw [rep_V]
  dsimp only
  k_steps
  exact hret _ _ _ _ ‹_› (news_sub ‹_› fun p hp => by repeat (first | exact hp | refine List.mem_cons_of_mem _ ?_)) ⟨rfl, _, rfl⟩
end
end Mine
end
/-! part S9 -/
section
open PySem PySem.W PyProof.Rows PySem.StrLaws PyProof.V
namespace Mine
/-- what an instruction is told by -/
def insT (target data : Str) : Str := Str.ofString "<?" ++ target ++ (if (data != Str.ofString "") = true then Str.ofString " " ++ tab (kvOf qsD) data else Str.ofString "") ++ Str.ofString "?>"
section
local macro_rules | `(tactic| walk_at "call ref") => `(tactic| (k_here; refine Stop.of ?_))
local macro_rules | `(tactic| walk_at "execs cons") => `(tactic| (k_here; refine wpAny_execs_cons ?_))
local macro_rules | `(tactic| walk_at "binaryOp Add str str") => `(tactic| (k_here; refine add_str ?_ (by rw [sizeLine_eq]; (try simp only [Str.length_append]); omega); intro t9 tk9))
variable {w : World} {mean : ExcName → Option Value} {mg mb : Str → Option Value}
theorem canon_ins {nw : Led} {target data : Str} {tt td : Tok} (ht3 : target.length ≤ 3) (hx : data.length ≤ 40) :
    Spec w mean mg mb 42 2 0 nw [.str target tt, .str data td] (fun r nw' => nw' = nw ∧ ∃ t', r = .str (insT target data) t') := by
  unfold Spec
  k_fill
  w_top off
  intro dp un gd cn cs aa ccd cl outer A₀ base h₀ L m s Q E B F X N T hk hd hu ht hret
  refine wpAny_call ?_
  k_dflt cell_enter
  refine @gen_toks _ _ _ _ _ _ _ 1 (Nat.le_add_left 1 _) ?_
  intro tk1 htk1
  dsimp only
  have hl1 : (Str.ofString "<?").length = 2 := by decide +kernel
  have hl2 : (Str.ofString "?>").length = 2 := by decide +kernel
  have hl3 : (Str.ofString " ").length = 1 := by decide +kernel
  have hl4 : (Str.ofString "").length = 0 := by decide +kernel
  have hl5 : (tab (kvOf qsD) data).length ≤ 6 * data.length := tab_len (by decide) (by decide +kernel) data
  k_steps
  · unfold Stop
    rename News _ _ _ _ => hN
    rename (data != Str.ofString "") = true => hne
    refine' Spec.use (replaced_spec (qs := qsD) (.head _) ?hP ?hl) ?k1 ?k2 ?k3 hN ?k5 ?kK ?kd ?ku ?kt ?_
    (case k1 => k_asm)
    (case k2 => k_asm)
    (case k3 => k_asm)
    (case k5 => k_asm)
    (case kK => exact rfl)
    (case hP => exact ⟨PairIs.of (by k_mem) (by decide +kernel) (by show @Ne Nat _ _; omega) (by show @Ne Nat _ _; omega) (by show @Ne Nat _ _; omega) (by decide +kernel) (by decide +kernel), trivial⟩)
    (case hl => (show data.length * 6 ≤ 2000000); omega)
    (case kd => ktr_room)
    (case ku => ktr_units)
    (case kt => exact Nat.zero_le _)
    rintro r nw' h9 tk9 F9 N9 ⟨rfl, t', rfl⟩
    rw [rep_D]
    dsimp only
    k_steps
    exact hret _ _ _ _ ‹_› (news_sub ‹_› fun p hp => by repeat (first | exact hp | refine List.mem_cons_of_mem _ ?_)) ⟨rfl, _, congrArg (fun x => Value.str x _) (by unfold insT; rw [if_pos hne])⟩
  · rename (data != Str.ofString "") = false => hne
    exact hret _ _ _ _ ‹_› ‹_› ⟨rfl, _, congrArg (fun x => Value.str x _) (by unfold insT; rw [hne]; rfl)⟩
end
end Mine
end
/-! part S10 -/
section
open PySem PySem.W PyProof.Rows PySem.StrLaws PyProof.V
namespace Mine
section
variable {w : World} {mean : ExcName → Option Value} {mg mb : Str → Option Value}
theorem pool_spec {news : Led} {l : Addr} {vs : List Value} {ns : List Int} (hi : IntsAre vs ns) (hn : ns.length ≤ 63)
    {dp un : Nat} {gd : Option (List Code)} {cn : Str} {cs : Scope} {aa : Addr} {ccd : Value} {cl : List (Str × Addr)} {outer : List Env} {A₀ : Around} {base h₀ : Heap} {L : Addr} {m : Str → Option Value} {s : Shared} {Q E : Value → Shared → Prop}
    (B : Below A₀ base outer h₀) (F : Fr h₀ L s.heap m) (X : (hd.heap_39 w.params).In h₀) (N : News h₀ L s.heap news) (T : Top hd.view_39 (looseW hd.view_39 []) mean mg mb h₀) (hk : cs.kind = .function)
    (hl : base.IsList l vs.toArray) (hd : dp + 1 < recursionLimit) (hu : un + 8 * 1 < cLine)
    (hret : ∀ (S : Addr) (o : Obj) (h' : Heap) (tk' : Nat), Fr h₀ L h' m → News h₀ L h' ((S, o) :: news) → PoolO o → (∀ p ∈ news, p.1 < S) → Q (.ref S) { s with heap := h', toks := tk' }) :
    wpAny (model PySem.Challenge.rw_xm0644_01.row.prog w) (ktrTop dp un gd cn cs L aa ccd cl outer) (call (.ref 49) [.ref l]) Q E s := by
  revert X
  k_fill
  w_top off
  intro X
  refine wpAny_call ?_
  k_dflt cell_enter
  k_steps
  all_goals (
    rename News h₀ _ _ _ => hN
    refine hret _ _ _ _ ‹_› hN ⟨_, _, _, _, _, ?_, Int.fmod_nonneg_of_pos _ (by decide), Int.fmod_lt_of_pos _ (by decide), rfl⟩ ?_
    · omega
    · first | assumption | exact ktn_ltOf (by assumption))
end
end Mine
end
/-! part S11 -/
section
open PySem PySem.W PyProof.Rows PySem.StrLaws PyProof.V
namespace Mine
theorem ne_same {prog : Program} {w : World} {A : Around} {E : Value → Shared → Prop} {s : Shared} {x y : Str} {t u : Tok} {Q : Value → Shared → Prop} (e : x = y) (h : Q (.bool false) s) : wpAny (model prog w) A (compareOp .NotEq (.str x t) (.str y u)) Q E s := by
  subst e
  exact ne_str (by rw [show (x != x) = false from by simp]; exact h)
/-- the table of a display whose keys and values are texts -/
def kvFrom : List (Value × Value) → List (Str × Str)
  | (.str a _, .str b _) :: r => (a, b) :: kvFrom r
  | _ => []
def allStr : List (Value × Value) → Bool
  | (.str _ _, .str _ _) :: r => allStr r
  | [] => true
  | _ => false
theorem allStr_is : ∀ {vs : List (Value × Value)}, allStr vs = true → allStrKeys vs = true ∧ allFlat vs = true ∧ (strPairs vs).map (·.1) = (kvFrom vs).map (·.1) ∧ strData vs = (kvFrom vs).map fun p => (PyData.str p.1, PyData.str p.2)
  | [], _ => ⟨rfl, rfl, rfl, rfl⟩
  | (.str a t, .str b u) :: r, h => by
    obtain ⟨h1, h2, h3, h4⟩ := allStr_is (vs := r) h
    refine ⟨h1, h2, ?_, ?_⟩
    · show a :: (strPairs r).map (·.1) = a :: (kvFrom r).map (·.1)
      rw [h3]
    · show (PyData.str a, PyData.str b) :: strData r = (PyData.str a, PyData.str b) :: _
      rw [h4]
theorem made_tab {w : World} {h₀ h : Heap} {L : Addr} {m : Str → Option Value} {news : Led} {vs : List (Value × Value)} {P : Heap → Prop} (F : Fr h₀ L h m) (N : News h₀ L h news) (hbig : h₀.NoLimit) (hs : allStr vs = true) (hn : ((kvFrom vs).map (·.1)).Nodup)
    (k : ∀ h' o, Fr h₀ L h' m → News h₀ L h' ((h.objs.size, o) :: news) → (∀ p ∈ news, p.1 < h.objs.size) → TabIn w [(h.objs.size, o)] h.objs.size (kvFrom vs) → P h') :
    ∃ kvs, Carries (PySem.strKind PySem.Challenge.rw_xm0644_01.row.prog w) vs kvs ∧ (h.push { cls := .type "dict", data := .dict #[] }).DictOf (PySem.strKind PySem.Challenge.rw_xm0644_01.row.prog w) h.objs.size [] ∧
      ∀ h', h'.DictOf (PySem.strKind PySem.Challenge.rw_xm0644_01.row.prog w) h.objs.size (merged [] kvs) → Heap.SameBut h.objs.size (h.push { cls := .type "dict", data := .dict #[] }) h' → P h' := by
  obtain ⟨h1, h2, h3, h4⟩ := allStr_is hs
  refine kdp_made_str F N hbig h1 (by rw [h3]; exact hn) h2 fun h' o F' N' lt lo hd hf _ => k h' o F' N' lt ⟨lo, o, _, .head _, hd, ?_⟩
  rw [← h4]
  exact hf
theorem pairs_turns {prog : Program} {w : World} {A : Around} {E : Value → Shared → Prop} {s : Shared} {env : Env} {h₀ : Heap} {target : PySem.Expr} {body : List Stmt} {Q : Flow → Shared → Prop} {x1 x2 y : Str} {m : Str → Option Value} {nw0 nw : Led} {P : Addr} {ys : List Value} {k : Nat} {xt : Str} {tx : Tok}
    (hP : ∀ v ∈ ys, PairAt nw0 v) (hl : ys.length ≤ 4) (hh : A.handled = none) (F : Fr h₀ env.locals s.heap m) (N : News h₀ env.locals s.heap nw) (hm : (P, ({ cls := .type "tuple", data := .seq ys.toArray k } : Obj)) ∈ nw) (h0 : ∀ p ∈ nw0, p ∈ nw) (hx : xt.length ≤ 40) (hy : m y = some (.str xt tx))
    (step : ∀ (I : Addr) v q a t (u : Str → Option Value) (s₁ : Shared) it, (∀ p ∈ nw, p.1 < I) → PairIs nw v q → a.length ≤ 2000000 → Fr h₀ env.locals s₁.heap (fun z => if z = y then some (.str a t) else if z = x1 then u z else if z = x2 then u z else m z) → News h₀ env.locals s₁.heap ((I, it) :: nw) →
      wpAny (model prog w) A (assign target env v) (fun _ s₂ => wpAny (model prog w) A (execs body env) (PairStep h₀ env.locals x1 x2 y m s₁ ((I, it) :: nw) (rep1 a q)) E s₂) E s₁)
    (done : ∀ qs t (u : Str → Option Value) h tk, PairsAre nw ys qs → xt.length * 6 ^ qs.length ≤ 2000000 → Fr h₀ env.locals h (fun z => if z = y then some (.str (rep qs xt) t) else if z = x1 then u z else if z = x2 then u z else m z) → News h₀ env.locals h nw → Q .next { s with heap := h, toks := tk }) :
    wpAny (model prog w) A (pyIter (.ref P)) (fun it s₂ => TurnsAt prog w A h₀ env target body Q E it s₂) E s := by
  obtain ⟨qs, hq⟩ := PairsAre.of hP
  have hq' : PairsAre nw ys qs := hq.mono h0
  have hl' : qs.length ≤ 4 := by rw [← hq'.length]; exact hl
  have hlen : xt.length * 6 ^ qs.length ≤ 2000000 := by
    have h1 : 6 ^ qs.length ≤ 6 ^ 4 := Nat.pow_le_pow_right (by decide) hl'
    have h2 : xt.length * 6 ^ qs.length ≤ 40 * 6 ^ 4 := Nat.mul_le_mul hx h1
    exact Nat.le_trans h2 (by decide)
  refine iter_tupTurns hh F N hm rfl rfl fun I lI => ?_
  exact pair_items (keep := [(P, { cls := .type "tuple", data := .seq ys.toArray k })]) (And.intro hm trivial) lI (fun v q a t u h tk it h1 h2 h3 h4 => step I v q a t u { s with heap := h, toks := tk } it lI h1 h2 h3 h4) ys qs xt m hq' hlen ⟨⟨tx, hy⟩, fun _ _ _ _ => rfl⟩
    fun t u h tk F' N' => done qs t u h tk hq' hlen F' N'
abbrev kvD : List (Str × Str) := [(Str.ofString "\r", Str.ofString "&#xD;")]
theorem kvD_is : kvD = kvOf qsD := by decide +kernel
/-- the law's own telling of an instruction, joined -/
theorem join_due {prog : Program} {w : World} {A : Around} {E : Value → Shared → Prop} {s : Shared} {h₀ : Heap} {L D : Addr} {news : Led} {target b x : Str} {t t1 t2 t3 t4 t5 : Tok} {n : Nat} {Q : Value → Shared → Prop} (N : News h₀ L s.heap news)
    (hm : (D, listOf [.str (Str.ofString "<?") t1, .str target t2, .str b t3, .str (tab kvD x) t4, .str (Str.ofString "?>") t5].toArray n) ∈ news) (ht : target.length ≤ 3) (hx : x.length ≤ 40)
    (hb : (b = Str.ofString " " ∧ 0 < x.length) ∨ (b = Str.ofString "" ∧ x.length = 0)) (h : ∀ t' k, s.toks ≤ k → Q (.str (insT target x) t') { s with toks := k }) :
    wpAny (model prog w) A (call (.builtin "str.join") [.str (Str.ofString "") t, .ref D]) Q E s := by
  have hl1 : (Str.ofString "<?").length = 2 := by decide +kernel
  have hl2 : (Str.ofString "?>").length = 2 := by decide +kernel
  have hl3 : (Str.ofString " ").length = 1 := by decide +kernel
  have hl4 : (Str.ofString "").length = 0 := by decide +kernel
  have hl5 : (tab kvD x).length ≤ 6 * x.length := tab_len (by decide) (by decide +kernel) x
  have hl6 : b.length ≤ 1 := by rcases hb with ⟨rfl, _⟩ | ⟨rfl, _⟩ <;> omega
  have e : Txt.join (Str.ofString "") [Str.ofString "<?", target, b, tab kvD x, Str.ofString "?>"] = insT target x := by
    have e1 : Txt.join (Str.ofString "") [Str.ofString "<?", target, b, tab kvD x, Str.ofString "?>"] = Str.join (Str.ofString "") [Str.ofString "<?", target, b, tab kvD x, Str.ofString "?>"] := StrLaws.glued_eq_join _ _
    have e0 : Str.ofString "" = Str.empty := by decide +kernel
    rw [e1, e0]
    show Str.ofString "<?" ++ Str.empty ++ (target ++ Str.empty ++ (b ++ Str.empty ++ (tab kvD x ++ Str.empty ++ Str.ofString "?>"))) = insT target x
    simp only [Str.append_empty]
    unfold insT
    rw [kvD_is, e0]
    rcases hb with ⟨rfl, hp⟩ | ⟨rfl, hp⟩
    · have hne : (x != Str.empty) = true := by
        rw [bne_iff_ne]
        rintro rfl
        exact absurd hp (by decide)
      rw [if_pos hne]
      simp only [Str.append_assoc]
    · have hx0 : x = Str.empty := by
        refine str_eq ?_
        have h0 : x.cps.toList.length = 0 := by simpa [Str.length] using hp
        exact List.eq_nil_of_length_eq_zero h0
      subst hx0
      have ht0 : tab (kvOf qsD) Str.empty = Str.empty := by decide +kernel
      rw [ht0, e0]
      have hne : ¬ (Str.empty != Str.empty) = true := by decide
      rw [if_neg hne]
      simp only [Str.append_assoc, Str.empty_append]
  refine wpAny_with_toks (Nat.le_refl s.toks) (join_listW (News.isList N hm) (.cons _ _ (.cons _ _ (.cons _ _ (.cons _ _ (.cons _ _ .nil))))) (by omega) ?_ fun t' k le => ?_)
  · simp only [List.map_cons, List.map_nil, List.sum_cons, List.sum_nil, List.length_cons, List.length_nil]
    omega
  · rw [e]
    exact h t' k le
/-- a display whose keys are texts, written or not -/
theorem dict_texts {prog : Program} {w : World} {A : Around} {E : Value → Shared → Prop} {s : Shared} {h₀ : Heap} {L : Addr} {m : Str → Option Value} {env : Env} {keys : List (Option PySem.Expr)} {values : List PySem.Expr} {pos : Pos} {Q : Value → Shared → Prop} (F : Fr h₀ L s.heap m)
    (hall : keys.all (·.isSome) = true) (hl : keys.length = values.length) (h0 : keys ≠ []) (hlen : keys.length ≤ 15)
    (h : Fr h₀ L (s.heap.push { cls := .type "dict", data := .dict #[] }) m →
      wpAny (model prog w) A (evalPairs (pairTrees keys values env pos)) (fun vs s₁ => ∃ kvs, Carries (strKind prog w) vs kvs ∧ s₁.heap.DictOf (strKind prog w) s.heap.objs.size [] ∧
        ∀ h', h'.DictOf (strKind prog w) s.heap.objs.size (merged [] kvs) → Heap.SameBut s.heap.objs.size s₁.heap h' → Q (.ref s.heap.objs.size) { s₁ with heap := h', toks := s₁.toks + vs.length }) E
        { s with heap := s.heap.push { cls := .type "dict", data := .dict #[] } }) :
    wpAny (model prog w) A (eval (.Dict keys values pos) env) Q E s := Dict_made F hall hl h0 hlen h
/-- what the law's loop knows of the two tables and of the pool's place -/
abbrev kvI : List (Str × Str) := [(Str.ofString "&", Str.ofString "&amp;"), (Str.ofString "<", Str.ofString "&lt;"), (Str.ofString ">", Str.ofString "&gt;"), (Str.ofString "\r", Str.ofString "&#xD;")]
abbrev kvQ : List (Str × Str) := [(Str.ofString "&", Str.ofString "&amp;"), (Str.ofString "<", Str.ofString "&lt;"), (Str.ofString "\"", Str.ofString "&quot;"), (Str.ofString "\t", Str.ofString "&#x9;"), (Str.ofString "\n", Str.ofString "&#xA;"), (Str.ofString "\r", Str.ofString "&#xD;")]
theorem kvI_is : kvI = kvOf qsT := by decide +kernel
theorem kvQ_is : kvQ = kvOf qsV := by decide +kernel
def LawFacts (w : World) (S di dq : Addr) (oi oq : Obj) : Prop := TabIn w [(di, oi)] di (kvOf qsT) ∧ TabIn w [(dq, oq)] dq (kvOf qsV) ∧ dq ≠ S ∧ di ≠ S
abbrev lawM (S di dq : Addr) (u : Str → Option Value) : Str → Option Value := fun z => if z = Str.ofString "source" then some (.ref S) else if z = Str.ofString "inner" then some (.ref di) else if z = Str.ofString "quoted" then some (.ref dq) else u z
def LawJ (S di dq : Addr) (m : Str → Option Value) : Prop := m (Str.ofString "source") = some (.ref S) ∧ m (Str.ofString "inner") = some (.ref di) ∧ m (Str.ofString "quoted") = some (.ref dq)
theorem LawJ.fn {S di dq : Addr} {m : Str → Option Value} (J : LawJ S di dq m) : m = lawM S di dq m := by
  funext z
  unfold lawM
  by_cases h1 : z = Str.ofString "source"
  · rw [if_pos h1, h1, J.1]
  · rw [if_neg h1]
    by_cases h2 : z = Str.ofString "inner"
    · rw [if_pos h2, h2, J.2.1]
    · rw [if_neg h2]
      by_cases h3 : z = Str.ofString "quoted"
      · rw [if_pos h3, h3, J.2.2]
      · rw [if_neg h3]
/-- what a turn of the law's loop ends with -/
def LawEnd (h₀ : Heap) (L : Addr) (s : Shared) (S di dq : Addr) (oi oq : Obj) (own : Led) (f : Flow) (s₂ : Shared) : Prop :=
  f = .next ∧ ∃ h' tk' o' m', s₂ = { s with heap := h', toks := tk' } ∧ Fr h₀ L h' m' ∧ News h₀ L h' ((dq, oq) :: (di, oi) :: (S, o') :: own) ∧ PoolO o' ∧ LawJ S di dq m'
theorem LawEnd.intro {h₀ : Heap} {L : Addr} {s : Shared} {S di dq : Addr} {oi oq : Obj} {own all : Led} {h' : Heap} {tk' : Nat} {m' : Str → Option Value} (o' : Obj) (F : Fr h₀ L h' m') (N : News h₀ L h' all) (hs : ∀ p ∈ (dq, oq) :: (di, oi) :: (S, o') :: own, p ∈ all) (ho : PoolO o') (J : LawJ S di dq m') :
    LawEnd h₀ L s S di dq oi oq own .next { s with heap := h', toks := tk' } := ⟨rfl, h', tk', o', m', rfl, F, fun p hp => N p (hs p hp), ho, J⟩
theorem law_range {prog : Program} {w : World} {A : Around} {E : Value → Shared → Prop} {s : Shared} {env : Env} {h₀ : Heap} {x : Str} {body : List Stmt} {Q : Flow → Shared → Prop} {r : Addr} {t u v : Tok} {m : Str → Option Value} {S di dq : Addr} {oS oi oq : Obj}
    (hh : A.handled = none) (hr : IsRange s.heap r 0 3 1 t u v) (F : Fr h₀ env.locals s.heap m) (N : News h₀ env.locals s.heap [(dq, oq), (di, oi), (S, oS)]) (ho : PoolO oS) (J : LawJ S di dq m) (hx : x ≠ Str.ofString "source" ∧ x ≠ Str.ofString "inner" ∧ x ≠ Str.ofString "quoted")
    (W : LawFacts w S di dq oi oq)
    (turn : ∀ (S di dq : Addr) (oS oi oq : Obj) (u : Str → Option Value) (s₁ : Shared) (own : Led), LawFacts w S di dq oi oq → PoolO oS → (∀ p ∈ own, p.1 ≠ S) → Fr h₀ env.locals s₁.heap (lawM S di dq u) → News h₀ env.locals s₁.heap ((dq, oq) :: (di, oi) :: (S, oS) :: own) →
      wpAny (model prog w) A (execs body env) (LawEnd h₀ env.locals s₁ S di dq oi oq own) E s₁)
    (done : ∀ m' h tk nx, Fr h₀ env.locals h m' → News h₀ env.locals h nx → Q .next { s with heap := h, toks := tk }) :
    wpAny (model prog w) A (pyIter (.ref r)) (fun it s₂ => LoopAtV prog w A h₀ env x body Q E it s₂) E s := by
  refine iter_rangeS (σ := Unit) (n := 3) (fun _ m nx => ∃ o, PoolO o ∧ nx = [(dq, oq), (di, oi), (S, o)] ∧ LawJ S di dq m) (fun _ _ => ()) () hh hr (by decide) (by decide) F N ⟨oS, ho, rfl, J⟩ ?_ ?_
  · rintro k t a m₁ nx h tk own _ hoff ⟨o, ho', rfl, J'⟩ F₁ N₁
    have J₁ : LawJ S di dq (fun y => if y = x then some (.int k t) else m₁ y) := ⟨(if_neg (Ne.symm hx.1)).trans J'.1, (if_neg (Ne.symm hx.2.1)).trans J'.2.1, (if_neg (Ne.symm hx.2.2)).trans J'.2.2⟩
    rw [J₁.fn] at F₁
    refine wpAny_mono (turn S di dq o oi oq _ { s with heap := h, toks := tk } own W ho' (fun p hp => hoff p hp S (by simp)) F₁ N₁) (fun f s₂ p => ?_) fun _ _ e => e
    obtain ⟨rfl, h', tk', o', m', rfl, F', N', ho'', J''⟩ := p
    exact InvEndN.intro F' N' ⟨o', ho'', rfl, J''⟩ rfl (fun p hp => by simp only [List.mem_cons, List.not_mem_nil, or_false] at hp ⊢; rcases hp with rfl | rfl | rfl <;> simp) (fun p hp => by simp only [List.mem_cons]; exact .inr (.inr (.inr hp)))
  · rintro m₁ nx h tk ⟨o, ho', rfl, J'⟩ F₁ N₁
    exact done m₁ h tk _ F₁ N₁
end Mine
end
/-! part S12 -/
section
open PySem PySem.W PyProof.Rows PySem.StrLaws PyProof.V
namespace Mine
theorem SpecT.use {w : World} {mean : ExcName → Option Value} {mg mb : Str → Option Value} {f : Addr} {d nl : Nat} {news : Led} {vs : List Value} {Post : Value → Led → Prop} (S : SpecT w mean mg mb f d nl news vs Post)
    {dp un : Nat} {gd : Option (List Code)} {cn : Str} {cs : Scope} {a : Addr} {ccd : Value} {cl : List (Str × Addr)} {outer : List Env} {A₀ : Around} {base h₀ : Heap} {L : Addr} {m : Str → Option Value} {s : Shared} {Q E : Value → Shared → Prop}
    (B : Below A₀ base outer h₀) (F : Fr h₀ L s.heap m) (X : (hd.heap_39 w.params).In h₀) (N : News h₀ L s.heap news) (T : Top hd.view_39 (looseW hd.view_39 []) mean mg mb h₀) (hk : cs.kind = .function)
    (hd : dp + d < recursionLimit) (hu : un + 8 * d < cLine)
    (ret : ∀ (r : Value) (nw : Led) (h' : Heap) (tk' : Nat), nl ≤ tk' → Fr h₀ L h' m → News h₀ L h' nw → Post r nw → Q r { s with heap := h', toks := tk' }) :
    wpAny (model PySem.Challenge.rw_xm0644_01.row.prog w) (ktrTop dp un gd cn cs L a ccd cl outer) (call (.ref f) vs) Q E s := S _ _ _ _ _ _ _ _ _ _ _ _ _ _ _ _ _ B F X N T hk hd hu ret
theorem pick3 {vs : List Value} {r : Value} (h : r ∈ vs) (hv : ∀ v ∈ vs, ∃ x t, v = Value.str x t ∧ x.length ≤ 3) : ∃ x t, r = Value.str x t ∧ x.length ≤ 3 := hv r h
section
local macro_rules | `(tactic| k_all) => `(tactic| assumption)
local macro_rules | `(tactic| walk_at "compareOp NotEq str str") => `(tactic| (k_here; refine ne_same (by first | assumption | rfl | decide +kernel) ?_))
local macro_rules | `(tactic| walk_at "pyIter ref") => `(tactic| (k_here; refine Stop.of ?_))
local macro_rules | `(tactic| walk_at "LawEnd") => `(tactic| (k_here; refine Stop.of ?_))
local macro_rules | `(tactic| walk_at "exec For Tuple Name cons nil") => `(tactic| (k_here; (rename Fr _ _ _ _ => lF'); (with_unfolding_all refine' For_turns lF' ?_; k_whole)))
local macro_rules | `(tactic| walk_at "Exists") => `(tactic| (k_here; (refine made_tab (by k_asm) (by first | k_asm | exact News.nil) (Top.nolimit (by k_asm)) (by rfl) (of_decide_eq_true (by rfl)) ?_); intro h' o' F' N' l1 hT'; (try k_lt l1); (try dsimp only [kvFrom] at hT')))
local macro_rules | `(tactic| walk_at "execs cons") => `(tactic| (k_here; (refine @gen_toks _ _ _ _ _ _ _ 1 (by (try dsimp only); omega) ?_); intro tk9 le9; (try dsimp only); refine wpAny_execs_cons ?_))
local macro_rules | `(tactic| walk_at "call type:tuple") => `(tactic| (k_here; (with_reducible show wpAny _ _ (call (Value.type _) [Value.ref _]) _ _ _); k_dflt (refine' kde_tupleOf ?k1 ?k2 ?k3 ?k4 ?k5 ?_; (case k1 => k_asm); (case k2 => k_asm); (case k3 => exact News.isList (by k_asm) (by assumption)); (case k4 => rw [List.size_toArray]; omega); (case k5 => exact rfl); k_whole); intro D' h' F' N' l1; (try k_lt l1); (try k_sweep)))
local macro_rules | `(tactic| walk_at "call ref") => `(tactic| (k_here; k_dflt (
  refine' Spec.useT (canon_value ?h1) ?k1 ?k2 ?k3 ?k4 ?k5 ?kK ?kd ?ku ?kt ?_
  (case k1 => k_asm)
  (case k2 => k_asm)
  (case k3 => k_asm)
  (case k4 => k_asm)
  (case k5 => k_asm)
  (case kK => first | exact rfl | assumption)
  (case h1 => first | assumption | decide +kernel)
  (case kd => ktr_room)
  (case ku => ktr_units)
  (case kt => exact Nat.zero_le _)
  intro r9 nw9 h9 tk9 le9 F9 N9 hp9
  obtain ⟨en9, tt9, er9⟩ := hp9
  subst er9 en9
  (try dsimp only)
  (try k_fold))))
local macro_rules | `(tactic| walk_at "call ref") => `(tactic| (k_here; k_dflt (
  refine' Spec.useT (canon_text ?h1) ?k1 ?k2 ?k3 ?k4 ?k5 ?kK ?kd ?ku ?kt ?_
  (case k1 => k_asm)
  (case k2 => k_asm)
  (case k3 => k_asm)
  (case k4 => k_asm)
  (case k5 => k_asm)
  (case kK => first | exact rfl | assumption)
  (case h1 => first | assumption | decide +kernel)
  (case kd => ktr_room)
  (case ku => ktr_units)
  (case kt => exact Nat.zero_le _)
  intro r9 nw9 h9 tk9 le9 F9 N9 hp9
  obtain ⟨en9, tt9, er9⟩ := hp9
  subst er9 en9
  (try dsimp only)
  (try k_fold))))
local macro_rules | `(tactic| walk_at "call ref") => `(tactic| (k_here; k_dflt (
  refine' Spec.useT (canon_ins ?h1 ?h2) ?k1 ?k2 ?k3 ?k4 ?k5 ?kK ?kd ?ku ?kt ?_
  (case k1 => k_asm)
  (case k2 => k_asm)
  (case k3 => k_asm)
  (case k4 => k_asm)
  (case k5 => k_asm)
  (case kK => first | exact rfl | assumption)
  (case h1 => assumption)
  (case h2 => assumption)
  (case kd => ktr_room)
  (case ku => ktr_units)
  (case kt => exact Nat.zero_le _)
  intro r9 nw9 h9 tk9 le9 F9 N9 hp9
  obtain ⟨en9, tt9, er9⟩ := hp9
  subst er9 en9
  (try dsimp only)
  (try k_fold))))
local macro_rules | `(tactic| walk_at "call ref") => `(tactic| (k_here; k_dflt (
  refine' Spec.useT (text_spec ?U ?h2) ?k1 ?k2 ?k3 ?k4 ?k5 ?kK ?kd ?ku ?kt ?_
  (case k1 => k_asm)
  (case k2 => k_asm)
  (case k3 => k_asm)
  (case k4 => k_asm)
  (case k5 => k_asm)
  (case kK => first | exact rfl | assumption)
  (case U => k_updF)
  (case h2 => assumption)
  (case kd => ktr_room)
  (case ku => ktr_units)
  (case kt => exact Nat.zero_le _)
  intro r9 nw9 h9 tk9 le9 F9 N9 hp9
  obtain ⟨o9, ⟨ho9, x9, t9, er9, hx9⟩, en9⟩ := hp9
  subst er9 en9
  (try dsimp only)
  (try k_fold))))
local macro_rules | `(tactic| walk_at "call ref") => `(tactic| (k_here; k_dflt (
  refine' Spec.useT (one_spec ?U ?h2 ?h3 ?h4 ?h5 ?h6) ?k1 ?k2 ?k3 ?k4 ?k5 ?kK ?kd ?ku ?kt ?_
  (case k1 => k_asm)
  (case k2 => k_asm)
  (case k3 => k_asm)
  (case k4 => k_asm)
  (case k5 => k_asm)
  (case kK => first | exact rfl | assumption)
  (case U => k_updF)
  (case h2 => assumption)
  (case h3 => k_mem)
  (case h4 => k_ne)
  (case h5 => exact Nat.le_of_ble_eq_true rfl)
  (case h6 => exact Nat.le_of_ble_eq_true rfl)
  (case kd => ktr_room)
  (case ku => ktr_units)
  (case kt => exact Nat.zero_le _)
  intro r9 nw9 h9 tk9 le9 F9 N9 hp9
  obtain ⟨o9, ⟨ho9, hv9⟩, en9⟩ := hp9
  subst en9
  obtain ⟨y9, ty9, er9, hy9⟩ := pick3 hv9 (by repeat' (first | exact List.forall_mem_nil _ | refine List.forall_mem_cons.mpr ⟨⟨_, _, rfl, by decide +kernel⟩, ?_⟩))
  subst er9
  clear hv9
  (try dsimp only)
  (try k_fold))))
local macro_rules | `(tactic| walk_at "call ref") => `(tactic| (k_here; k_dflt (
  refine' SpecT.use (by_table_spec ?h1 ?h2 ?h3) ?k1 ?k2 ?k3 ?k4 ?k5 ?kK ?kd ?ku ?_
  (case k1 => k_asm)
  (case k2 => k_asm)
  (case k3 => k_asm)
  (case k4 => k_asm)
  (case k5 => k_asm)
  (case kK => first | exact rfl | assumption)
  (case h1 => first | assumption | (refine' TabIn.mono ?_ (by assumption); intro p9 hp9; rw [List.mem_singleton.mp hp9]; k_mem))
  (case h2 => first | decide +kernel | (intro p9 hp9; rw [List.mem_singleton.mp hp9]; (try dsimp only); omega))
  (case h3 => first | assumption | omega)
  (case kd => ktr_room)
  (case ku => ktr_units)
  intro r9 nw9 h9 tk9 le9 F9 N9 hp9
  obtain ⟨en9, tt9, er9⟩ := hp9
  subst er9 en9
  (try dsimp only)
  (try k_fold))))
local macro_rules | `(tactic| walk_at "call ref") => `(tactic| (k_here; k_dflt (
  refine' Spec.useT (pairs_spec ?U ?h2) ?k1 ?k2 ?k3 ?k4 ?k5 ?kK ?kd ?ku ?kt ?_
  (case k1 => k_asm)
  (case k2 => k_asm)
  (case k3 => k_asm)
  (case k4 => k_asm)
  (case k5 => k_asm)
  (case kK => first | exact rfl | assumption)
  (case U => k_updF)
  (case h2 => assumption)
  (case kd => ktr_room)
  (case ku => ktr_units)
  (case kt => ((try dsimp only); omega))
  intro r9 nw9 h9 tk9 le9 F9 N9 hp9
  obtain ⟨o9, D9, ys9, ho9, er9, hl9, hD9, hP9, hs9⟩ := hp9
  subst er9
  (try dsimp only)
  (try k_fold))))
local macro_rules | `(tactic| walk_at "call ref") => `(tactic| (k_here; k_dflt (
  refine' pool_spec ?h1 ?h2 ?k1 ?k2 ?k3 ?k4 ?k5 ?kK ?h3 ?kd ?ku ?_
  (case k1 => k_asm)
  (case k2 => k_asm)
  (case k3 => k_asm)
  (case k4 => k_asm)
  (case k5 => k_asm)
  (case kK => first | exact rfl | assumption)
  (case h3 => k_asm)
  (case h1 => k_asm)
  (case h2 => omega)
  (case kd => ktr_room)
  (case ku => ktr_units)
  intro S9 o9 h9 tk9 F9 N9 ho9 l9
  (try k_lt l9)
  (try dsimp only)
  (try k_fold))))
local macro_rules | `(tactic| walk_at "call builtin:str.join") => `(tactic| (k_here; (refine join_due (by k_asm) (by k_mem) (by assumption) (by assumption) (by first | exact .inl ⟨rfl, by omega⟩ | exact .inr ⟨rfl, by omega⟩) ?_); intro t9 k9 le9; (try dsimp only at le9); (try dsimp only)))
local macro_rules | `(tactic| walk_at "PairStep") => `(tactic| (k_here; refine Stop.of ?_))
local macro_rules | `(tactic| walk_at "call ref") => `(tactic| (k_here; k_dflt (
  refine' Spec.useT (replaced_spec ?h1 ?h2 ?h3) ?k1 ?k2 ?k3 ?k4 ?k5 ?kK ?kd ?ku ?kt ?_
  (case k1 => k_asm)
  (case k2 => k_asm)
  (case k3 => k_asm)
  (case k4 => k_asm)
  (case k5 => k_asm)
  (case kK => first | exact rfl | assumption)
  (case h2 => assumption)
  (case h3 => assumption)
  (case h1 => k_mem)
  (case kd => ktr_room)
  (case ku => ktr_units)
  (case kt => exact Nat.zero_le _)
  intro r9 nw9 h9 tk9 le9 F9 N9 hp9
  obtain ⟨en9, tt9, er9⟩ := hp9
  subst er9 en9
  (try dsimp only)
  (try k_fold))))
local macro_rules | `(tactic| walk_at "eval Dict") => `(tactic| (k_here; k_dflt (refine' dict_texts ?k1 ?k2 ?k3 ?k4 ?k5 ?_; (case k1 => k_asm); (case k2 => exact rfl); (case k3 => exact rfl); (case k4 => exact List.cons_ne_nil _ _); (case k5 => exact Nat.le_of_ble_eq_true rfl)); intro F9))
theorem holds : PySem.Challenge.rw_xm0644_01.Holds := hd (by
  k_go0
  (all_goals try k_fold)
  k_steps
  unfold Stop
  rename Fr _ _ _ _ => hF
  rename News _ _ _ _ => hN
  rename PoolO _ => hO
  k_dflt (refine' law_range (by rfl) (by assumption) hF hN hO ⟨?a1, ?a2, ?a3⟩ (by decide) ⟨?b1, ?b2, ?b3, ?b4⟩ ?turn ?done)
  (case a1 => rfl)
  (case a2 => rfl)
  (case a3 => rfl)
  (case b1 => rw [← kvI_is]; assumption)
  (case b2 => rw [← kvQ_is]; assumption)
  (case b3 => k_ne)
  (case b4 => k_ne)
  (case done =>
    intro m' h tk nx F9 N9
    k_steps)
  (case turn =>
    clear hF hN hO
    intro S di dq oS oi oq u s₁ own W hO hown F1 N1
    obtain ⟨hTi, hTq, hn1, hn2⟩ := W
    dsimp only [envOf] at F1 N1
    k_steps
    all_goals (
      unfold Stop
      rename Fr _ _ _ _ => hF
      rename News _ _ _ _ => hN
      rename (∀ p, p ∈ _ → p ∈ _) => hs
      k_dflt (refine' pairs_turns (x1 := Str.ofString "sign") (x2 := Str.ofString "put") (y := Str.ofString "due") (by assumption) (by assumption) (by rfl) hF hN (.tail _ (.head _)) (fun p hp => .tail _ (.tail _ hp)) (by assumption) (by rfl) ?step ?done)
      (case step =>
        intro I v q a t1 u1 s2 it lI hq ha F2 N2
        obtain ⟨T1, u2, t2, k1, rfl, hm1, h1, h2, h3, h4, h5⟩ := hq
        dsimp only [envOf] at F2 N2
        have hT1 := News.isTup N2 (List.Mem.tail _ hm1)
        k_steps
        unfold Stop
        exact PairStep.intro ‹_› ‹_› (fun p hp => by repeat (first | exact hp | refine List.mem_cons_of_mem _ ?_)) ⟨⟨_, rfl⟩, fun z h1 h2 h3 => by simp only [if_neg h1, if_neg h2, if_neg h3]⟩)
      (case done =>
        intro qs t1 u1 h tk hq hlen F2 N2
        k_steps
        unfold Stop
        exact LawEnd.intro _ ‹_› ‹_› (fun p hp => .tail _ (.tail _ (hs p (by repeat (first | exact hp | refine List.mem_cons_of_mem _ ?_))))) ‹_› ⟨rfl, rfl, rfl⟩))
))
end
end Mine
end
theorem PySem.Challenge.cw_xm0644_01_holds : PySem.Challenge.rw_xm0644_01.Holds :=
  Mine.holds
