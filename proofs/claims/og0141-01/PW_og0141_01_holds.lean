import PyProof.Rows.All
import Wide.All
import OpenK.AllK
import Wide.FinOn
import Lean
import PySem.Challenge.RW_og0141_01
open PySem PySem.W PyProof.Rows
set_option Elab.async false
set_option maxRecDepth 100000
set_option maxHeartbeats 8000000
set_option compiler.extract_closed false
namespace Mine
local macro_rules | `(tactic| k_all) => `(tactic| assumption)
local macro_rules | `(tactic| walk_at $s:str) => `(tactic| k_extra $s)
open_top hd for PySem.Challenge.rw_og0141_01
/-- what a call of the text's def at f, with these arguments and this ledger, hands back -/
def CallOf (w : World) (f : Addr) (vs : List Value) (news : List (Addr × Obj)) (nd nu : Nat) (Post : Value → List (Addr × Obj) → Prop) : Prop :=
  ∀ (p : Program) (loose : List Str) (mean : ExcName → Option Value) (mg mb : Str → Option Value)
    (dp un : Nat) (gd : Option (List Code)) (cn : Str) (cs : Scope) (a : Addr) (ccd : Value) (cl : List (Str × Addr)) (outer : List Env) (A₀ : Around) (base h₀ : Heap) (L : Addr) (m : Str → Option Value) (s : Shared) (Q E : Value → Shared → Prop),
    Below A₀ base outer h₀ → Fr h₀ L s.heap m → (hd.heap_39 w.params).In h₀ → News h₀ L s.heap news → Top p loose mean mg mb h₀ → cs.kind = .function →
    dp + nd < recursionLimit → un + nu < cLine →
    (∀ v news' h' tk', Post v news' → Fr h₀ L h' m → News h₀ L h' news' → Q v { s with heap := h', toks := tk' }) →
    wpAny (model PySem.Challenge.rw_og0141_01.row.prog w) (ktrTop dp un gd cn cs L a ccd cl outer) (call (.ref f) vs) Q E s

theorem callOf_use {w : World} {f : Addr} {vs : List Value} {news news₀ : List (Addr × Obj)} {nd nu : Nat} {Post : Value → List (Addr × Obj) → Prop} (C : CallOf w f vs news nd nu Post)
    {p : Program} {loose : List Str} {mean : ExcName → Option Value} {mg mb : Str → Option Value}
    {dp un : Nat} {gd : Option (List Code)} {cn : Str} {cs : Scope} {a : Addr} {ccd : Value} {cl : List (Str × Addr)} {outer : List Env} {A₀ : Around} {base h₀ : Heap} {L : Addr} {m : Str → Option Value} {s : Shared} {Q E : Value → Shared → Prop}
    (B : Below A₀ base outer h₀) (F : Fr h₀ L s.heap m) (X : (hd.heap_39 w.params).In h₀) (N : News h₀ L s.heap news₀) (T : Top p loose mean mg mb h₀) (hk : cs.kind = .function)
    (hs : ∀ q ∈ news, q ∈ news₀) (hd : dp + nd < recursionLimit) (hu : un + nu < cLine)
    (ret : ∀ v news' h' tk', Post v news' → Fr h₀ L h' m → News h₀ L h' news' → Q v { s with heap := h', toks := tk' }) :
    wpAny (model PySem.Challenge.rw_og0141_01.row.prog w) (ktrTop dp un gd cn cs L a ccd cl outer) (call (.ref f) vs) Q E s :=
  C _ _ _ _ _ _ _ _ _ _ _ _ _ _ _ _ _ _ _ _ _ _ B F X (cb_drop N hs) T hk hd hu ret

/-- the pen: its list at pa, the list of what is left to draw from at qa -/
def Pen (qa : Addr) (o1 o2 : Obj) : Prop :=
  ∃ (c r : Int) (tc tr : Tok) (vs : List Value) (ns : List Int) (n1 n2 : Nat), IntsAre vs ns ∧ vs.length ≤ 63 ∧ o1 = W.listOf #[.ref qa, .int c tc, .int r tr] n1 ∧ o2 = W.listOf vs.toArray n2

theorem pen_of {qa : Addr} {c r : Int} {tc tr : Tok} {vs : List Value} {ns : List Int} {n1 n2 : Nat} (hi : IntsAre vs ns) (hz : vs.length ≤ 63) : Pen qa (W.listOf #[.ref qa, .int c tc, .int r tr] n1) (W.listOf vs.toArray n2) :=
  ⟨c, r, tc, tr, vs, ns, n1, n2, hi, hz, rfl, rfl⟩

theorem pop0 {prog : Program} {w : World} {A : Around} {E : Value → Shared → Prop} {s : Shared} {h₀ : Heap} {L D : Addr} {m : Str → Option Value} {news news' : List (Addr × Obj)} {us : List Value} {ns : List Int} {n : Nat} {u : Tok} {Q : Value → Shared → Prop}
    (F : Fr h₀ L s.heap m) (N : News h₀ L s.heap news) (hi : IntsAre us ns) (hne : decide (ns = []) = false) (U : Upd D (W.listOf us.toArray n) (W.listOf us.tail.toArray (n + 1)) news news') (hz : us.length ≤ 63)
    (h : ∀ h' t, Fr h₀ L h' m → News h₀ L h' news' → IntsAre us.tail ns.tail → us.tail.length ≤ 63 → Q (.int (ns.headD 0) t) { s with heap := h' }) :
    wpAny (model prog w) A (call (.builtin "list.pop") [.ref D, .int 0 u]) Q E s := by
  cases hi with
  | nil => simp at hne
  | cons k t hr =>
    refine kl_popAt F N (k := 0) (p := []) (y := .int k t) (q := _) (by decide +kernel) ?_ rfl U ?_ fun h' F' N' => h h' t F' N' hr (by simp at hz ⊢; omega)
    · simp [seqIndex?]
    · rw [PySem.sizeLine_eq]; simp at hz ⊢; omega
/-- l' is l without x -/
inductive Pull (x : Addr × Obj) : List (Addr × Obj) → List (Addr × Obj) → Prop
  | head {l : List (Addr × Obj)} : Pull x (x :: l) l
  | tail {y : Addr × Obj} {l l' : List (Addr × Obj)} (h : Pull x l l') : Pull x (y :: l) (y :: l')
theorem Pull.mem {x : Addr × Obj} {l l' : List (Addr × Obj)} (h : Pull x l l') : ∀ q ∈ x :: l', q ∈ l := by
  induction h with
  | head => exact fun _ h => h
  | tail _ ih =>
    intro q hq
    rcases List.mem_cons.mp hq with h | hq
    · exact .tail _ (ih q (h ▸ .head _))
    · rcases List.mem_cons.mp hq with h | hq
      · exact h ▸ .head _
      · exact .tail _ (ih q (.tail _ hq))
theorem pull2 {x y : Addr × Obj} {l l1 l2 : List (Addr × Obj)} (h1 : Pull x l l1) (h2 : Pull y l1 l2) : ∀ q ∈ x :: y :: l2, q ∈ l := fun q hq => by
  rcases List.mem_cons.mp hq with h | hq
  · exact h1.mem q (h ▸ .head _)
  · exact h1.mem q (.tail _ (h2.mem q hq))
theorem pull3 {x y z : Addr × Obj} {l l1 l2 l3 : List (Addr × Obj)} (h1 : Pull x l l1) (h2 : Pull y l1 l2) (h3 : Pull z l2 l3) : ∀ q ∈ x :: y :: z :: l3, q ∈ l := fun q hq => by
  rcases List.mem_cons.mp hq with h | hq
  · exact h1.mem q (h ▸ .head _)
  · exact h1.mem q (.tail _ (pull2 h2 h3 q hq))
theorem callOf_useR {w : World} {f : Addr} {vs : List Value} {news news₀ : List (Addr × Obj)} {nd nu : Nat} {Post : Value → List (Addr × Obj) → Prop} {p : Program} {loose : List Str} {mean : ExcName → Option Value} {mg mb : Str → Option Value}
    {dp un : Nat} {gd : Option (List Code)} {cn : Str} {cs : Scope} {a : Addr} {ccd : Value} {cl : List (Str × Addr)} {outer : List Env} {A₀ : Around} {base h₀ : Heap} {L : Addr} {m : Str → Option Value} {s : Shared} {Q E : Value → Shared → Prop}
    (B : Below A₀ base outer h₀) (F : Fr h₀ L s.heap m) (X : (hd.heap_39 w.params).In h₀) (N : News h₀ L s.heap news₀) (T : Top p loose mean mg mb h₀) (hk : cs.kind = .function)
    (hs : ∀ q ∈ news, q ∈ news₀) (C : CallOf w f vs news nd nu Post) (hd : dp + nd < recursionLimit) (hu : un + nu < cLine)
    (ret : ∀ v news' h' tk', Post v news' → Fr h₀ L h' m → News h₀ L h' news' → Q v { s with heap := h', toks := tk' }) :
    wpAny (model PySem.Challenge.rw_og0141_01.row.prog w) (ktrTop dp un gd cn cs L a ccd cl outer) (call (.ref f) vs) Q E s :=
  callOf_use C B F X N T hk hs hd hu ret
/-- the pen, its ways joined -/
def PenP (h₀ : Heap) (L : Addr) (m : Str → Option Value) (pa qa : Addr) (rest : List (Addr × Obj)) (s : Shared) (f : Flow) (s' : Shared) : Prop :=
  f = .next ∧ ∃ h' n c r tc tr vs ns n1 n2, s' = { s with heap := h', toks := n } ∧ Fr h₀ L h' m ∧ News h₀ L h' ((pa, W.listOf #[.ref qa, .int c tc, .int r tr] n1) :: (qa, W.listOf vs.toArray n2) :: rest) ∧ IntsAre vs ns ∧ vs.length ≤ 63
theorem PenP.mk {h₀ h' : Heap} {L : Addr} {m : Str → Option Value} {pa qa : Addr} {rest : List (Addr × Obj)} {s : Shared} {n : Nat} {c r : Int} {tc tr : Tok} {vs : List Value} {ns : List Int} {n1 n2 : Nat} (F : Fr h₀ L h' m)
    (N : News h₀ L h' ((pa, W.listOf #[.ref qa, .int c tc, .int r tr] n1) :: (qa, W.listOf vs.toArray n2) :: rest)) (hi : IntsAre vs ns) (hz : vs.length ≤ 63) : PenP h₀ L m pa qa rest s .next { s with heap := h', toks := n } :=
  ⟨rfl, h', n, c, r, tc, tr, vs, ns, n1, n2, rfl, F, N, hi, hz⟩
theorem cut_pen {M : Model} {A : Around} {E : Value → Shared → Prop} {s : Shared} {c : Sem Flow} {Q : Flow → Shared → Prop} {h₀ : Heap} {L : Addr} {m : Str → Option Value} {pa qa : Addr} {o1 o2 : Obj} {rest : List (Addr × Obj)}
    (_F : Fr h₀ L s.heap m) (_N : News h₀ L s.heap ((pa, o1) :: (qa, o2) :: rest)) (h : wpAny M A c (PenP h₀ L m pa qa rest s) E s)
    (k : ∀ h' n c r tc tr vs ns n1 n2, Fr h₀ L h' m → News h₀ L h' ((pa, W.listOf #[.ref qa, .int c tc, .int r tr] n1) :: (qa, W.listOf vs.toArray n2) :: rest) → IntsAre vs ns → vs.length ≤ 63 → Q .next { s with heap := h', toks := n }) : wpAny M A c Q E s :=
  wpAny_mono h (fun v s' ⟨e0, h', n, c, r, tc, tr, vs, ns, n1, n2, e1, F, N, hi, hz⟩ => by subst e0; subst e1; exact k h' n c r tc tr vs ns n1 n2 F N hi hz) fun _ _ e => e
def Stop0 (P : Prop) : Prop := P
theorem Stop0.mk {P : Prop} (h : Stop0 P) : P := h
theorem draw_spec (w : World) (pa qa : Addr) (o1 o2 : Obj) (many : Int) (tm : Tok) (rest : List (Addr × Obj))
   (hP : Pen qa o1 o2) (hm : 0 < many) (hm2 : many < 100) (hpq : @Ne Nat pa qa) (hp : ∀ p ∈ rest, p.1 ≠ pa) (hq : ∀ p ∈ rest, p.1 ≠ qa) :
   CallOf w 183 [.ref pa, .int many tm] ((pa, o1) :: (qa, o2) :: rest) 200 1000
    (fun v news' => ∃ d t o1' o2', v = .int d t ∧ 0 ≤ d ∧ d < many ∧ Pen qa o1' o2' ∧ news' = ((pa, o1') :: (qa, o2') :: rest)) := by
  obtain ⟨c, r, tc, tr, vs, ns, n1, n2, hi, hz, rfl, rfl⟩ := hP
  unfold CallOf
  w_top off
  k_fill
  k_with_none
  k_with "call builtin:list.pop" => (k_here; (with_reducible show wpAny _ _ (call (Value.builtin _) [Value.ref _, Value.int _ _]) _ _ _); k_dflt (refine' pop0 (by k_asm) (by k_asm) (by (with_reducible assumption)) (by assumption) (by k_upd) (by assumption) ?_); (intro h' t' F' N' hI' hZ'; (try dsimp only [List.nil_append, List.cons_append] at N')))
  k_with "exec If" => (k_here; refine Stop0.mk ?_)
  intros; rename_i hret
  refine wpAny_call ?_
  k_dflt cell_enter
  k_steps
  unfold Stop0
  refine cut_pen (by k_asm) (by k_asm) ?_ ?_
  · refine wpAny_If ?_
    k_steps
    all_goals (exact PenP.mk (by k_asm) (by first | assumption | exact cb_drop (by assumption) (fun p hp => .tail _ hp)) (by assumption) (by assumption))
  intro h9 n9 c9 r9 tc9 tr9 vs9 ns9 n19 n29 F9 N9 hi9 hz9
  k_steps
  exact hret _ _ _ _ ⟨_, _, _, _, rfl, Int.fmod_nonneg_of_pos _ hm, Int.fmod_lt_of_pos _ hm, pen_of (by assumption) (by assumption), rfl⟩ (by k_asm) (by first | assumption | exact cb_drop (by assumption) (fun p hp => .tail _ hp))
theorem draw_use {w : World} {p : Program} {loose : List Str} {mean : ExcName → Option Value} {mg mb : Str → Option Value}
    {dp un : Nat} {gd : Option (List Code)} {cn : Str} {cs : Scope} {a : Addr} {ccd : Value} {cl : List (Str × Addr)} {outer : List Env} {A₀ : Around} {base h₀ : Heap} {L : Addr} {m : Str → Option Value} {s : Shared} {Q E : Value → Shared → Prop} {pa qa : Addr} {o1 o2 : Obj} {many : Int} {tm : Tok} {ALL l1 rest : List (Addr × Obj)}
    (B : Below A₀ base outer h₀) (F : Fr h₀ L s.heap m) (X : (hd.heap_39 w.params).In h₀) (N : News h₀ L s.heap ALL) (T : Top p loose mean mg mb h₀) (hk : cs.kind = .function) (kd : dp + 200 < recursionLimit) (ku : un + 1000 < cLine)
    (hP : Pen qa o1 o2) (p1 : Pull (pa, o1) ALL l1) (p2 : Pull (qa, o2) l1 rest) (hm : 0 < many) (hm2 : many < 100) (hpq : @Ne Nat pa qa) (hp : ∀ p ∈ rest, p.1 ≠ pa) (hq : ∀ p ∈ rest, p.1 ≠ qa)
    (ret : ∀ d t o1' o2' h' tk', 0 ≤ d → d < many → Pen qa o1' o2' → Fr h₀ L h' m → News h₀ L h' ((pa, o1') :: (qa, o2') :: rest) → Q (.int d t) { s with heap := h', toks := tk' }) :
    wpAny (model PySem.Challenge.rw_og0141_01.row.prog w) (ktrTop dp un gd cn cs L a ccd cl outer) (call (.ref 183) [.ref pa, .int many tm]) Q E s :=
  callOf_use (draw_spec w pa qa o1 o2 many tm rest hP hm hm2 hpq hp hq) B F X N T hk (pull2 p1 p2) kd ku fun v n' h' tk' hp' F' N' => by
    obtain ⟨d, t, o1', o2', rfl, h0, h1, hP', rfl⟩ := hp'
    exact ret d t o1' o2' h' tk' h0 h1 hP' F' N'
-- what every use of a call's contract pays
theorem getD_mem9 {ks : List Int} {d : Int} (h0 : 0 ≤ d) (h1 : d < ks.length) : ks.getD d.toNat 0 ∈ ks := by
  have h : d.toNat < ks.length := by omega
  simp [List.getD, h]
theorem skip3 {a b c : Addr × Obj} {r : List (Addr × Obj)} : ∀ p ∈ a :: b :: r, p ∈ a :: b :: c :: r := fun p hp => by
  simp only [List.mem_cons] at hp ⊢
  rcases hp with h | h | h
  · exact .inl h
  · exact .inr (.inl h)
  · exact .inr (.inr (.inr h))
theorem pick_spec (w : World) (pa qa ra : Addr) (o1 o2 : Obj) (us : List Value) (ks : List Int) (n : Nat) (rest : List (Addr × Obj))
   (hP : Pen qa o1 o2) (hi : IntsAre us ks) (hk0 : 0 < ks.length) (hk1 : ks.length < 100) (hpq : @Ne Nat pa qa) (hpr : @Ne Nat ra pa) (hqr : @Ne Nat ra qa) (hp : ∀ p ∈ rest, p.1 ≠ pa) (hq : ∀ p ∈ rest, p.1 ≠ qa) :
   CallOf w 190 [.ref pa, .ref ra] ((ra, W.listOf us.toArray n) :: (pa, o1) :: (qa, o2) :: rest) 210 1020
    (fun v news' => ∃ k t o1' o2', v = .int k t ∧ k ∈ ks ∧ Pen qa o1' o2' ∧ news' = ((pa, o1') :: (qa, o2') :: rest)) := by
  unfold CallOf
  w_top off
  k_fill
  k_with_none
  k_with "call ref" => (k_here; (with_reducible show wpAny _ _ (call (Value.ref 183) [_, _]) _ _ _); k_dflt (refine draw_use (by k_asm) (by k_asm) (by k_asm) (by k_asm) (by k_asm) (by first | exact rfl | assumption) (by first | k_room | ktr_room) (by first | k_units | ktr_units) (by assumption) (by repeat (first | exact Pull.head | apply Pull.tail)) (by repeat (first | exact Pull.head | apply Pull.tail)) (by omega) (by omega) (by first | assumption | k_ne) (by k_all) (by k_all) ?_); intro d9 t9 o19 o29 h9 k9 hd9 he9 hP9 F9 N9)
  intros; rename_i hret
  refine wpAny_call ?_
  k_dflt cell_enter
  k_steps
  refine hret _ _ _ _ ⟨_, _, _, _, rfl, getD_mem9 (by assumption) (by assumption), by assumption, rfl⟩ (by k_asm) (cb_drop (by assumption) skip3)
theorem pick_use {w : World} {p : Program} {loose : List Str} {mean : ExcName → Option Value} {mg mb : Str → Option Value}
    {dp un : Nat} {gd : Option (List Code)} {cn : Str} {cs : Scope} {a : Addr} {ccd : Value} {cl : List (Str × Addr)} {outer : List Env} {A₀ : Around} {base h₀ : Heap} {L : Addr} {m : Str → Option Value} {s : Shared} {Q E : Value → Shared → Prop} {pa qa ra : Addr} {o1 o2 : Obj} {us : List Value} {ks : List Int} {n : Nat} {ALL l0 l1 rest : List (Addr × Obj)}
    (B : Below A₀ base outer h₀) (F : Fr h₀ L s.heap m) (X : (hd.heap_39 w.params).In h₀) (N : News h₀ L s.heap ALL) (T : Top p loose mean mg mb h₀) (hk : cs.kind = .function) (kd : dp + 210 < recursionLimit) (ku : un + 1020 < cLine)
    (hP : Pen qa o1 o2) (p0 : Pull (ra, W.listOf us.toArray n) ALL l0) (p1 : Pull (pa, o1) l0 l1) (p2 : Pull (qa, o2) l1 rest) (hi : IntsAre us ks) (hk0 : 0 < ks.length) (hk1 : ks.length < 100)
    (hpq : @Ne Nat pa qa) (hpr : @Ne Nat ra pa) (hqr : @Ne Nat ra qa) (hp : ∀ p ∈ rest, p.1 ≠ pa) (hq : ∀ p ∈ rest, p.1 ≠ qa)
    (ret : ∀ d t o1' o2' h' tk', d ∈ ks → Pen qa o1' o2' → Fr h₀ L h' m → News h₀ L h' ((pa, o1') :: (qa, o2') :: rest) → Q (.int d t) { s with heap := h', toks := tk' }) :
    wpAny (model PySem.Challenge.rw_og0141_01.row.prog w) (ktrTop dp un gd cn cs L a ccd cl outer) (call (.ref 190) [.ref pa, .ref ra]) Q E s :=
  callOf_use (pick_spec w pa qa ra o1 o2 us ks n rest hP hi hk0 hk1 hpq hpr hqr hp hq) B F X N T hk (pull3 p0 p1 p2) kd ku fun v n' h' tk' hp' F' N' => by
    obtain ⟨d, t, o1', o2', rfl, h1, hP', rfl⟩ := hp'
    exact ret d t o1' o2' h' tk' h1 hP' F' N'
-- what every use of a call's contract pays
theorem many_bnd {k : Int} (h : k ∈ [(1 : Int), 2, 3, 5, 39, 40, 41, 42]) : 1 ≤ k ∧ k ≤ 42 := by
  simp only [List.mem_cons, List.not_mem_nil, or_false] at h; omega
theorem fig_turn {tp d k : Int} {pre : List Int} (h : 0 < tp ∧ tp < 10 ^ (pre.length + 1)) (h0 : 0 ≤ d) (h1 : d < 10) : 0 < 10 * tp + d ∧ 10 * tp + d < 10 ^ ((pre ++ [k]).length + 1) := by
  have e : (10 : Int) ^ ((pre ++ [k]).length + 1) = 10 * 10 ^ (pre.length + 1) := by
    rw [List.length_append, List.length_singleton, Int.pow_succ, Int.mul_comm]
  rw [e]; omega
theorem fig_end {tp d many : Int} (h : d ∈ [tp, -tp, tp, 0]) (hp : 0 < tp ∧ tp < 10 ^ ((rangeKs 0 (many - 1 - 0).toNat).length + 1)) (h1 : 1 ≤ many) (h2 : many ≤ 42) : d.natAbs < 10 ^ 42 := by
  rw [rangeKs_length] at hp
  have h3 : (10 : Nat) ^ ((many - 1 - 0).toNat + 1) ≤ 10 ^ 42 := Nat.pow_le_pow_right (by decide) (by omega)
  have h4 : ((10 : Int) ^ ((many - 1 - 0).toNat + 1)) = ((10 ^ ((many - 1 - 0).toNat + 1) : Nat) : Int) := by simp
  rw [h4] at hp
  simp only [List.mem_cons, List.not_mem_nil, or_false] at h
  have h5 : d.natAbs ≤ tp.natAbs := by omega
  have h6 : tp.natAbs < 10 ^ ((many - 1 - 0).toNat + 1) := by omega
  exact Nat.lt_of_le_of_lt h5 (Nat.lt_of_lt_of_le h6 h3)
theorem figures_spec (w : World) (pa qa : Addr) (o1 o2 : Obj) (rest : List (Addr × Obj))
   (hP : Pen qa o1 o2) (hpq : @Ne Nat pa qa) (hp : ∀ p ∈ rest, p.1 ≠ pa) (hq : ∀ p ∈ rest, p.1 ≠ qa) :
   CallOf w 197 [.ref pa] ((pa, o1) :: (qa, o2) :: rest) 220 1040
    (fun v news' => ∃ k t o1' o2', v = .int k t ∧ k.natAbs < 10 ^ 42 ∧ Pen qa o1' o2' ∧ news' = ((pa, o1') :: (qa, o2') :: rest)) := by
  unfold CallOf
  w_top off
  k_fill
  k_with_none
  k_with "call ref" => (k_here; (with_reducible show wpAny _ _ (call (Value.ref 183) [_, _]) _ _ _); k_dflt (refine draw_use (by k_asm) (by k_asm) (by k_asm) (by k_asm) (by k_asm) (by first | exact rfl | assumption) (by first | k_room | ktr_room) (by first | k_units | ktr_units) (by assumption) (by repeat (first | exact Pull.head | apply Pull.tail)) (by repeat (first | exact Pull.head | apply Pull.tail)) (by omega) (by omega) (by first | assumption | k_ne) (by k_all) (by k_all) ?_); intro d9 t9 o19 o29 h9 k9 hd9 he9 hP9 F9 N9)
  k_with "call ref" => (k_here; (with_reducible show wpAny _ _ (call (Value.ref 190) [_, _]) _ _ _); k_dflt (refine pick_use (by k_asm) (by k_asm) (by k_asm) (by k_asm) (by k_asm) (by first | exact rfl | assumption) (by first | k_room | ktr_room) (by first | k_units | ktr_units) (by assumption) (by repeat (first | exact Pull.head | apply Pull.tail)) (by repeat (first | exact Pull.head | apply Pull.tail)) (by repeat (first | exact Pull.head | apply Pull.tail)) (by repeat (first | exact IntsAre.nil | apply IntsAre.cons)) (by first | decide | (simp only [List.length_cons, List.length_nil]; omega)) (by first | decide | (simp only [List.length_cons, List.length_nil]; omega)) (by first | assumption | k_ne) (by k_ne) (by k_ne) (by k_all) (by k_all) ?_); intro d9 t9 o19 o29 h9 k9 hd9 hP9 F9 N9)
  k_with "pyIter ref" => (k_here; k_extra "my iter")
  intros; rename_i hret
  refine wpAny_call ?_
  k_dflt cell_enter
  k_with "my iter" => (
    (obtain ⟨hb1, hb2⟩ := many_bnd (by assumption));
    (with_unfolding_all refine' kst_range (σ := Int × Tok × Obj × Obj) (fun c => (pa, c.2.2.1) :: (qa, c.2.2.2) :: rest) (fun c => [(Str.ofString "top", .int c.1 c.2.1)]) (fun c => Pen qa c.2.2.1 c.2.2.2) [] (fun pre c => 0 < c.1 ∧ c.1 < 10 ^ (pre.length + 1)) (_, _, _, _) (by rfl) (by assumption) (small_one (by omega) (by omega) (by omega) (by omega)) (rangeSize_nat _ _) (by assumption) ?kn ?kf ?kk ?kp ?kturn ?kdone);
    (case kn => with_unfolding_all assumption);
    (case kk => kst_all);
    (case kf => assumption);
    (case kp => (constructor <;> simp only [List.length_nil] <;> omega));
    (case' kturn =>
      rintro ⟨tp, tt, q1, q2⟩ pre k tk u h9 k9 own hk hlt hoff hf hp9 F9 N9
      have hpo : ∀ p ∈ rest ++ own, p.1 ≠ pa := List.forall_mem_append.mpr ⟨hp, OwnOff.ne hoff (by simp)⟩
      have hqo : ∀ p ∈ rest ++ own, p.1 ≠ qa := List.forall_mem_append.mpr ⟨hq, OwnOff.ne hoff (by simp)⟩
      dsimp only [List.cons_append, List.nil_append, kstB] at hf hp9 F9 N9);
    (case' kdone =>
      rintro ⟨tp, tt, q1, q2⟩ u h9 k9 hf hp9 F9 N9
      dsimp only [kstB] at hf hp9 F9 N9);
    (all_goals try k_fold))
  k_with "state" => (first | exact fig_turn (by assumption) (by omega) (by omega) | exact fig_turn (by assumption) (Int.fmod_nonneg_of_pos _ (by decide)) (Int.fmod_lt_of_pos _ (by decide)))
  k_steps
  exact hret _ _ _ _ ⟨_, _, _, _, rfl, fig_end (by assumption) (by assumption) (by assumption) (by assumption), by assumption, rfl⟩ (by k_asm) (by k_asm)
theorem figures_use {w : World} {p : Program} {loose : List Str} {mean : ExcName → Option Value} {mg mb : Str → Option Value}
    {dp un : Nat} {gd : Option (List Code)} {cn : Str} {cs : Scope} {a : Addr} {ccd : Value} {cl : List (Str × Addr)} {outer : List Env} {A₀ : Around} {base h₀ : Heap} {L : Addr} {m : Str → Option Value} {s : Shared} {Q E : Value → Shared → Prop} {pa qa : Addr} {o1 o2 : Obj} {ALL l1 rest : List (Addr × Obj)}
    (B : Below A₀ base outer h₀) (F : Fr h₀ L s.heap m) (X : (hd.heap_39 w.params).In h₀) (N : News h₀ L s.heap ALL) (T : Top p loose mean mg mb h₀) (hk : cs.kind = .function) (kd : dp + 220 < recursionLimit) (ku : un + 1040 < cLine)
    (hP : Pen qa o1 o2) (p1 : Pull (pa, o1) ALL l1) (p2 : Pull (qa, o2) l1 rest) (hpq : @Ne Nat pa qa) (hp : ∀ p ∈ rest, p.1 ≠ pa) (hq : ∀ p ∈ rest, p.1 ≠ qa)
    (ret : ∀ d t o1' o2' h' tk', d.natAbs < 10 ^ 42 → Pen qa o1' o2' → Fr h₀ L h' m → News h₀ L h' ((pa, o1') :: (qa, o2') :: rest) → Q (.int d t) { s with heap := h', toks := tk' }) :
    wpAny (model PySem.Challenge.rw_og0141_01.row.prog w) (ktrTop dp un gd cn cs L a ccd cl outer) (call (.ref 197) [.ref pa]) Q E s :=
  callOf_use (figures_spec w pa qa o1 o2 rest hP hpq hp hq) B F X N T hk (pull2 p1 p2) kd ku fun v n' h' tk' hp' F' N' => by
    obtain ⟨d, t, o1', o2', rfl, h1, hP', rfl⟩ := hp'
    exact ret d t o1' o2' h' tk' h1 hP' F' N'
/-- a Decimal's own dict -/
abbrev decDict (w : World) (tp pl : Int) (ta tb tc td : Tok) : Obj :=
  dictOf [⟨PyData.keyHash w.params (Str.ofString "top"), .str (Str.ofString "top") ta, .int tp tb⟩, ⟨PyData.keyHash w.params (Str.ofString "places"), .str (Str.ofString "places") tc, .int pl td⟩] 2
theorem natAbs_fdiv10 (x : Int) : (x.fdiv 10).natAbs ≤ x.natAbs := by
  rw [Int.fdiv_eq_ediv_of_nonneg _ (by decide)]
  omega
theorem acc_le (top places : Int) : ∀ n : Nat, (accDown (fun _ x => x.fdiv 10) places top (places - n)).natAbs ≤ top.natAbs
  | 0 => by
    have e : places - ((0 : Nat) : Int) = places := by omega
    rw [e, accDown_start]; exact Nat.le_refl _
  | n + 1 => by
    have e : places - ((n + 1 : Nat) : Int) = (places - n) - 1 := by omega
    rw [e, accDown_succ (by omega)]
    exact Nat.le_trans (natAbs_fdiv10 _) (acc_le top places n)
theorem dec_facts {top places k : Int} (h1 : k ≤ places) (h2 : min places 0 ≤ k) (h4 : (if 0 < k then if ((accDown (fun _ x => x.fdiv 10) places top k).fmod 10 == 0) = true then true else false else false) = false) (hp0 : 0 ≤ places) :
    0 ≤ k ∧ (accDown (fun _ x => x.fdiv 10) places top k).natAbs ≤ top.natAbs ∧ (k = 0 ∨ (accDown (fun _ x => x.fdiv 10) places top k).fmod 10 ≠ 0) := by
  refine ⟨by omega, ?_, ?_⟩
  · have e : k = places - ((places - k).toNat : Nat) := by omega
    rw [e]; exact acc_le _ _ _
  · by_cases hk : 0 < k
    · right
      rw [if_pos hk] at h4
      intro hz
      rw [hz] at h4
      simp at h4
    · left; omega
theorem dec_spec (w : World) (top places : Int) (t1 t2 : Tok) (news : List (Addr × Obj)) (hp0 : 0 ≤ places) :
   CallOf w 160 [.int top t1, .int places t2] news 220 1040
    (fun v news' => ∃ x dx tp pl ta tb tc td, v = .ref x ∧ news' = ((x, instObj 160 dx) :: (dx, decDict w tp pl ta tb tc td) :: news) ∧ (∀ p ∈ news, p.1 < dx) ∧ dx < x ∧
      0 ≤ pl ∧ pl ≤ places ∧ tp.natAbs ≤ top.natAbs ∧ (pl = 0 ∨ tp.fmod 10 ≠ 0)) := by
  unfold CallOf
  w_top off
  k_fill
  k_with_none
  intros; rename_i hret
  k_dflt (refine' call_cls ?k1 ?k2 ?k3 ?k4 ?k5 ?k6 ?_; (case k1 => k_asm); (case k2 => k_asm); (case k3 => k_asm); (case k4 => k_is); (case k5 => k_is); (case k6 => k_is); intro x' d' h' F' N' l1 l2; (try k_lt l1); (try k_lt2 l2))
  k_dflt cell_enter
  k_steps
  obtain ⟨e1, e2, e3⟩ := dec_facts (by assumption) (by assumption) (by assumption) hp0
  exact hret _ _ _ _ ⟨_, _, _, _, _, _, _, _, rfl, rfl, by assumption, by assumption, e1, by assumption, e2, e3⟩ (by k_asm) (by k_asm)
/-! texts as lists of codes -/
def S (l : List Nat) : PySem.Str := ⟨l.toArray⟩
def nd (n : Nat) : List Nat := (Nat.toDigits 10 n).map Char.toNat
def sg (n : Int) : List Nat := if n < 0 then [45] else []
def idg (n : Int) : List Nat := sg n ++ nd n.natAbs
theorem S_len (l : List Nat) : (S l).length = l.length := by simp [S, Str.length]
theorem S_inj {l m : List Nat} (h : S l = S m) : l = m := by
  have := congrArg (fun x : PySem.Str => x.cps.toList) h
  simpa [S] using this
theorem S_of (x : PySem.Str) : x = S x.cps.toList := by simp [S]
theorem S_append (l m : List Nat) : S l ++ S m = S (l ++ m) := by
  refine PySem.Str.ext' (Array.toList_inj.mp ?_)
  rw [PySem.Str.cps_append, Array.toList_append]
  simp [S]
theorem str_int (n : Int) : Str.ofString (toString n) = S (idg n) := by
  rw [S_of (Str.ofString (toString n))]
  congr 1
  rw [signs_ofString]
  cases n with
  | ofNat m =>
    have h : ¬ (Int.ofNat m < 0) := by simp
    show (Nat.repr m).toList.map Char.toNat = _
    rw [Nat.toList_repr]
    simp only [idg, sg, if_neg h, nd, List.nil_append]
    rfl
  | negSucc m =>
    have h : Int.negSucc m < 0 := Int.negSucc_lt_zero m
    show ("-" ++ Nat.repr (m + 1)).toList.map Char.toNat = _
    rw [String.toList_append, List.map_append, Nat.toList_repr]
    simp only [idg, sg, if_pos h, nd]
    rfl
theorem nd_len_pos (n : Nat) : 1 ≤ (nd n).length := by
  have := PyProof.Rows.digitsFacts10 n
  simpa [nd] using this.ge1
theorem nd_len_le {k n : Nat} (hk : 1 ≤ k) (hn : n < 10 ^ k) : (nd n).length ≤ k := by
  simpa [nd] using PyProof.Rows.digits10_le hk hn
theorem nd_len_ge {k n : Nat} (hn : 10 ^ k ≤ n) : k + 1 ≤ (nd n).length := by
  simpa [nd] using PyProof.Rows.digits10_ge hn
theorem nd_all (n : Nat) : ∀ c ∈ nd n, 48 ≤ c ∧ c ≤ 57 := by
  intro c hc
  obtain ⟨ch, hch, rfl⟩ := List.mem_map.mp hc
  exact digit_range (Nat.isDigit_of_mem_toDigits (by decide) (by decide) hch)
/-- what a row of figures means, from a start -/
def val (a : Int) (l : List Nat) : Int := l.foldl (fun (w : Int) (c : Nat) => 10 * w + (Int.ofNat c - 48)) a
theorem val_append (a : Int) (l m : List Nat) : val a (l ++ m) = val (val a l) m := by simp [val]
theorem val_nat : ∀ (l : List Nat) (a : Nat), (∀ c ∈ l, 48 ≤ c) → val (a : Int) l = ((l.foldl (fun acc c => acc * 10 + (c - 48)) a : Nat) : Int)
  | [], a, _ => rfl
  | c :: l, a, h => by
    have hc := h c (.head _)
    show val (10 * (a : Int) + (Int.ofNat c - 48)) l = _
    have e : 10 * (a : Int) + (Int.ofNat c - 48) = ((a * 10 + (c - 48) : Nat) : Int) := by rw [Int.ofNat_eq_natCast]; omega
    rw [e]
    exact val_nat l _ fun d hd => h d (.tail _ hd)
theorem val_nd (n : Nat) : val 0 (nd n) = n := by
  have h := val_nat (nd n) 0 fun c hc => (nd_all n c hc).1
  have e := KIN.val_back n
  rw [show ((0 : Nat) : Int) = 0 from rfl] at h
  rw [h]
  exact congrArg (fun k : Nat => (k : Int)) e
theorem val_bound : ∀ (l : List Nat) (a : Int), (∀ c ∈ l, 48 ≤ c ∧ c ≤ 57) → 0 ≤ a → 0 ≤ val a l ∧ val a l < (a + 1) * 10 ^ l.length
  | [], a, _, h => by simp [val]; omega
  | c :: l, a, h, h0 => by
    have hc := h c (.head _)
    have ih := val_bound l (10 * a + (Int.ofNat c - 48)) (fun d hd => h d (.tail _ hd)) (by rw [Int.ofNat_eq_natCast]; omega)
    refine ⟨ih.1, Int.lt_of_lt_of_le ih.2 ?_⟩
    show (10 * a + (Int.ofNat c - 48) + 1) * 10 ^ l.length ≤ (a + 1) * 10 ^ (l.length + 1)
    rw [Int.ofNat_eq_natCast]
    rw [Int.pow_succ, Int.mul_comm ((10 : Int) ^ l.length) 10, ← Int.mul_assoc]
    refine Int.mul_le_mul_of_nonneg_right (by omega) ?_
    exact Int.le_of_lt (Int.pow_pos (by decide))
theorem val_zeros (k : Nat) (l : List Nat) : val 0 (List.replicate k 48 ++ l) = val 0 l := by
  induction k with
  | zero => rfl
  | succ k ih => exact ih
/-- the first figure is no nought, but for nought itself -/
theorem nd_head {n : Nat} {l : List Nat} (h : nd n = 48 :: l) : l = [] := by
  have hv := val_nd n
  rw [h] at hv
  have hb := val_bound l 0 (fun c hc => nd_all n c (by rw [h]; exact .tail _ hc)) (by omega)
  have e : val 0 (48 :: l) = val 0 l := rfl
  rw [e] at hv
  cases hl : l.length with
  | zero => exact List.length_eq_zero_iff.mp hl
  | succ k =>
    exfalso
    have h1 : n < 10 ^ l.length := by
      have h2 : ((10 : Int) ^ l.length) = ((10 ^ l.length : Nat) : Int) := by simp
      rw [h2] at hb
      omega
    have h3 := nd_len_le (by omega) h1
    rw [h] at h3
    simp at h3
    omega
theorem nd_zero : nd 0 = [48] := by decide
theorem nd_lt_iff {k n : Nat} (hk : 1 ≤ k) : n < 10 ^ k ↔ (nd n).length ≤ k := by
  refine ⟨nd_len_le hk, fun h => ?_⟩
  rcases Nat.lt_or_ge n (10 ^ k) with h1 | h1
  · exact h1
  · have := nd_len_ge h1; omega

/-! slices -/
theorem slice_to {l : List Nat} {k : Int} (h0 : k < 0) (h1 : -(l.length : Int) ≤ k) : Txt.slice (S l) none (some k) = S (l.take (k + l.length).toNat) := by
  have e := PySem.StrLaws.sliceText_to_neg (x := S l) (j := k) h0 (by rw [S_len]; exact h1)
  have e2 : Txt.slice (S l) none (some k) = PySem.StrLaws.sliceText (S l) none (some k) := rfl
  rw [e2, e]
  simp [S, Str.length]
theorem slice_from {l : List Nat} {k : Int} (h0 : k < 0) (h1 : -(l.length : Int) ≤ k) : Txt.slice (S l) (some k) none = S (l.drop (k + l.length).toNat) := by
  have e := PySem.StrLaws.sliceText_from_neg (x := S l) (i := k) h0 (by rw [S_len]; exact h1)
  have e2 : Txt.slice (S l) (some k) none = PySem.StrLaws.sliceText (S l) (some k) none := rfl
  rw [e2, e]
  have e3 : (S l).cps.toList = l := by simp [S]
  rw [e3, S_len, List.take_of_length_le]
  · rfl
  · rw [List.length_drop]; omega
theorem slice_toN {l : List Nat} {k : Int} (h0 : 0 ≤ k) (h1 : k ≤ l.length) : Txt.slice (S l) none (some k) = S (l.take k.toNat) := by
  have e := PySem.StrLaws.sliceText_to (x := S l) (j := k) ⟨h0, by simpa [S] using h1⟩
  have e2 : Txt.slice (S l) none (some k) = PySem.StrLaws.sliceText (S l) none (some k) := rfl
  rw [e2, e]
  simp [S]
theorem slice_fromN {l : List Nat} {k : Int} (h0 : 0 ≤ k) (h1 : k ≤ l.length) : Txt.slice (S l) (some k) none = S (l.drop k.toNat) := by
  have e := PySem.StrLaws.sliceText_from (x := S l) (i := k) ⟨h0, by simpa [S] using h1⟩
  have e2 : Txt.slice (S l) (some k) none = PySem.StrLaws.sliceText (S l) (some k) none := rfl
  rw [e2, e]
  have e3 : (S l).cps.toList = l := by simp [S]
  rw [e3, List.take_of_length_le]
  · rfl
  · rw [List.length_drop]; omega
theorem mul_zeros (k : Int) : Txt.mul (S [48]) k = S (List.replicate k.toNat 48) := by
  unfold Txt.mul
  by_cases h1 : k < 1
  · rw [if_pos h1]
    have : k.toNat = 0 := by omega
    rw [this]; rfl
  · rw [if_neg h1]
    by_cases h2 : k = 1
    · subst h2; rfl
    · rw [if_neg (by simp [h2, S, Str.length])]
      have key : ∀ (n : Nat) (a : Array Nat), (List.replicate n (S [48]).cps).foldl (· ++ ·) a = a ++ (List.replicate n 48).toArray := by
        intro n
        induction n with
        | zero => intro a; simp
        | succ n ih =>
          intro a
          rw [List.replicate_succ, List.foldl_cons, ih]
          apply Array.toList_inj.mp
          simp [S, List.replicate_succ]
      rw [key]
      simp [S]
theorem lit_zero : Str.ofString "0" = S [48] := by decide +kernel
theorem lit_dot : Str.ofString "." = S [46] := by decide +kernel
theorem lit_dot0 : Str.ofString ".0" = S [46, 48] := by decide +kernel
theorem lit_dash : Str.ofString "-" = S [45] := by decide +kernel
theorem lit_nil : Str.ofString "" = S [] := by decide +kernel
theorem abs_bnd {n : Int} {N : Nat} (h : n.natAbs < N) : (if n < 0 then -n else n).natAbs < N := by split <;> omega
theorem idg_abs (n : Int) : idg (if n < 0 then -n else n) = nd n.natAbs := by
  unfold idg sg
  by_cases h : n < 0
  · rw [if_pos h, if_neg (by omega), Int.natAbs_neg]; rfl
  · rw [if_neg h, if_neg h]; rfl
theorem sizeLine_ge : 16777216 ≤ sizeLine := by rw [sizeLine_eq]; decide
section
variable {prog : Program} {w : World} {A : Around} {E : Value → Shared → Prop} {s : Shared} {t u : Tok} {Q : Value → Shared → Prop} {value slice : PySem.Expr} {h₀ : Heap} {L : Addr} {m : PySem.Str → Option Value} {news : List (Addr × Obj)}
theorem shown42 {n : Int} (hn : n.natAbs < 10 ^ 42) : n.natAbs.log2 < 1920 := by
  have h1 : n.natAbs < 2 ^ 140 := Nat.lt_of_lt_of_le hn (by decide +kernel)
  by_cases h0 : n.natAbs = 0
  · rw [h0]; decide
  · exact Nat.lt_of_lt_of_le ((Nat.log2_lt h0).mpr h1) (by decide)
theorem r_str {n : Int} (hn : n.natAbs < 10 ^ 42) (h : Q (.str (S (idg n)) s.toks) { s with toks := s.toks + 1 }) : wpAny (model prog w) A (call (.type "str") [.int n t]) Q E s :=
  P.str_of_int (shown42 hn) (by rw [str_int]; exact h)
theorem r_str_abs {n : Int} (hn : n.natAbs < 10 ^ 42) (h : Q (.str (S (nd n.natAbs)) s.toks) { s with toks := s.toks + 1 }) : wpAny (model prog w) A (call (.type "str") [.int (if n < 0 then -n else n) t]) Q E s :=
  r_str (abs_bnd hn) (by rw [idg_abs]; exact h)
theorem r_len {l : List Nat} (hl : l.length ≤ 1000) (h : Q (.int l.length (s.toks + 1)) { s with toks := s.toks + 1 + 1 }) : wpAny (model prog w) A (call (.builtin "len") [.str (S l) t]) Q E s :=
  P.len_str (by rw [S_len]; omega) (by rw [S_len]; exact h)
theorem r_mul {x : PySem.Str} {k : Int} (hx : x = S [48]) (h0 : -1000 ≤ k) (h1 : k ≤ 1000) (h : ∀ t' n, Q (.str (S (List.replicate k.toNat 48)) t') { s with toks := n }) : wpAny (model prog w) A (binaryOp .Mult (.str x t) (.int k u)) Q E s := by
  subst hx
  exact SB.mul (mulOk_of 16 1048576 (by rw [S_len]; decide) (by omega) (by omega) (by decide) (by decide)) fun t' n => by rw [mul_zeros]; exact h t' n
theorem r_add {x y : PySem.Str} {l r : List Nat} (hx : x = S l) (hy : y = S r) (hs : l.length + r.length ≤ 1000) (h : ∀ t' n, Q (.str (S (l ++ r)) t') { s with toks := n }) : wpAny (model prog w) A (binaryOp .Add (.str x t) (.str y u)) Q E s := by
  subst hx hy
  refine SBL.add (fun t' k _ => ?_) (by rw [S_len, S_len]; have := sizeLine_ge; omega)
  rw [S_append]; exact h t' k
theorem r_cut_to {l : List Nat} {k : Int} {uj : Tok} (F : Fr h₀ L s.heap m) (N : News h₀ L s.heap news) (h0 : k < 0) (h1 : -(l.length : Int) ≤ k) (hs : l.length ≤ 1000)
    (h : ∀ h' t' n, Fr h₀ L h' m → News h₀ L h' news → Q (.str (S (l.take (k + l.length).toNat)) t') { s with heap := h', toks := n })
    (hsub : subscripted slice false (.str (S l) t) (.ref s.heap.objs.size) = operate [.ref s.heap.objs.size, .str (S l) t] (getItem (.str (S l) t) (.ref s.heap.objs.size)) := by with_unfolding_all rfl)
    (ht : ∀ r, letTemporaryGo value (.str (S l) t) r = pure () := by intro _; with_unfolding_all rfl) :
    wpAny (model prog w) A (subscriptTail value slice (.str (S l) t) (.ref s.heap.objs.size)) Q E { s with heap := s.heap.push { cls := .type "slice", data := .fields #[.none, .int k uj, .none] } } :=
  slice_strN_ns F N (fun h' t' n F' N' => by rw [slice_to h0 h1]; exact h h' t' n F' N') hsub ht (by rw [S_len]; have := sizeLine_ge; omega)
theorem r_cut_from {l : List Nat} {k : Int} {uj : Tok} (F : Fr h₀ L s.heap m) (N : News h₀ L s.heap news) (h0 : k < 0) (h1 : -(l.length : Int) ≤ k) (hs : l.length ≤ 1000)
    (h : ∀ h' t' n, Fr h₀ L h' m → News h₀ L h' news → Q (.str (S (l.drop (k + l.length).toNat)) t') { s with heap := h', toks := n })
    (hsub : subscripted slice false (.str (S l) t) (.ref s.heap.objs.size) = operate [.ref s.heap.objs.size, .str (S l) t] (getItem (.str (S l) t) (.ref s.heap.objs.size)) := by with_unfolding_all rfl)
    (ht : ∀ r, letTemporaryGo value (.str (S l) t) r = pure () := by intro _; with_unfolding_all rfl) :
    wpAny (model prog w) A (subscriptTail value slice (.str (S l) t) (.ref s.heap.objs.size)) Q E { s with heap := s.heap.push { cls := .type "slice", data := .fields #[.int k uj, .none, .none] } } :=
  slice_strN_sn F N (fun h' t' n F' N' => by rw [slice_from h0 h1]; exact h h' t' n F' N') hsub ht (by rw [S_len]; have := sizeLine_ge; omega)
theorem r_cut_toN {l : List Nat} {k : Int} {uj : Tok} (F : Fr h₀ L s.heap m) (N : News h₀ L s.heap news) (h0 : 0 ≤ k) (h1 : k ≤ l.length) (hs : l.length ≤ 1000)
    (h : ∀ h' t' n, Fr h₀ L h' m → News h₀ L h' news → Q (.str (S (l.take k.toNat)) t') { s with heap := h', toks := n })
    (hsub : subscripted slice false (.str (S l) t) (.ref s.heap.objs.size) = operate [.ref s.heap.objs.size, .str (S l) t] (getItem (.str (S l) t) (.ref s.heap.objs.size)) := by with_unfolding_all rfl)
    (ht : ∀ r, letTemporaryGo value (.str (S l) t) r = pure () := by intro _; with_unfolding_all rfl) :
    wpAny (model prog w) A (subscriptTail value slice (.str (S l) t) (.ref s.heap.objs.size)) Q E { s with heap := s.heap.push { cls := .type "slice", data := .fields #[.none, .int k uj, .none] } } :=
  slice_strN_ns F N (fun h' t' n F' N' => by rw [slice_toN h0 h1]; exact h h' t' n F' N') hsub ht (by rw [S_len]; have := sizeLine_ge; omega)
theorem r_cut_fromN {l : List Nat} {k : Int} {uj : Tok} (F : Fr h₀ L s.heap m) (N : News h₀ L s.heap news) (h0 : 0 ≤ k) (h1 : k ≤ l.length) (hs : l.length ≤ 1000)
    (h : ∀ h' t' n, Fr h₀ L h' m → News h₀ L h' news → Q (.str (S (l.drop k.toNat)) t') { s with heap := h', toks := n })
    (hsub : subscripted slice false (.str (S l) t) (.ref s.heap.objs.size) = operate [.ref s.heap.objs.size, .str (S l) t] (getItem (.str (S l) t) (.ref s.heap.objs.size)) := by with_unfolding_all rfl)
    (ht : ∀ r, letTemporaryGo value (.str (S l) t) r = pure () := by intro _; with_unfolding_all rfl) :
    wpAny (model prog w) A (subscriptTail value slice (.str (S l) t) (.ref s.heap.objs.size)) Q E { s with heap := s.heap.push { cls := .type "slice", data := .fields #[.int k uj, .none, .none] } } :=
  slice_strN_sn F N (fun h' t' n F' N' => by rw [slice_fromN h0 h1]; exact h h' t' n F' N') hsub ht (by rw [S_len]; have := sizeLine_ge; omega)
end
/-- Decimal.text's own figures, noughts ahead -/
def padl (tp pl : Int) : List Nat := List.replicate (pl + 1 - (nd tp.natAbs).length).toNat 48 ++ nd tp.natAbs
def textL (tp pl : Int) : List Nat :=
  sg tp ++ (if 0 < pl then (padl tp pl).take (-pl + (padl tp pl).length).toNat ++ [46] ++ (padl tp pl).drop (-pl + (padl tp pl).length).toNat else nd tp.natAbs)
theorem find_one {l a b : List Nat} {c : Nat} (h : l = a ++ c :: b) (ha : c ∉ a) : Txt.find (S l) (S [c]) = (a.length : Int) := by
  have hat : ∀ i, PySem.StrLaws.At (S l) (S [c]) (S l).length i ↔ l[i]? = some c := fun i => by
    have := PySem.StrLaws.subAt_one (S l) c i
    exact this
  have h0 : l[a.length]? = some c := by rw [h]; simp
  unfold Txt.find
  rcases PySem.StrLaws.occ_head (S l) (S [c]) 1 (Nat.le_refl _) with ⟨_, hn⟩ | ⟨i, r, e, hi, hn⟩
  · exact absurd ((hat _).mpr h0) (hn _)
  · rw [e]
    have h1 := (hat i).mp hi
    have h2 : ¬ a.length < i := fun hlt => hn _ hlt ((hat _).mpr h0)
    have h3 : ¬ i < a.length := fun hlt => by
      rw [h, List.getElem?_append_left hlt] at h1
      exact ha (List.mem_of_getElem? h1)
    show (i : Int) = a.length
    omega
theorem lit_figs : Str.ofString "0123456789" = S [48, 49, 50, 51, 52, 53, 54, 55, 56, 57] := by decide +kernel
theorem find_fig {c : Nat} (h : 48 ≤ c ∧ c ≤ 57) : Txt.find (S [48, 49, 50, 51, 52, 53, 54, 55, 56, 57]) (S [c]) = (c : Int) - 48 := by
  have h1 : c = 48 ∨ c = 49 ∨ c = 50 ∨ c = 51 ∨ c = 52 ∨ c = 53 ∨ c = 54 ∨ c = 55 ∨ c = 56 ∨ c = 57 := by omega
  rcases h1 with rfl | rfl | rfl | rfl | rfl | rfl | rfl | rfl | rfl | rfl
  · exact find_one (a := []) rfl (by decide)
  · exact find_one (a := [48]) rfl (by decide)
  · exact find_one (a := [48, 49]) rfl (by decide)
  · exact find_one (a := [48, 49, 50]) rfl (by decide)
  · exact find_one (a := [48, 49, 50, 51]) rfl (by decide)
  · exact find_one (a := [48, 49, 50, 51, 52]) rfl (by decide)
  · exact find_one (a := [48, 49, 50, 51, 52, 53]) rfl (by decide)
  · exact find_one (a := [48, 49, 50, 51, 52, 53, 54]) rfl (by decide)
  · exact find_one (a := [48, 49, 50, 51, 52, 53, 54, 55]) rfl (by decide)
  · exact find_one (a := [48, 49, 50, 51, 52, 53, 54, 55, 56]) rfl (by decide)
section
variable {prog : Program} {w : World} {A : Around} {E : Value → Shared → Prop} {s : Shared} {t u : Tok} {Q : Value → Shared → Prop}
theorem r_index {y : PySem.Str} {l a b : List Nat} {c : Nat} (hA : A.handled = none) (hy : y = S [c]) (h : l = a ++ c :: b) (ha : c ∉ a) (hq : Q (.int a.length s.toks) { s with toks := s.toks + 1 }) :
    wpAny (model prog w) A (call (.builtin "str.index") [.str (S l) t, .str y u]) Q E s := by
  subst hy
  have e := find_one h ha
  exact index_or hA (fun hf => by rw [e] at hf; exact absurd hf (by omega)) (fun _ _ => by rw [e]; exact hq)
theorem r_fig {x : PySem.Str} {c : Nat} (hA : A.handled = none) (hx : x = S [48, 49, 50, 51, 52, 53, 54, 55, 56, 57]) (hc : 48 ≤ c ∧ c ≤ 57) (hq : Q (.int ((c : Int) - 48) s.toks) { s with toks := s.toks + 1 }) :
    wpAny (model prog w) A (call (.builtin "str.index") [.str x t, .str (S [c]) u]) Q E s := by
  subst hx
  have e := find_fig hc
  exact index_or hA (fun hf => by rw [e] at hf; exact absurd hf (by omega)) (fun _ _ => by rw [e]; exact hq)
end
/-- what stands behind the point -/
def behindL (tp pl : Int) : List Nat := (padl tp pl).drop (-pl + (padl tp pl).length).toNat
def aheadL (tp pl : Int) : List Nat := (padl tp pl).take (-pl + (padl tp pl).length).toNat
theorem padl_all (tp pl : Int) : ∀ c ∈ padl tp pl, 48 ≤ c ∧ c ≤ 57 := by
  intro c hc
  rcases List.mem_append.mp hc with h | h
  · rw [List.eq_of_mem_replicate h]; decide
  · exact nd_all _ c h
theorem textL_split {tp pl : Int} (h : 0 < pl) : textL tp pl = (sg tp ++ aheadL tp pl) ++ 46 :: behindL tp pl := by
  unfold textL aheadL behindL; rw [if_pos h]; simp
theorem no_dot (tp pl : Int) : 46 ∉ sg tp ++ aheadL tp pl := by
  intro h
  rcases List.mem_append.mp h with h | h
  · unfold sg at h; split at h <;> simp at h
  · have := padl_all tp pl 46 (List.mem_of_mem_take h)
    omega
def leastL (tp pl : Int) : List Nat := if 10 ^ pl.toNat ≤ tp.natAbs ∨ tp = 0 then textL tp pl else sg tp ++ 46 :: behindL tp pl
theorem padl_len {tp pl : Int} (h0 : 0 ≤ pl) : pl + 1 ≤ (padl tp pl).length ∧ (padl tp pl).length ≤ pl.toNat + 1 + (nd tp.natAbs).length := by
  unfold padl
  rw [List.length_append, List.length_replicate]
  omega
theorem textL_len {tp pl : Int} (h0 : 0 < pl) : (textL tp pl).length = (sg tp).length + 1 + (padl tp pl).length := by
  rw [textL_split h0]
  have h1 : (aheadL tp pl).length + (behindL tp pl).length = (padl tp pl).length := by
    unfold aheadL behindL
    rw [List.length_take, List.length_drop]; omega
  simp only [List.length_append, List.length_cons]
  omega
-- a written text as a list
-- sizes of lists
theorem str_eq {x y : PySem.Str} {t : Tok} (e : x = y) : Value.str x t = Value.str y t := by subst e; rfl
theorem sign_spec (w : World) (n : Int) (t : Tok) (news : List (Addr × Obj)) :
   CallOf w 171 [.int n t] news 150 900 (fun v news' => ∃ t', v = .str (S (sg n)) t' ∧ news' = news) := by
  unfold CallOf
  w_top off
  k_fill
  k_with_none
  k_with "call type:str" => (k_here; (with_reducible show wpAny _ _ (call (Value.type "str") [Value.int _ _]) _ _ _); first | (refine' r_str_abs (by assumption) ?_) | (refine' r_str (by assumption) ?_))
  k_with "call builtin:len" => (k_here; (with_reducible show wpAny _ _ (call (Value.builtin "len") [Value.str (S _) _]) _ _ _); refine' r_len (by ((try simp only [List.length_append, List.length_replicate, List.length_take, List.length_drop, List.length_cons, List.length_nil]); omega)) ?_)
  k_with "binaryOp Mult str int" => (k_here; refine' r_mul (by (first | with_reducible rfl | exact lit_zero | exact lit_dot | exact lit_dash | exact lit_nil | exact lit_dot0 | exact lit_signs | exact lit_figs)) (by ((try simp only [List.length_append, List.length_replicate, List.length_take, List.length_drop, List.length_cons, List.length_nil]); omega)) (by ((try simp only [List.length_append, List.length_replicate, List.length_take, List.length_drop, List.length_cons, List.length_nil]); omega)) ?_; intro t9 n9)
  k_with "binaryOp Add str str" => (k_here; refine' r_add (by (first | with_reducible rfl | exact lit_zero | exact lit_dot | exact lit_dash | exact lit_nil | exact lit_dot0 | exact lit_signs | exact lit_figs)) (by (first | with_reducible rfl | exact lit_zero | exact lit_dot | exact lit_dash | exact lit_nil | exact lit_dot0 | exact lit_signs | exact lit_figs)) (by ((try simp only [List.length_append, List.length_replicate, List.length_take, List.length_drop, List.length_cons, List.length_nil]); omega)) ?_; intro t9 n9)
  k_with "subscriptTail" => (k_here; (with_reducible show wpAny _ _ (subscriptTail _ (Expr.Slice _ _ none _) (Value.str (S _) _) (Value.ref _)) _ _ _); (with_reducible rename Fr _ _ _ _ => F'); (with_reducible rename News _ _ _ _ => N'); first | (refine' r_cut_to (s := ⟨_, _, _, _, _⟩) F' N' (by ((try simp only [List.length_append, List.length_replicate, List.length_take, List.length_drop, List.length_cons, List.length_nil]); omega)) (by ((try simp only [List.length_append, List.length_replicate, List.length_take, List.length_drop, List.length_cons, List.length_nil]); omega)) (by ((try simp only [List.length_append, List.length_replicate, List.length_take, List.length_drop, List.length_cons, List.length_nil]); omega)) ?_; intro h9 t9 n9 F9 N9) | (refine' r_cut_from (s := ⟨_, _, _, _, _⟩) F' N' (by ((try simp only [List.length_append, List.length_replicate, List.length_take, List.length_drop, List.length_cons, List.length_nil]); omega)) (by ((try simp only [List.length_append, List.length_replicate, List.length_take, List.length_drop, List.length_cons, List.length_nil]); omega)) (by ((try simp only [List.length_append, List.length_replicate, List.length_take, List.length_drop, List.length_cons, List.length_nil]); omega)) ?_; intro h9 t9 n9 F9 N9))
  intros; rename_i hret
  refine wpAny_call ?_
  k_dflt cell_enter
  k_steps
  all_goals (refine hret _ _ _ _ ⟨_, str_eq ?_, rfl⟩ (by k_asm) (by k_asm))
  · rw [lit_dash]; unfold sg; rw [if_pos (by assumption)]
  · rw [lit_nil]; unfold sg; rw [if_neg (by assumption)]
theorem sg_len (n : Int) : (sg n).length ≤ 1 := by unfold sg; split <;> decide
theorem text_spec (w : World) (x dx : Addr) (tp pl : Int) (ta tb tc td : Tok) (rest : List (Addr × Obj)) (hp0 : 0 ≤ pl) (hp1 : pl ≤ 41) (ht : tp.natAbs < 10 ^ 42) :
   CallOf w 150 [.ref x] ((x, instObj 160 dx) :: (dx, decDict w tp pl ta tb tc td) :: rest) 200 1000
    (fun v news' => ∃ t, v = .str (S (textL tp pl)) t ∧ news' = ((x, instObj 160 dx) :: (dx, decDict w tp pl ta tb tc td) :: rest)) := by
  have hL1 := nd_len_pos tp.natAbs
  have hL3 := sg_len tp
  have hL2 := nd_len_le (by decide) ht
  unfold CallOf
  w_top off
  k_fill
  k_with_none
  k_with "call type:str" => (k_here; (with_reducible show wpAny _ _ (call (Value.type "str") [Value.int _ _]) _ _ _); first | (refine' r_str_abs (by assumption) ?_) | (refine' r_str (by assumption) ?_))
  k_with "call builtin:len" => (k_here; (with_reducible show wpAny _ _ (call (Value.builtin "len") [Value.str (S _) _]) _ _ _); refine' r_len (by ((try simp only [List.length_append, List.length_replicate, List.length_take, List.length_drop, List.length_cons, List.length_nil]); omega)) ?_)
  k_with "binaryOp Mult str int" => (k_here; refine' r_mul (by (first | with_reducible rfl | exact lit_zero | exact lit_dot | exact lit_dash | exact lit_nil | exact lit_dot0 | exact lit_signs | exact lit_figs)) (by ((try simp only [List.length_append, List.length_replicate, List.length_take, List.length_drop, List.length_cons, List.length_nil]); omega)) (by ((try simp only [List.length_append, List.length_replicate, List.length_take, List.length_drop, List.length_cons, List.length_nil]); omega)) ?_; intro t9 n9)
  k_with "binaryOp Add str str" => (k_here; refine' r_add (by (first | with_reducible rfl | exact lit_zero | exact lit_dot | exact lit_dash | exact lit_nil | exact lit_dot0 | exact lit_signs | exact lit_figs)) (by (first | with_reducible rfl | exact lit_zero | exact lit_dot | exact lit_dash | exact lit_nil | exact lit_dot0 | exact lit_signs | exact lit_figs)) (by ((try simp only [List.length_append, List.length_replicate, List.length_take, List.length_drop, List.length_cons, List.length_nil]); omega)) ?_; intro t9 n9)
  k_with "subscriptTail" => (k_here; (with_reducible show wpAny _ _ (subscriptTail _ (Expr.Slice _ _ none _) (Value.str (S _) _) (Value.ref _)) _ _ _); (with_reducible rename Fr _ _ _ _ => F'); (with_reducible rename News _ _ _ _ => N'); first | (refine' r_cut_to (s := ⟨_, _, _, _, _⟩) F' N' (by ((try simp only [List.length_append, List.length_replicate, List.length_take, List.length_drop, List.length_cons, List.length_nil]); omega)) (by ((try simp only [List.length_append, List.length_replicate, List.length_take, List.length_drop, List.length_cons, List.length_nil]); omega)) (by ((try simp only [List.length_append, List.length_replicate, List.length_take, List.length_drop, List.length_cons, List.length_nil]); omega)) ?_; intro h9 t9 n9 F9 N9) | (refine' r_cut_from (s := ⟨_, _, _, _, _⟩) F' N' (by ((try simp only [List.length_append, List.length_replicate, List.length_take, List.length_drop, List.length_cons, List.length_nil]); omega)) (by ((try simp only [List.length_append, List.length_replicate, List.length_take, List.length_drop, List.length_cons, List.length_nil]); omega)) (by ((try simp only [List.length_append, List.length_replicate, List.length_take, List.length_drop, List.length_cons, List.length_nil]); omega)) ?_; intro h9 t9 n9 F9 N9))
  k_with "call ref" => (k_here; (with_reducible show wpAny _ _ (call (Value.ref 171) [_]) _ _ _); k_dflt ((refine' callOf_useR (by k_asm) (by k_asm) (by k_asm) (by k_asm) (by k_asm) (by first | exact rfl | assumption) (by exact fun _ h => h) (sign_spec _ _ _ _) (by first | k_room | ktr_room) (by first | k_units | ktr_units) ?_); (intro v9 n9 h9 k9 hp9 F9 N9; obtain ⟨t9, e19, e29⟩ := hp9; subst e19; subst e29)))
  intros; rename_i hret
  refine wpAny_call ?_
  k_dflt cell_enter
  k_steps
  all_goals (refine hret _ _ _ _ ⟨_, str_eq ?_, rfl⟩ (by k_asm) (by k_asm))
  · unfold textL padl; rw [if_pos (by assumption)]
  · unfold textL; rw [if_neg (by assumption)]
-- a written text as a list
-- sizes of lists
theorem pow_cast {a : Int} {n : Nat} : ((10 : Int) ^ n ≤ (if a < 0 then -a else a)) ↔ 10 ^ n ≤ a.natAbs := by
  have h : ((10 : Int) ^ n) = ((10 ^ n : Nat) : Int) := by simp
  rw [h]; split <;> omega
theorem least_spec (w : World) (x dx : Addr) (tp pl : Int) (ta tb tc td : Tok) (rest : List (Addr × Obj)) (hp0 : 0 < pl) (hp1 : pl ≤ 41) (ht : tp.natAbs < 10 ^ 42) :
   CallOf w 157 [.ref x] ((x, instObj 160 dx) :: (dx, decDict w tp pl ta tb tc td) :: rest) 210 1020
    (fun v news' => ∃ t, v = .str (S (leastL tp pl)) t ∧ news' = ((x, instObj 160 dx) :: (dx, decDict w tp pl ta tb tc td) :: rest)) := by
  have hL1 := nd_len_pos tp.natAbs
  have hL3 := sg_len tp
  have hL2 := nd_len_le (by decide) ht
  have hT := textL_len (tp := tp) hp0
  have hP := padl_len (tp := tp) (pl := pl) (by omega)
  have hA : (aheadL tp pl).length ≤ (padl tp pl).length := by unfold aheadL; rw [List.length_take]; omega
  have hB : (behindL tp pl).length ≤ (padl tp pl).length := by unfold behindL; rw [List.length_drop]; omega
  have hS := textL_split (tp := tp) hp0
  have hN := no_dot tp pl
  unfold CallOf
  w_top off
  k_fill
  k_with_none
  k_with "binaryOp Add str str" => (k_here; refine' r_add (by (first | with_reducible rfl | exact lit_zero | exact lit_dot | exact lit_dash | exact lit_nil | exact lit_dot0 | exact lit_signs | exact lit_figs)) (by (first | with_reducible rfl | exact lit_zero | exact lit_dot | exact lit_dash | exact lit_nil | exact lit_dot0 | exact lit_signs | exact lit_figs)) (by ((try simp only [List.length_append, List.length_replicate, List.length_take, List.length_drop, List.length_cons, List.length_nil]); omega)) ?_; intro t9 n9)
  k_with "binaryOp Pow int int" => (k_here; (with_reducible refine pow_int_small (by ((try simp only [List.length_append, List.length_replicate, List.length_take, List.length_drop, List.length_cons, List.length_nil]); omega)) (by ((try simp only [List.length_append, List.length_replicate, List.length_take, List.length_drop, List.length_cons, List.length_nil]); omega)) (by decide) ?_))
  k_with "call builtin:str.index" => (k_here; refine' r_index rfl (by (first | with_reducible rfl | exact lit_zero | exact lit_dot | exact lit_dash | exact lit_nil | exact lit_dot0 | exact lit_signs | exact lit_figs)) (by assumption) (by assumption) ?_)
  k_with "subscriptTail" => (k_here; (with_reducible show wpAny _ _ (subscriptTail _ (Expr.Slice _ _ none _) (Value.str (S _) _) (Value.ref _)) _ _ _); (with_reducible rename Fr _ _ _ _ => F'); (with_reducible rename News _ _ _ _ => N'); first | (refine' r_cut_fromN (s := ⟨_, _, _, _, _⟩) F' N' (by ((try simp only [List.length_append, List.length_replicate, List.length_take, List.length_drop, List.length_cons, List.length_nil]); omega)) (by ((try simp only [List.length_append, List.length_replicate, List.length_take, List.length_drop, List.length_cons, List.length_nil]); omega)) (by ((try simp only [List.length_append, List.length_replicate, List.length_take, List.length_drop, List.length_cons, List.length_nil]); omega)) ?_; intro h9 t9 n9 F9 N9))
  k_with "call ref" => (k_here; (with_reducible show wpAny _ _ (call (Value.ref 171) [_]) _ _ _); k_dflt ((refine' callOf_useR (by k_asm) (by k_asm) (by k_asm) (by k_asm) (by k_asm) (by first | exact rfl | assumption) (by exact fun _ h => h) (sign_spec _ _ _ _) (by first | k_room | ktr_room) (by first | k_units | ktr_units) ?_); (intro v9 n9 h9 k9 hp9 F9 N9; obtain ⟨t9, e19, e29⟩ := hp9; subst e19; subst e29)))
  k_with "call ref" => (k_here; k_dflt (show wpAny _ _ (call (Value.ref 150) [_]) _ _ _); k_dflt ((refine' callOf_useR (by k_asm) (by k_asm) (by k_asm) (by k_asm) (by k_asm) (by first | exact rfl | assumption) (by exact fun _ h => h) (text_spec _ _ _ _ _ _ _ _ _ _ (by omega) (by omega) (by assumption)) (by first | k_room | ktr_room) (by first | k_units | ktr_units) ?_); (intro v9 n9 h9 k9 hp9 F9 N9; obtain ⟨t9, e19, e29⟩ := hp9; subst e19; subst e29)))
  intros; rename_i hret
  refine wpAny_call ?_
  k_dflt cell_enter
  k_steps
  all_goals (refine hret _ _ _ _ ⟨_, str_eq ?_, rfl⟩ (by k_asm) (by k_asm))
  · unfold leastL; rw [if_pos (.inl (pow_cast.mp (by assumption)))]
  · unfold leastL; rw [if_pos (.inr (by assumption))]
  · unfold leastL
    rw [if_neg (fun h => h.elim (fun h => absurd (pow_cast.mpr h) (by assumption)) (fun h => absurd h (by assumption))), hS, Int.toNat_natCast, List.drop_left]
section
open PyProof.Rows.LCg
/-- the octets of a text -/
def B (l : List Nat) : Array UInt8 := ((l.map (fun (c : Nat) => (c : Int))).map (fun n => n.toNat.toUInt8)).toArray
theorem B_size (l : List Nat) : (B l).size = l.length := by simp [B]
theorem B_get {l : List Nat} (hl : ∀ c ∈ l, c < 128) {i : Nat} {u : UInt8} (h : (B l)[i]? = some u) : ∃ c, l[i]? = some c ∧ u.toNat = c := by
  unfold B at h
  simp only [List.getElem?_toArray, List.getElem?_map, Option.map_map] at h
  obtain ⟨c, hc, rfl⟩ := Option.map_eq_some_iff.mp h
  refine ⟨c, hc, ?_⟩
  have := hl c (List.mem_of_getElem? hc)
  simp only [Function.comp, Int.toNat_natCast]
  show c.toUInt8.toNat = c
  simp [Nat.toUInt8]
  omega
section
variable {prog : Program} {w : World} {A : Around} {E : Value → Shared → Prop} {s : Shared} {h₀ : Heap} {L : Addr} {m : PySem.Str → Option Value} {env : Env}
/-- a value that an iterator of its own, n items long, walks over -/
def IterOf (prog : Program) (w : World) (A : Around) (xv : Value) (s₁ : Shared) (n : Nat) (P : Nat → Value → Prop) : Prop :=
  ∀ (Q' : Value → Shared → Prop) (E' : Value → Shared → Prop),
    (∀ (o : Obj) (St : Nat → Heap → Prop), Walks prog w A s₁.heap.objs.size [s₁.heap.objs.size] [s₁.heap.objs.size] n P St → St 0 (s₁.heap.push o) →
      (∀ i h, St i h → ∃ o, h.get? s₁.heap.objs.size = some o) →
      (∀ i (h h' : Heap) o, St i h → h.get? s₁.heap.objs.size = some o → h'.get? s₁.heap.objs.size = some o → St i h') →
      Q' (.ref s₁.heap.objs.size) { s₁ with heap := s₁.heap.push o }) → wpAny (model prog w) A (pyIter xv) Q' E' s₁
theorem iter_text (hh : A.handled = none) {l : List Nat} {t : Tok} (ha : ∀ c ∈ l, c < 128) : IterOf prog w A (.str (S l) t) s l.length (fun i v => ∃ c u, l[i]? = some c ∧ v = .str (S [c]) u) := by
  intro Q' E' hQ
  refine wpAny_pyIter_ascii (by simp [S]; exact ha) ?_
  have W := Walks.strAscii (prog := prog) (w := w) hh s.heap.objs.size (S l) t
  have hn : (S l).cps.size = l.length := by simp [S]
  rw [hn] at W
  refine hQ _ _ { sub := W.sub, frame := W.frame, done := W.done, self := W.self, item := fun i s Q E hi st hQ => W.item i s Q E hi st fun v h' tk hP => hQ v h' tk ?_ } ⟨_, Heap.get?_push_size _ rfl, rfl, rfl⟩ (fun i h st => ?_) (fun i h h' o st e e' => ?_)
  · obtain ⟨c, u, hc, rfl⟩ := hP
    exact ⟨c, u, by simpa [S] using hc, rfl⟩
  · obtain ⟨o, e, _⟩ := st; exact ⟨o, e⟩
  · obtain ⟨o', q, r⟩ := st; rw [e] at q; cases q; exact ⟨o, e', r⟩
theorem iter_octets (hh : A.handled = none) {l : List Nat} {t : Tok} (ha : ∀ c ∈ l, c < 128) : IterOf prog w A (.bytes (B l) t) s l.length (fun i v => ∃ c u, l[i]? = some c ∧ v = .int (c : Int) u) := by
  intro Q' E' hQ
  refine KBw.pyIter_bytes ?_
  have W := KBw.walks (prog := prog) (w := w) hh s.heap.objs.size (B l) t
  rw [B_size] at W
  refine hQ _ _ { sub := W.sub, frame := W.frame, done := W.done, self := W.self, item := fun i s Q E hi st hQ => W.item i s Q E hi st fun v h' tk hP => hQ v h' tk ?_ } ⟨_, Heap.get?_push_size _ rfl, rfl, rfl⟩ (fun i h st => ?_) (fun i h h' o st e e' => ?_)
  · obtain ⟨c, u, hc, rfl⟩ := hP
    obtain ⟨d, hd, e⟩ := B_get ha hc
    exact ⟨d, u, hd, by rw [e]⟩
  · obtain ⟨o, e, _⟩ := st; exact ⟨o, e⟩
  · obtain ⟨o', q, r⟩ := st; rw [e] at q; cases q; exact ⟨o, e', r⟩

/-- what a comprehension wants of its iterable, once that is reckoned -/
def CompAny (prog : Program) (w : World) (A : Around) (h₀ : Heap) (L : Addr) (m : PySem.Str → Option Value) (env : Env) (elt : Expr) (x : PySem.Str) (scope : Scope) (cl : List (PySem.Str × Addr)) (Q : Value → Shared → Prop) (xv : Value) (s₁ : Shared) : Prop :=
  ∃ n P news, IterOf prog w A xv s₁ n P ∧ Fr h₀ L s₁.heap m ∧ News h₀ L s₁.heap news ∧ n ≤ sizeLine ∧
    ∀ g, CompRest prog w A h₀ L m env elt x scope cl { s₁ with heap := g } (fun _ => True) P (FinE h₀ L m s₁ Q) n 0 [] news
theorem comp_U {elt iter : Expr} {x : PySem.Str} {px : Pos} {scope : Scope} {cl : List (PySem.Str × Addr)} {pos : Pos} {Q : Value → Shared → Prop} (_F₀ : Fr h₀ L s.heap m)
    (hclos : closureFor scope env = pure cl) (hcell : ∀ y ∈ scope.names, y.2 ≠ .cell) (hkind : scope.kind = .function)
    (hnames : ∀ y ∈ scope.names, y.2 = .local → scope.names.lookup y.1 = some .local) (hx : scope.names.lookup x = some .local)
    (h : wpAny (model prog w) A (eval iter env) (CompAny prog w A h₀ L m env elt x scope cl Q) E s)
    (hs : ∀ x, foldedSetIterable iter env x = pure x := by intro _; rfl) :
    wpAny (model prog w) A (eval (.ListComp elt [⟨.Name x px, iter, [], 0⟩] scope pos) env) Q E s := by
  rw [eval_ListComp]
  refine wpAny_comprehension_free (use := none) rfl hs hclos hkind hnames (wpAny_mono h (fun xv s₁ h₁ => ?_) fun _ _ e => e)
  obtain ⟨n, P, news, I, F, N, hsz, R⟩ := h₁
  refine I _ _ fun o St W hst hIo hSt => ?_
  refine block_U W hsz hIo (fun i h h' o _ st e e' _ _ _ => hSt i h h' o st e e') hcell hkind hx hst (fun b hb => ?_)
    (F.keeps fun _ _ e => Heap.get?_push_of_some _ e) (N.grown fun _ _ e => Heap.get?_push_of_some _ e) (Nat.ne_of_lt F.ns.lt) (next_is_new F) (fun p hp => Nat.ne_of_lt (Heap.lt_size (N p hp).1)) trivial (R _) ?_
  · rw [List.mem_singleton.mp hb]
    show s₁.heap.objs.size < (s₁.heap.push _).objs.size
    rw [Heap.size_push]; exact Nat.lt_succ_self _
  · intro D C h tk m' ys news' F' N' o1 hn hC₀ hD₀ hCL hDL hCD offC fin
    refine ⟨m', hn, fun h'' hs'' => fin D h'' tk (F'.change hs'' hCL hC₀) (fun p hp => ?_) o1⟩
    refine ⟨hs''.extBut _ _ ?_ (N' p hp).1, (N' p hp).2⟩
    rcases List.mem_cons.mp hp with rfl | hp
    · exact Ne.symm hCD
    · exact offC p hp

/-- one turn's element -/
def MyEl (news : List (Addr × Obj)) (R : Nat → Value → Prop) (c : Nat) (y : Value) (news' : List (Addr × Obj)) : Prop := news' = news ∧ R c y
def AreBy (R : Nat → Value → Prop) : List Value → List Nat → Prop
  | [], [] => True
  | y :: ys, c :: l => R c y ∧ AreBy R ys l
  | _, _ => False
theorem areBy_snoc {R : Nat → Value → Prop} {y : Value} {c : Nat} : ∀ {ys : List Value} {l : List Nat}, AreBy R ys l → R c y → AreBy R (ys ++ [y]) (l ++ [c])
  | [], [], _, h => ⟨h, trivial⟩
  | _ :: _, _ :: _, h, h' => ⟨h.1, areBy_snoc h.2 h'⟩
theorem areBy_len {R : Nat → Value → Prop} : ∀ {ys : List Value} {l : List Nat}, AreBy R ys l → ys.length = l.length
  | [], [], _ => rfl
  | _ :: _, _ :: _, h => congrArg (· + 1) (areBy_len h.2)
theorem areBy_ints : ∀ {ys : List Value} {l : List Nat}, AreBy (fun c y => ∃ u, y = .int (c : Int) u) ys l → IntsAre ys (l.map fun (c : Nat) => (c : Int))
  | [], [], _ => .nil
  | _ :: _, c :: _, ⟨⟨u, e⟩, h⟩ => by subst e; exact .cons _ u (areBy_ints h)
theorem areBy_strs : ∀ {ys : List Value} {l : List Nat}, AreBy (fun c y => ∃ u, y = .str (S [c]) u) ys l → StrsAre ys (l.map fun c => S [c])
  | [], [], _ => .nil
  | _ :: _, c :: _, ⟨⟨u, e⟩, h⟩ => by subst e; exact .cons _ u (areBy_strs h)
theorem rest_by {elt : Expr} {x : PySem.Str} {scope : Scope} {cl : List (PySem.Str × Addr)} {l : List Nat} {P : Nat → Value → Prop} {V : Nat → Tok → Value} (R : Nat → Value → Prop) {Fin : List Value → List (Addr × Obj) → Prop} {news : List (Addr × Obj)}
    (hP : ∀ i v, P i v → ∃ c u, l[i]? = some c ∧ v = V c u)
    (turn : ∀ c u I oI C oC D m₂ ys h tk (E' : Value → Shared → Prop), c ∈ l → NsObj oC m₂ → m₂ x = some (V c u) → Fr h₀ L h m → News h₀ L h ((I, oI) :: (C, oC) :: (D, lst ys) :: news) → Off3 I C D news → ((@Ne Nat I C) ∧ (@Ne Nat I D) ∧ (@Ne Nat C D)) →
      wpAny (model prog w) A (eval elt (compEnvC scope cl C env)) (CompEnd h₀ L m { s with heap := h, toks := tk } I oI C oC D (lst ys) (fun _ => True) (fun y news' => MyEl news R c y news')) E' { s with heap := h, toks := tk })
    (fin : ∀ ys, AreBy R ys l → Fin ys news) : CompRest prog w A h₀ L m env elt x scope cl s (fun _ => True) P Fin l.length 0 [] news := by
  have key : ∀ (j i : Nat) (ys : List Value), i + j = l.length → AreBy R ys (l.take i) → CompRest prog w A h₀ L m env elt x scope cl s (fun _ => True) P Fin j i ys news := by
    intro j
    induction j with
    | zero =>
      intro i ys hi hy
      have e : i = l.length := by omega
      subst e
      rw [List.take_length] at hy
      exact CompRest.zero (fin ys hy)
    | succ j ih =>
      intro i ys hi hy
      refine CompRest.succ ?_
      intro v I oI C oC D m₂ h tk E' hv hC hx F N off ne
      obtain ⟨c, u, hc, hv'⟩ := hP i v hv
      rw [hv'] at hx
      refine wpAny_mono (turn c u I oI C oC D m₂ ys h tk E' (List.mem_of_getElem? hc) hC hx F N off ne) (fun y s₂ hq => ?_) fun _ _ e => e
      obtain ⟨h', tk', nw, e, F', N', off', hS, hn, hy'⟩ := hq
      rw [hn] at N' off'
      refine ⟨h', tk', news, e, F', N', off', hS, ?_⟩
      refine ih (i + 1) _ (by omega) ?_
      rw [List.take_add_one, hc]
      exact areBy_snoc hy hy'
  exact key l.length 0 [] (by omega) (by rw [List.take_zero]; trivial)
theorem CompAny.text {elt : Expr} {x : PySem.Str} {scope : Scope} {cl : List (PySem.Str × Addr)} {l : List Nat} {t : Tok} (R : Nat → Value → Prop) {Q : Value → Shared → Prop} {news : List (Addr × Obj)}
    (hh : A.handled = none) (F : Fr h₀ L s.heap m) (N : News h₀ L s.heap news) (ha : ∀ c ∈ l, c < 128) (hl : l.length ≤ 1000)
    (turn : ∀ c u I oI C oC D m₂ ys h tk (E' : Value → Shared → Prop), c ∈ l → NsObj oC m₂ → m₂ x = some (.str (S [c]) u) → Fr h₀ L h m → News h₀ L h ((I, oI) :: (C, oC) :: (D, lst ys) :: news) → Off3 I C D news → ((@Ne Nat I C) ∧ (@Ne Nat I D) ∧ (@Ne Nat C D)) →
      wpAny (model prog w) A (eval elt (compEnvC scope cl C env)) (CompEnd h₀ L m { s with heap := h, toks := tk } I oI C oC D (lst ys) (fun _ => True) (fun y news' => MyEl news R c y news')) E' { s with heap := h, toks := tk })
    (fin : ∀ ys, AreBy R ys l → FinE h₀ L m s Q ys news) : CompAny prog w A h₀ L m env elt x scope cl Q (.str (S l) t) s :=
  ⟨l.length, _, news, iter_text hh ha, F, N, by have := sizeLine_ge; omega, fun _ => rest_by (V := fun c u => .str (S [c]) u) R (fun _ _ h => h) turn fin⟩
theorem CompAny.octets {elt : Expr} {x : PySem.Str} {scope : Scope} {cl : List (PySem.Str × Addr)} {l : List Nat} {t : Tok} (R : Nat → Value → Prop) {Q : Value → Shared → Prop} {news : List (Addr × Obj)}
    (hh : A.handled = none) (F : Fr h₀ L s.heap m) (N : News h₀ L s.heap news) (ha : ∀ c ∈ l, c < 128) (hl : l.length ≤ 1000)
    (turn : ∀ c u I oI C oC D m₂ ys h tk (E' : Value → Shared → Prop), c ∈ l → NsObj oC m₂ → m₂ x = some (.int (c : Int) u) → Fr h₀ L h m → News h₀ L h ((I, oI) :: (C, oC) :: (D, lst ys) :: news) → Off3 I C D news → ((@Ne Nat I C) ∧ (@Ne Nat I D) ∧ (@Ne Nat C D)) →
      wpAny (model prog w) A (eval elt (compEnvC scope cl C env)) (CompEnd h₀ L m { s with heap := h, toks := tk } I oI C oC D (lst ys) (fun _ => True) (fun y news' => MyEl news R c y news')) E' { s with heap := h, toks := tk })
    (fin : ∀ ys, AreBy R ys l → FinE h₀ L m s Q ys news) : CompAny prog w A h₀ L m env elt x scope cl Q (.bytes (B l) t) s :=
  ⟨l.length, _, news, iter_octets hh ha, F, N, by have := sizeLine_ge; omega, fun _ => rest_by (V := fun c u => .int (c : Int) u) R (fun _ _ h => h) turn fin⟩
end
section
variable {prog : Program} {w : World} {A : Around} {E : Value → Shared → Prop} {s : Shared} {t u : Tok} {Q : Value → Shared → Prop} {h₀ : Heap} {L D : Addr} {m : PySem.Str → Option Value} {news : List (Addr × Obj)}
theorem r_ord {c : Nat} (h : Q (.int (c : Int) s.toks) { s with toks := s.toks + 1 }) : wpAny (model prog w) A (call (.builtin "ord") [.str (S [c]) t]) Q E s := P.ord_of_char h
theorem r_chr {c : Nat} (hc : c < 128) (h : Q (.str (S [c]) s.toks) { s with toks := s.toks + 1 }) : wpAny (model prog w) A (call (.builtin "chr") [.int (c : Int) t]) Q E s :=
  chr_of_range (by omega) (by omega) (by simpa [S] using h)
theorem r_bytes {ys : List Value} {l : List Nat} (F : Fr h₀ L s.heap m) (N : News h₀ L s.heap news) (hm : (D, PyProof.Rows.LCg.lst ys) ∈ news) (hy : AreBy (fun c y => ∃ u, y = .int (c : Int) u) ys l) (ha : ∀ c ∈ l, c < 128) (hl : l.length ≤ 1000) (hh : A.handled = none)
    (h : ∀ h' t k, Fr h₀ L h' m → News h₀ L h' news → Q (.bytes (B l) t) { s with heap := h', toks := k }) : wpAny (model prog w) A (call (.type "bytes") [.ref D]) Q E s := by
  refine bytes_K F N ⟨_, (N _ hm).1, rfl, _, rfl⟩ (areBy_ints hy) (fun n hn => ?_) (by rw [areBy_len hy]; have := sizeLine_ge; omega) hh (fun h' t k F' N' _ => h h' t k F' N')
  obtain ⟨c, hc, rfl⟩ := List.mem_map.mp hn
  have := ha c hc
  omega
theorem join_signs (l : List Nat) : Txt.join (S []) (l.map fun c => S [c]) = S l := by
  unfold Txt.join Builtin.Str.glued
  have key : ∀ (r : List Nat) (a : Array Nat), (r.map fun c => S [c]).foldl (fun acc p => acc ++ (S []).cps ++ p.cps) a = a ++ r.toArray := by
    intro r
    induction r with
    | nil => intro a; simp
    | cons c r ih =>
      intro a
      rw [List.map_cons, List.foldl_cons, ih]
      apply Array.toList_inj.mp
      simp [S]
  cases l with
  | nil => rfl
  | cons c r =>
    rw [List.map_cons, List.drop_succ_cons, List.drop_zero, key]
    simp [S, List.headD]
theorem r_join {x : PySem.Str} {ys : List Value} {l : List Nat} (N : News h₀ L s.heap news) (hx : x = S []) (hm : (D, PyProof.Rows.LCg.lst ys) ∈ news) (hy : AreBy (fun c y => ∃ u, y = .str (S [c]) u) ys l) (hl : l.length ≤ 1000)
    (h : ∀ t' k, Q (.str (S l) t') { s with toks := k }) : wpAny (model prog w) A (call (.builtin "str.join") [.str x t, .ref D]) Q E s := by
  subst hx
  refine join_listC (items := ys.toArray) (ys := l.map fun c => S [c]) ⟨_, (N _ hm).1, rfl, _, rfl⟩ (by simpa using areBy_strs hy) (by rw [S_len]; decide) ?_ (fun t' k => by rw [join_signs]; exact h t' k)
  have e : ((l.map fun c => S [c]).map (fun x => x.length)).sum = l.length := by
    clear hl hy h
    induction l with
    | nil => rfl
    | cons c l ih => rw [List.map_cons, List.map_cons, List.sum_cons, ih, S_len]; simp; omega
  rw [e, List.length_map]
  omega
theorem r_len_list {ys : List Value} (N : News h₀ L s.heap news) (hm : (D, PyProof.Rows.LCg.lst ys) ∈ news) (hl : ys.length ≤ 1000) (h : Q (.int (ys.length : Int) (s.toks + 1)) { s with toks := s.toks + 1 + 1 }) : wpAny (model prog w) A (call (.builtin "len") [.ref D]) Q E s :=
  len_list ⟨_, (N _ hm).1, rfl, _, rfl⟩ (by simp; omega) (by simpa using h)
end
/-- neither a sign nor a point -/
def isFig (c : Nat) : Bool := c != 45 && c != 46
theorem lit_signs : Str.ofString "-." = S [45, 46] := by decide +kernel
section
variable {prog : Program} {w : World} {A : Around} {E : Value → Shared → Prop} {s : Shared} {t u : Tok} {Q : Value → Shared → Prop} {h₀ : Heap} {L D : Addr} {m : PySem.Str → Option Value} {news : List (Addr × Obj)} {env : Env}
theorem r_notin {x : PySem.Str} {c : Nat} (hx : x = S [45, 46]) (h : Q (.bool (isFig c)) s) : wpAny (model prog w) A (compareOp .NotIn (.str (S [c]) u) (.str x t)) Q E s := by
  subst hx
  refine PyProof.Rows.notIn_str ?_
  have e : (!(Builtin.Str.occurrences (S [45, 46]) (S [c]) 0 (S [45, 46]).length 1).isEmpty) = decide (c ∈ [45, 46]) := by
    have := PySem.StrLaws.found_one (S [45, 46]) c
    simpa [S] using this
  rw [e]
  have e2 : (!decide (c ∈ [45, 46])) = isFig c := by
    unfold isFig
    by_cases h1 : c = 45
    · subst h1; rfl
    · by_cases h2 : c = 46
      · subst h2; rfl
      · simp [h1, h2]
  rw [e2]; exact h
def CompAnyT (prog : Program) (w : World) (A : Around) (h₀ : Heap) (L : Addr) (m : PySem.Str → Option Value) (env : Env) (ct elt : Expr) (x : PySem.Str) (scope : Scope) (cl : List (PySem.Str × Addr)) (Q : Value → Shared → Prop) (xv : Value) (s₁ : Shared) : Prop :=
  ∃ n P news, IterOf prog w A xv s₁ n P ∧ Fr h₀ L s₁.heap m ∧ News h₀ L s₁.heap news ∧ n ≤ sizeLine ∧
    ∀ g, PyProof.Rows.LCt.CompRestT prog w A h₀ L m env ct elt x scope cl { s₁ with heap := g } (fun _ => True) P (FinE h₀ L m s₁ Q) n 0 [] news
theorem comp_T {ct elt iter : Expr} {x : PySem.Str} {px : Pos} {scope : Scope} {cl : List (PySem.Str × Addr)} {pos : Pos} {Q : Value → Shared → Prop} (_F₀ : Fr h₀ L s.heap m)
    (hclos : closureFor scope env = pure cl) (hcell : ∀ y ∈ scope.names, y.2 ≠ .cell) (hkind : scope.kind = .function)
    (hnames : ∀ y ∈ scope.names, y.2 = .local → scope.names.lookup y.1 = some .local) (hx : scope.names.lookup x = some .local)
    (h : wpAny (model prog w) A (eval iter env) (CompAnyT prog w A h₀ L m env ct elt x scope cl Q) E s)
    (hs : ∀ x, foldedSetIterable iter env x = pure x := by intro _; rfl) :
    wpAny (model prog w) A (eval (.ListComp elt [⟨.Name x px, iter, [ct], 0⟩] scope pos) env) Q E s := by
  rw [eval_ListComp]
  refine wpAny_comprehension_free (use := none) rfl hs hclos hkind hnames (wpAny_mono h (fun xv s₁ h₁ => ?_) fun _ _ e => e)
  obtain ⟨n, P, news, I, F, N, hsz, R⟩ := h₁
  refine I _ _ fun o St W hst hIo hSt => ?_
  refine PyProof.Rows.LCt.block_T W hsz hIo (fun i h h' o _ st e e' _ _ _ => hSt i h h' o st e e') hcell hkind hx hst (fun b hb => ?_)
    (F.keeps fun _ _ e => Heap.get?_push_of_some _ e) (N.grown fun _ _ e => Heap.get?_push_of_some _ e) (Nat.ne_of_lt F.ns.lt) (next_is_new F) (fun p hp => Nat.ne_of_lt (Heap.lt_size (N p hp).1)) trivial (R _) ?_
  · rw [List.mem_singleton.mp hb]
    show s₁.heap.objs.size < (s₁.heap.push _).objs.size
    rw [Heap.size_push]; exact Nat.lt_succ_self _
  · intro D C h tk m' ys news' F' N' o1 hn hC₀ hD₀ hCL hDL hCD offC fin
    refine ⟨m', hn, fun h'' hs'' => fin D h'' tk (F'.change hs'' hCL hC₀) (fun p hp => ?_) o1⟩
    refine ⟨hs''.extBut _ _ ?_ (N' p hp).1, (N' p hp).2⟩
    rcases List.mem_cons.mp hp with rfl | hp
    · exact Ne.symm hCD
    · exact offC p hp
theorem CompAnyT.text {ct elt : Expr} {x : PySem.Str} {scope : Scope} {cl : List (PySem.Str × Addr)} {l : List Nat} {t : Tok} (keep : Nat → Bool) (R : Nat → Value → Prop) {Q : Value → Shared → Prop} {news : List (Addr × Obj)}
    (hh : A.handled = none) (F : Fr h₀ L s.heap m) (N : News h₀ L s.heap news) (ha : ∀ c ∈ l, c < 128) (hl : l.length ≤ 1000)
    (turn : ∀ c u I oI C oC D m₂ ys h tk (E' : Value → Shared → Prop), c ∈ l → NsObj oC m₂ → m₂ x = some (.str (S [c]) u) → Fr h₀ L h m → News h₀ L h ((I, oI) :: (C, oC) :: (D, lst ys) :: news) → Off3 I C D news → ((@Ne Nat I C) ∧ (@Ne Nat I D) ∧ (@Ne Nat C D)) →
      wpAny (model prog w) A (isTrue ct (compEnvC scope cl C env) (eval ct (compEnvC scope cl C env))) (fun ok s' => if ok = true then
        wpAny (model prog w) A (eval elt (compEnvC scope cl C env)) (CompEnd h₀ L m { s with heap := h, toks := tk } I oI C oC D (lst ys) (fun _ => True) (fun y news' => MyEl news (fun c y => keep c = true ∧ R c y) c y news')) E' s'
        else CompEnd h₀ L m { s with heap := h, toks := tk } I oI C oC D (lst ys) (fun _ => True) (fun y news' => MyEl news (fun c _ => keep c = false) c y news') Value.none s') E' { s with heap := h, toks := tk })
    (fin : ∀ ys, AreBy R ys (l.filter keep) → FinE h₀ L m s Q ys news) : CompAnyT prog w A h₀ L m env ct elt x scope cl Q (.str (S l) t) s := by
  refine ⟨l.length, _, news, iter_text hh ha, F, N, by have := sizeLine_ge; omega, fun g => ?_⟩
  have key : ∀ (j i : Nat) (ys : List Value), i + j = l.length → AreBy R ys ((l.take i).filter keep) →
      PyProof.Rows.LCt.CompRestT prog w A h₀ L m env ct elt x scope cl { s with heap := g } (fun _ => True) (fun i v => ∃ c u, l[i]? = some c ∧ v = .str (S [c]) u) (FinE h₀ L m s Q) j i ys news := by
    intro j
    induction j with
    | zero =>
      intro i ys hi hy
      have e : i = l.length := by omega
      subst e
      rw [List.take_length] at hy
      exact PyProof.Rows.LCt.CompRestT.zero (fin ys hy)
    | succ j ih =>
      intro i ys hi hy
      refine PyProof.Rows.LCt.CompRestT.succ ?_
      intro v I oI C oC D m₂ h tk E' hv hC hx F N off ne
      obtain ⟨c, u, hc, hv'⟩ := hv
      rw [hv'] at hx
      refine wpAny_mono (turn c u I oI C oC D m₂ ys h tk E' (List.mem_of_getElem? hc) hC hx F N off ne) (fun ok s₂ hq => ?_) fun _ _ e => e
      have ht : (l.take (i + 1)) = l.take i ++ [c] := by rw [List.take_add_one, hc]; rfl
      by_cases hok : ok = true
      · rw [if_pos hok] at hq ⊢
        refine wpAny_mono hq (fun y s₃ hq => ?_) fun _ _ e => e
        obtain ⟨h', tk', nw, e, F', N', off', hS, hn, hkp, hy'⟩ := hq
        rw [hn] at N' off'
        refine ⟨h', tk', news, e, F', N', off', hS, ?_⟩
        refine ih (i + 1) _ (by omega) ?_
        rw [ht, List.filter_append]
        have e1 : [c].filter keep = [c] := by simp [hkp]
        rw [e1]
        exact areBy_snoc hy hy'
      · rw [if_neg hok] at hq ⊢
        obtain ⟨h', tk', nw, e, F', N', off', hS, hn, hkp⟩ := hq
        rw [hn] at N' off'
        refine ⟨h', tk', news, e, F', N', off', hS, ?_⟩
        refine ih (i + 1) _ (by omega) ?_
        rw [ht, List.filter_append]
        have e1 : [c].filter keep = [] := by simp [hkp]
        rw [e1, List.append_nil]
        exact hy
  exact key l.length 0 [] (by omega) (by rw [List.take_zero]; trivial)
end
end
section
open PyProof.Rows.LCg
theorem toct_spec (w : World) (l : List Nat) (t : Tok) (news : List (Addr × Obj)) (hl : l.length ≤ 100) (hc : ∀ c ∈ l, c < 128) :
   CallOf w 54 [.str (S l) t] news 150 900 (fun v news' => ∃ t', v = .bytes (B l) t' ∧ news' = news) := by
  unfold CallOf
  w_top off
  k_fill
  k_with_none
  k_with "eval ListComp" => (k_here; k_dflt (refine comp_U (by k_asm) (by with_unfolding_all rfl) (by decide) (by rfl) (by decide) (by rfl) ?_))
  k_with "CompAny" => (k_here; k_dflt (refine' CompAny.text (fun c y => ∃ u, y = .int (c : Int) u) (by rfl) (by k_asm) (by k_asm) (by assumption) (by omega) (fun c' u' I' oI' C' oC' D' m' ys' h' tk' E' hc' hC' hx' F' N' off' ne' => ?_) (fun ys' hy' => ?_); (all_goals (try (simp only [LCg.Off3, and_true] at off')))))
  k_with "CompEnd" => (k_dflt (exact LCg.CompEnd.intro (by k_asm) (by k_asm) _ (fun _ h => h) (by assumption) trivial ⟨rfl, _, rfl⟩))
  k_with "call builtin:ord" => (k_here; refine r_ord ?_)
  k_with "call type:bytes" => (k_here; (with_reducible show wpAny _ _ (call (Value.type "bytes") [Value.ref _]) _ _ _); k_dflt (refine' r_bytes (by k_asm) (by k_asm) (by k_mem) (by assumption) (by assumption) (by omega) (by rfl) ?_); intro h9 t9 k9 F9 N9)
  intros; rename_i hret
  refine wpAny_call ?_
  k_dflt cell_enter
  k_steps
  exact hret _ _ _ _ ⟨_, rfl, rfl⟩ (by k_asm) (cb_drop (by k_asm) fun p hp => .tail _ hp)
end
section

/-- an object of the class PaperError, as it stands once it is made -/
def IsPE (o : Obj) : Prop := ∃ t0 : Addr, o.cls = .ref 46 ∧ o.data = .fields #[.ref t0, .none, .none, .none, .bool false, .none]
/-- the class itself -/
def PECls (h : Heap) : Prop := ∃ nm q bs sn sub ab col dd k0 k1 k2 k3 k5, h.get? 46 = some (excClassObj nm q 46 45 bs [.type "Exception", .type "BaseException", .type "object"] true sn sub ab col dd k0 k1 k2 k3 k5 "Exception.__new__")
theorem pe_cls' {w : World} {h : Heap} : (hd.heap_39 w.params).In h → PySem.Challenge.rw_og0141_01.row.prog = PySem.Challenge.rw_og0141_01.row.prog → PECls h := by
  w_top off
  k_fill
  k_with_none
  intro X _
  exact ⟨_, _, _, _, _, _, _, _, _, _, _, _, _, X 46 _ (by k_is)⟩
theorem pe_cls {w : World} {h : Heap} (X : (hd.heap_39 w.params).In h) : PECls h := pe_cls' X rfl
theorem PECls.keeps {h h' : Heap} (X : PECls h) (k : ∀ b o, h.get? b = some o → h'.get? b = some o) : PECls h' := by
  obtain ⟨_, _, _, _, _, _, _, _, _, _, _, _, _, e⟩ := X
  exact ⟨_, _, _, _, _, _, _, _, _, _, _, _, _, k _ _ e⟩
theorem ns_at {K : Frag} {h : Heap} {a : Addr} {mg : Str → Option Value} {n : Str} {v : Value} (X : K.In h) (G : h.Ns a mg) (e : nsIn K a n = some (some v)) : mg n = some v := by
  obtain ⟨o, es, ep, ho, hd, _, hf⟩ := G
  unfold nsIn at e
  split at e
  · rename_i c d es' n' sl q
    have := X _ _ q
    rw [ho] at this
    cases this
    cases hd
    split at e
    · rename_i en he
      cases e
      rw [← hf]
      unfold nsFind findBy
      rw [← Array.find?_toList, he]
      rfl
    · split at e <;> cases e
  · cases e
theorem pe_ns {w : World} {h : Heap} (X : (hd.heap_39 w.params).In h) : ∃ mN, h.Ns 45 mN ∧ mN "__init__" = some (.ref 36) ∧ mN "__setattr__" = none ∧ mN "what" = none ∧ mN "at" = none := by
  have ok : nsOkIn (hd.heap_39 w.params) 45 = true := by kernel_rfl
  have G := Heap.Ns.of_isNs (isNs_of_in X ok)
  exact ⟨_, G, ns_at X G (by kernel_rfl), ns_none_of X G (by kernel_rfl), ns_none_of X G (by kernel_rfl), ns_none_of X G (by kernel_rfl)⟩
/-- what a raise wants of the value it is given -/
def PEnd (E : Value → Shared → Prop) (v : Value) (s₁ : Shared) : Prop := ∃ a o, v = .ref a ∧ PECls s₁.heap ∧ s₁.heap.get? a = some o ∧ IsPE o ∧ E (.ref a) s₁
theorem Raise_pe {prog : Program} {w : World} {A : Around} {E : Value → Shared → Prop} {s : Shared} {env : Env} {e : Expr} {pos : Pos} {Q : Flow → Shared → Prop} (hh : A.handled = none)
    (h : wpAny (model prog w) A (eval e env) (PEnd E) E s) :
    wpAny (model prog w) A (exec (.Raise (some e) none pos) env) Q E s := by
  have hcB : (Value.ref 46 :: [.type "Exception", .type "BaseException", .type "object"]).contains (.type "BaseException") = true := by decide
  show wpAny (model prog w) A (do standAt pos; raiseStmt env (some (do let v ← eval e env; standAt pos; pure v)) none) Q E s
  refine wpAny_bind (wpAny_standAt ?_)
  unfold raiseStmt
  dsimp only
  refine wpAny_bind (wpAny_bind (wpAny_mono h (fun v s₁ h₁ => wpAny_bind (wpAny_standAt (wpAny_pure ?_))) fun _ _ x => x))
  obtain ⟨a, o, rfl, ⟨_, _, _, _, _, _, _, _, _, _, _, _, _, hC⟩, ha, ⟨a0, hc, hd⟩, hE⟩ := h₁
  obtain ⟨oc, od, odt, osl⟩ := o
  subst hc hd
  obtain ⟨hp, g, d, tk, os⟩ := s₁
  repeat (first | with_reducible refine wpAny_loadPart_at ha ?_ | with_reducible refine wpAny_loadPart_at hC ?_ | (with_reducible refine wpAny_isSubtype_exc hC ?_; rw [hcB]) | wp_step)
  exact wpAny_raiseNew_none hh hE
section
variable {M : Model} {A : Around} {E : Value → Shared → Prop} {s' : Shared} {base g g₂ h : Heap} {outer : List Env} {L a e : Addr} {m : Str → Option Value} {name : Str} {scope : Scope} {cd : Value} {Q : Unit → Shared → Prop} {news : List (Addr × Obj)}
/-- the first frame that an error leaves: the error stands in the ledger -/
theorem leave_first {env : Env} {o : Obj} (K : Below A base outer g) (K' : Below (A.deeper env) base (env :: outer) s'.heap) (hf : env.frame = some L) (F : Fr g L s'.heap m) (N : News g L s'.heap ((e, o) :: news)) (hne : ∀ q ∈ news, q.1 ≠ e) (hx : IsPE o)
    (hQ : ∀ h', RaisedN base outer e (.ref 46) news h' → g.UpToSlots h' → Q () { s' with heap := h' }) :
    wpAny M (A.deeper env) (leaving env (.ref e)) Q E s' := by
  obtain ⟨a0, hcls, hd⟩ := hx
  have he := (N _ (.head _)).1
  have hin : ∀ env' ∈ (env :: outer), ∀ b, env'.frame = some b → b ∈ e :: (env :: outer).filterMap (·.frame) := fun env' he' b hb => .tail _ (List.mem_filterMap.mpr ⟨env', he', hb⟩)
  have hge : base.get? e = none := fresh_of_stays K.stays (N _ (.head _)).2.2
  have st : base.StaysIn (hideAll s'.heap (e :: (env :: outer).filterMap (·.frame))) := fun b o' q => hideAll_get _ (K'.stays b o' q) fun hm => by
    rcases List.mem_cons.mp hm with rfl | hm
    · rw [hge] at q; cases q
    · rw [(K'.frames.mem hm).1] at q; cases q
  have hl : ∀ q ∈ news, (hideAll s'.heap (e :: (env :: outer).filterMap (·.frame))).get? q.1 = some q.2 ∧ base.get? q.1 = none := fun q hq => by
    have Nq := N q (.tail _ hq)
    refine ⟨hideAll_get _ Nq.1 fun hm => ?_, fresh_of_stays K.stays Nq.2.2⟩
    rcases List.mem_cons.mp hm with z | hm
    · exact hne q hq z
    obtain ⟨env', he', hf'⟩ := List.mem_filterMap.mp hm
    rcases List.mem_cons.mp he' with rfl | he'
    · rw [hf] at hf'; exact Nq.2.1 (Option.some.inj hf').symm
    · obtain ⟨o', ho, _⟩ := (K.frames.mem (List.mem_filterMap.mpr ⟨env', he', hf'⟩)).2
      rw [Nq.2.2] at ho; cases ho
  have hen : (hideAll s'.heap (e :: (env :: outer).filterMap (·.frame))).get? e = none := hideAll_none _ (.head _)
  refine wpAny_leaving_firstW (a0 := .ref a0) K'.stack (funFrames_hide K'.frames hin) hf he (fun b o hb => of_hideAll _ hb) hen hd rfl rfl fun h' hL => ?_
  obtain ⟨k1, ⟨_, _, k2⟩, k3, k4⟩ := hL
  exact hQ h' ⟨_, .ref a0, st, hl, k1, hen, k2, by rw [← hcls]; exact k3⟩ ((Heap.UpToSlots.of_keeps F.keep).trans k4)
theorem leave_next {env : Env} {cls : Value} (K : Below A base outer g) (hf : env.frame = some L) (F : Fr g L g₂ m) (R : RaisedN base (env :: outer) e cls news s'.heap) (hsm : g₂.UpToSlots s'.heap)
    (hQ : ∀ h', RaisedN base outer e cls news h' → g.UpToSlots h' → Q () { s' with heap := h' }) :
    wpAny M (A.deeper env) (leaving env (.ref e)) Q E s' := by
  obtain ⟨B, a0, hB, hl, hfl⟩ := R
  exact wpAny_leaves_onW (Around.frames_deeper K.stack) hf hfl fun h' x1 x2 => hQ h' ⟨B, a0, hB, hl, x1⟩ ((Heap.UpToSlots.of_keeps F.keep).trans (hsm.trans x2))
end
section
variable {prog : Program} {w : World} {A : Around} {E : Value → Shared → Prop} {s : Shared} {g h h' : Heap} {L e : Addr} {m : PySem.Str → Option Value} {news : List (Addr × Obj)} {o : Obj}
theorem more_new {vs : List Value} (F : Fr g L h m) (N : News g L h news) (hm : Heap.MadeExcOf h h' e (.ref 46) vs) :
    ∃ o, IsPE o ∧ o.dict = none ∧ Fr g L h' m ∧ News g L h' ((e, o) :: news) ∧ (∀ q ∈ news, q.1 ≠ e) := by
  obtain ⟨t, he, _, _⟩ := hm.there
  have F' := F.keeps hm.keeps
  refine ⟨_, ⟨_, rfl, rfl⟩, rfl, F', News.more F' (N.grown hm.keeps) he (fun es n q => by cases q) (by
    cases q : g.get? e with
    | none => rfl
    | some o => have := F.keep _ _ q; rw [hm.new] at this; cases this), fun q hq z => ?_⟩
  have := (N q hq).1
  rw [z, hm.new] at this; cases this
/-- a heap in which the entry e of the ledger, and it alone, has another object -/
theorem swap {o₁ : Obj} (F : Fr g L h m) (N : News g L h ((e, o) :: news)) (hne : ∀ q ∈ news, q.1 ≠ e) (he : h'.get? e = some o₁) (hk : ∀ b ob, b ≠ e → h.get? b = some ob → h'.get? b = some ob) :
    Fr g L h' m ∧ News g L h' ((e, o₁) :: news) := by
  have Ne := N _ (.head _)
  obtain ⟨oL, es, ep, eL, rL⟩ := F.ns
  refine ⟨⟨⟨oL, es, ep, hk L oL (Ne.2.1).symm eL, rL⟩, fun b ob q => hk b ob (fun z => by rw [z, Ne.2.2] at q; cases q) (F.keep b ob q), F.above⟩, fun q hq => ?_⟩
  rcases List.mem_cons.mp hq with rfl | hq
  · exact ⟨he, Ne.2⟩
  · have Nq := N q (.tail _ hq)
    exact ⟨hk _ _ (hne q hq) Nq.1, Nq.2⟩
theorem r_exc_init {Q : Value → Shared → Prop} {x : Value} (F : Fr g L s.heap m) (N : News g L s.heap ((e, o) :: news)) (hne : ∀ q ∈ news, q.1 ≠ e) (hx : IsPE o) (hd : o.dict = none) (hC : PECls s.heap)
    (hq : ∀ o' h', IsPE o' → o'.dict = none → Fr g L h' m → News g L h' ((e, o') :: news) → Q .none { s with heap := h' }) :
    wpAny (model prog w) A (call (.builtin "Exception.__init__") [.ref e, x]) Q E s := by
  obtain ⟨hp, gs, d, tk, os⟩ := s
  obtain ⟨_, _, _, _, _, _, _, _, _, _, _, _, _, hC⟩ := hC
  obtain ⟨a0, hc, hdt⟩ := hx
  obtain ⟨oc, od, odt, osl⟩ := o
  subst hc hdt hd
  have he := (N _ (.head _)).1
  refine wpAny_call (codeAny_call_builtin PySem.F.excBase_Exception.init.plain PySem.F.excBase_Exception.initEntry (wpAny_check_init_sub PySem.F.excBase_Exception hC he rfl ?_))
  wp_walk
  all_goals (try refine wpAny_letGo ?_)
  wp_walk
  have he' := Heap.get?_update_self (Obj.mapFields fun x => x.setIfInBounds 0 (Value.ref hp.objs.size)) (Heap.get?_push_of_some { cls := Value.type "tuple", data := Data.seq #[x] } he) rfl
  have hh := swap F N hne he' (fun b ob hb q => by
    rw [Heap.get?_update_other _ _ (Ne.symm hb)]
    exact Heap.get?_push_of_some _ q)
  exact hq _ _ ⟨_, rfl, rfl⟩ rfl hh.1 hh.2
end
open Builtin Builtin.ObjectAttr
section
variable {prog : Program} {w : World} {A : Around} {E : Value → Shared → Prop} {g h h' : Heap} {L e : Addr} {m mN : PySem.Str → Option Value} {news : List (Addr × Obj)} {o : Obj}
theorem store_new {hp : Heap} {gs : Array GenState} {d : Drawn} {t : Nat} {os : OsState} {tk : Tok} {name : PySem.Str} {v : Value} {Q : Fin → Shared → Prop} (hx : hp.get? e = some o) (hc : o.cls = .ref 46) (hnc : ∀ c, o.data ≠ .cls c) (hd : o.dict = none) (X : PECls hp)
    (G : hp.Ns 45 mN) (gn : mN name = none) (hB : typeLookup (.type "Exception") name = pure none)
    (hq : ∀ h' tk', h'.get? e = some { cls := o.cls, dict := some hp.objs.size, data := o.data, slots := o.slots } → h'.Ns1 hp.objs.size (fun y => if y = name then some v else none) → (∀ b ob, b ≠ e → hp.get? b = some ob → h'.get? b = some ob) → Q (.done (.ret .none)) ⟨h', gs, d, tk', os⟩) :
    wpAny (model prog w) A (Builtin.«object.__setattr__» ⟨[.ref e, .str name tk, v], []⟩) Q E ⟨hp, gs, d, t, os⟩ := by
  obtain ⟨_, _, _, _, _, _, _, _, _, _, _, _, _, hC⟩ := X
  have hp1 := PySem.F.store_Exception.passes (.ref e)
  have hm := PySem.F.store_Exception.mro
  unfold Builtin.«object.__setattr__»
  repeat (first | rw [refuse_eq] | (rw [refuseLoop_ref, hp1]) | (with_reducible refine wpAny_loadPart_at hx ?_; rw [hc]) | with_reducible refine wpAny_mroOf_exc hC ?_ | (with_reducible refine wpAny_typeLookup_exc hC G hm hB ?_; rw [gn]) | wp_step)
  have hlt : hp.objs.size ≠ e := Nat.ne_of_gt (Heap.lt_size hx)
  have e1 := Heap.get?_push_of_some { cls := .type "dict", data := .dict #[] } hx
  have hfree : ∀ dd : Option Addr, ({ cls := o.cls, dict := dd, data := o.data, slots := o.slots } : Obj).isFreed = o.isFreed := fun dd => by
    obtain ⟨_, _, odt, _⟩ := o
    cases odt <;> rfl
  have e2 := Heap.get?_update_self (fun o => { cls := o.cls, dict := some hp.objs.size, data := o.data, slots := o.slots }) e1 ((hfree _).trans (Heap.get?_some_iff.mp hx).2)
  have e3 : ((hp.push { cls := .type "dict", data := .dict #[] }).update e fun o => { cls := o.cls, dict := some hp.objs.size, data := o.data, slots := o.slots }).get? hp.objs.size = some { cls := .type "dict", data := .dict #[] } :=
    (Heap.get?_update_ne _ _ _ _ hlt).trans (Heap.get?_push_at rfl rfl)
  have e4 : ∀ b ob, b ≠ e → hp.get? b = some ob → ((hp.push { cls := .type "dict", data := .dict #[] }).update e fun o => { cls := o.cls, dict := some hp.objs.size, data := o.data, slots := o.slots }).get? b = some ob := fun b ob hb q =>
    (Heap.get?_update_ne _ _ _ _ hb).trans (Heap.get?_push_of_some _ q)
  have n0 : ((hp.push { cls := .type "dict", data := .dict #[] }).update e fun o => { cls := o.cls, dict := some hp.objs.size, data := o.data, slots := o.slots }).Ns hp.objs.size (fun _ => none) := ⟨_, #[], _, e3, rfl, fun _ q => absurd q (by simp), fun _ => rfl⟩
  rw [hd]
  dsimp only
  rw [if_neg (by simp [typeHasDict])]
  split
  · rename_i c q
    exact absurd q (hnc c)
  refine wpAny_bind (wpAny_alloc' (wpAny_bind (wpAny_update' e1 (wpAny_pure ?_))))
  show wpAny _ _ (storeInDict hp.objs.size (.str name tk) name v) _ _ _
  unfold storeInDict newKeyGuard
  refine wpAny_bind (wpAny_pure (wpAny_bind (wpAny_nsSet1 (Heap.Ns1.of_empty n0) fun h' n1 same => ?_)))
  obtain ⟨oD, esD, epD, hoD, hdD, hcD⟩ := n1.count (Within.cons name v Within.nil)
  refine wpAny_bind (wpAny_lookBehind hoD (by rw [hdD]; exact pastItsLine_dict (Nat.le_trans hcD (by rw [List.length_cons, List.length_nil, sizeLine_eq]; omega))) ?_)
  wp_walk
  refine hq h' _ ((same.2 e hlt.symm).trans e2) ?_ fun b ob hb q => (same.2 b (Nat.ne_of_lt (Heap.lt_size q))).trans (e4 b ob hb q)
  obtain ⟨od, es, ep, q1, q2, q3, q4, q5⟩ := n1
  exact ⟨od, es, ep, q1, q2, q3, q4, fun y => by rw [q5 y]⟩
theorem store_new_call {sa owner : String} (SF : StoreFacts "Exception" [.type "Exception", .type "BaseException", .type "object"] sa owner) {hp : Heap} {gs : Array GenState} {d : Drawn} {t : Nat} {os : OsState} {tk : Tok} {name : PySem.Str} {v : Value} {R : Result → Shared → Prop} (hx : hp.get? e = some o) (hc : o.cls = .ref 46) (hnc : ∀ c, o.data ≠ .cls c) (hd : o.dict = none) (X : PECls hp)
    (G : hp.Ns 45 mN) (gn : mN name = none) (hB : typeLookup (.type "Exception") name = pure none)
    (hq : ∀ h' tk', h'.get? e = some { cls := o.cls, dict := some hp.objs.size, data := o.data, slots := o.slots } → h'.Ns1 hp.objs.size (fun y => if y = name then some v else none) → (∀ b ob, b ≠ e → hp.get? b = some ob → h'.get? b = some ob) → R (.ok (.ret .none)) ⟨h', gs, d, tk', os⟩) :
    codeAny (model prog w) A (.call (.builtin sa) ⟨[.ref e, .str name tk, v], []⟩) R ⟨hp, gs, d, t, os⟩ := by
  obtain ⟨_, _, _, _, _, _, _, _, _, _, _, _, _, hC⟩ := id X
  exact codeAny_call_builtin SF.slot.plain SF.entry (wpAny_check_sa SF hC hx hc (store_new hx hc hnc hd X G gn hB hq))
theorem r_set_first {s : Shared} {Q : Unit → Shared → Prop} {name : PySem.Str} {v : Value} (F : Fr g L s.heap m) (N : News g L s.heap ((e, o) :: news)) (hne : ∀ q ∈ news, q.1 ≠ e) (hx : IsPE o) (hd : o.dict = none) (X : PECls s.heap)
    (G : s.heap.Ns 45 mN) (g2 : mN "__setattr__" = none) (gn : mN name = none) (hB : typeLookup (.type "Exception") name = pure none)
    (hq : ∀ o' h' tk' dx, IsPE o' → o'.dict = some dx → Fr g L h' m → News g L h' ((e, o') :: news) → h'.Ns1 dx (fun y => if y = name then some v else none) → g.get? dx = none → dx ≠ L → dx ≠ e → (∀ q ∈ news, q.1 ≠ dx) → Q () { s with heap := h', toks := tk' }) :
    wpAny (model prog w) A (setAttr (.ref e) name v) Q E s := by
  obtain ⟨hp, gs, d, tk, os⟩ := s
  have he : hp.get? e = some o := (N _ (.head _)).1
  have hnc : ∀ c, o.data ≠ .cls c := fun c q => by obtain ⟨_, _, z⟩ := hx; rw [z] at q; cases q
  have hc : o.cls = .ref 46 := hx.choose_spec.1
  have key : ∀ h' tk', h'.get? e = some { cls := o.cls, dict := some hp.objs.size, data := o.data, slots := o.slots } → h'.Ns1 hp.objs.size (fun y => if y = name then some v else none) → (∀ b ob, b ≠ e → hp.get? b = some ob → h'.get? b = some ob) → Q () ⟨h', gs, d, tk', os⟩ := fun h' tk' q1 q2 q3 => by
    obtain ⟨F', N'⟩ := swap F N hne q1 q3
    refine hq _ h' tk' hp.objs.size ?_ rfl F' N' q2 (next_is_new F) (Nat.ne_of_gt F.ns.lt) (Nat.ne_of_gt (Heap.lt_size he)) fun q hq' => Nat.ne_of_lt (Heap.lt_size (N q (.tail _ hq')).1)
    obtain ⟨t0, z1, z2⟩ := hx
    exact ⟨t0, z1, z2⟩
  clear hq F N
  obtain ⟨_, _, _, _, _, _, _, _, _, _, _, _, _, hC⟩ := id X
  have SF := PySem.F.store_Exception
  have f3 := SF.slot.bind (.ref e)
  unfold setAttr callSpecial? specialOf
  repeat (any_goals (first | assumption | (with_reducible refine wpAny_loadPart_at he ?_; rw [hc]) | (with_reducible refine wpAny_typeLookup_exc hC G SF.mro SF.slot.lookup ?_; rw [g2]) | wp_step))
  refine store_new_call SF he hc hnc hd X G gn hB fun h' tk' q1 q2 q3 => ?_
  repeat (any_goals (first | assumption | wp_step))
  exact key h' tk' q1 q2 q3
theorem r_set_more {s : Shared} {Q : Unit → Shared → Prop} {name n1 : PySem.Str} {v v1 : Value} {dx : Addr} (F : Fr g L s.heap m) (N : News g L s.heap ((e, o) :: news)) (hne : ∀ q ∈ news, q.1 ≠ e) (hx : IsPE o) (hd : o.dict = some dx) (X : PECls s.heap)
    (G : s.heap.Ns 45 mN) (g2 : mN "__setattr__" = none) (gn : mN name = none) (hB : typeLookup (.type "Exception") name = pure none)
    (hn : s.heap.Ns1 dx (fun y => if y = n1 then some v1 else none)) (hg : g.get? dx = none) (hL : dx ≠ L) (hde : dx ≠ e) (hdn : ∀ q ∈ news, q.1 ≠ dx)
    (hq : ∀ o' h' tk', IsPE o' → Fr g L h' m → News g L h' ((e, o') :: news) → Q () { s with heap := h', toks := tk' }) :
    wpAny (model prog w) A (setAttr (.ref e) name v) Q E s := by
  obtain ⟨hp, gs, d, tk, os⟩ := s
  have he : hp.get? e = some o := (N _ (.head _)).1
  have hnc : ∀ c, o.data ≠ .cls c := fun c q => by obtain ⟨_, _, z⟩ := hx; rw [z] at q; cases q
  have hc : o.cls = .ref 46 := hx.choose_spec.1
  have h46 : e ≠ 46 := fun z => by
    obtain ⟨_, _, _, _, _, _, _, _, _, _, _, _, _, hC⟩ := id X
    obtain ⟨_, _, z2⟩ := hx
    rw [← z] at hC
    have := Option.some.inj (he.symm.trans hC)
    rw [this] at z2; cases z2
  obtain ⟨_, _, _, _, _, _, _, _, _, _, _, _, _, hC⟩ := id X
  refine store_attr (ns := [n1]) PySem.F.store_Exception hC G g2 gn hB h46 (mA := fun y => if y = n1 then some v1 else none) ⟨o, he, hc, hnc, .inr ⟨dx, hd, hde, hn⟩⟩ (fun h' tk' I' hk hsame => ?_) (Within.cons n1 v1 Within.nil)
  obtain ⟨o₁, e₁, c₁, d₁, _, _⟩ := hsame o he
  have Ne := N _ (.head _)
  have kk : ∀ b ob, b ≠ e → b ≠ dx → hp.get? b = some ob → h'.get? b = some ob := fun b ob q1 q2 q => hk b ob q1 (fun o₀ dx' z1 z2 => by
    have := Option.some.inj (he.symm.trans z1); subst this
    have := Option.some.inj (hd.symm.trans z2); subst this
    exact q2) q
  obtain ⟨oL, es, ep, eL, rL⟩ := F.ns
  refine hq o₁ h' tk' ?_ ⟨⟨oL, es, ep, kk L oL (Ne.2.1).symm hL.symm eL, rL⟩, fun b ob q => kk b ob (fun z => by rw [z, Ne.2.2] at q; cases q) (fun z => by rw [z, hg] at q; cases q) (F.keep b ob q), F.above⟩ fun q hq => ?_
  · obtain ⟨t0, z1, z2⟩ := hx
    exact ⟨t0, c₁.trans z1, d₁.trans z2⟩
  · rcases List.mem_cons.mp hq with rfl | hq
    · exact ⟨e₁, Ne.2⟩
    · have Nq := N q (.tail _ hq)
      exact ⟨kk _ _ (hne q hq) (hdn q hq) Nq.1, Nq.2⟩
end
end
theorem bits_le {a : Int} (h : a.natAbs < 10 ^ 200) : Builtin.Int.intBits a ≤ 2 ^ 20 := by
  have h1 : a.natAbs < 2 ^ 700 := Nat.lt_of_lt_of_le h (by decide +kernel)
  unfold Builtin.Int.intBits
  by_cases h0 : a = 0
  · simp [h0]
  · have h2 : a.natAbs ≠ 0 := by omega
    have := (Nat.log2_lt h2).mpr h1
    simp [h0]
    omega
theorem mulok {a b : Int} (ha : a.natAbs < 10 ^ 200) (hb : b.natAbs < 10 ^ 200) : IntMulOk a b := IntMulOk.of_bits (bits_le ha) (bits_le hb)
theorem pow_bnd {n : Nat} (h : n ≤ 100) : ((10 : Int) ^ n).natAbs < 10 ^ 200 := by
  rw [Int.natAbs_pow]
  exact Nat.pow_lt_pow_right (by decide) (by omega)
theorem low_bnd {a : Int} (h : a.natAbs < 10 ^ 42) : a.natAbs < 10 ^ 200 := Nat.lt_of_lt_of_le h (by decide +kernel)
theorem val_natAbs {s : Int} {l : List Nat} (hs : s = -1 ∨ s = 1) (hl : ∀ c ∈ l, 48 ≤ c ∧ c ≤ 57) (hn : l.length ≤ 90) : (s * val 0 l).natAbs < 10 ^ 200 := by
  have h1 := val_bound l 0 hl (by omega)
  have h2 : ((10 : Int) ^ l.length) = ((10 ^ l.length : Nat) : Int) := by simp
  have h3 : 10 ^ l.length ≤ 10 ^ 90 := Nat.pow_le_pow_right (by decide) hn
  have h4 : (10 : Nat) ^ 90 < 10 ^ 200 := by decide +kernel
  rw [h2] at h1
  have h5 : (s * val 0 l).natAbs = (val 0 l).natAbs := by rcases hs with rfl | rfl <;> simp
  rw [h5]
  omega
theorem exc_spec (w : World) (x : PySem.Str) (t : Tok) (news : List (Addr × Obj)) :
   CallOf w 46 [.str x t] news 100 800 (fun v news' => ∃ e o, v = .ref e ∧ news' = (e, o) :: news ∧ IsPE o ∧ (∀ q ∈ news, q.1 ≠ e)) := by
  unfold CallOf
  w_top off
  k_fill
  k_with_none
  k_with "getMethod type:Exception" => (k_here; refine' method_type (by k_asm) (by k_asm) (by first | rfl | kernel_rfl) (by decide +kernel) (by k_dflt k_is) (by k_handed) ?_)
  k_with "call builtin:Exception.__init__" => (k_here; refine' r_exc_init (by k_asm) (by k_asm) (by assumption) (by assumption) (by assumption) (by exact PECls.keeps (pe_cls (by assumption)) (Fr.keep (by assumption))) ?_; intro o9 h9 i9 d9 F9 N9)
  k_with "setAttr ref" => (k_here; first | (refine' r_set_first (by k_asm) (by k_asm) (by assumption) (by assumption) (by assumption) (by exact PECls.keeps (pe_cls (by assumption)) (Fr.keep (by assumption))) (by exact Heap.Ns.keeps (by assumption) (Fr.keep (by assumption))) (by assumption) (by assumption) (by rw [typeLookup_type, builtinLookup_eq_fast]; kernel_rfl) ?_; intro o9 h9 k9 x9 i9 d9 F9 N9 n9 g9 l9 e9 q9) | (refine' r_set_more (by k_asm) (by k_asm) (by assumption) (by assumption) (by assumption) (by exact PECls.keeps (pe_cls (by assumption)) (Fr.keep (by assumption))) (by exact Heap.Ns.keeps (by assumption) (Fr.keep (by assumption))) (by assumption) (by assumption) (by rw [typeLookup_type, builtinLookup_eq_fast]; kernel_rfl) (by assumption) (by assumption) (by assumption) (by assumption) (by assumption) ?_; intro o9 h9 k9 i9 F9 N9))
  intros; rename_i hret
  rename Fr _ _ _ _ => F
  rename News _ _ _ _ => N
  rename (hd.heap_39 w.params).In _ => X
  obtain ⟨_, _, _, _, _, _, _, _, _, _, _, _, _, hC⟩ := (pe_cls X).keeps F.keep
  obtain ⟨mN, G, g1, g2, g3, g4⟩ := pe_ns X
  refine wpAny_call_exc_init PySem.F.excBase_Exception hC (G.keeps F.keep) g1 (F.keep _ _ (X 36 _ (by k_is))) rfl ?_
  intro h1 e hm
  obtain ⟨o, ho, hd0, F1, N1, hne⟩ := more_new F N hm
  clear hm hC G g1 g2 g3 g4
  clear F N
  refine wpAny_call ?_
  k_dflt (refine' code_def ?k1 ?k2 ?k3 ?k4 ?k5 ?kA ?kF ?kK ?k6 ?k7 ?k8 ?k9 ?kB ?_ ?c2 ?c3 ?c4 ?c5; (case kA => exact rfl); (case kF => exact rfl); (case kK => assumption); (case k1 => k_asm); (case k2 => k_asm); (case k3 => k_asm); (case k4 => k_asm); (case k5 => k_asm); (case k6 => k_is); (case k7 => k_is); (case k8 => ktr_room); (case k9 => exact binds_K (by k_in) rfl (by k_is) rfl rfl rfl); (case c5 => decide); (case kB => exact locs rfl); (case c2 => exact rfl); (case c3 => exact rfl); (case c4 => exact rfl); k_whole; intro g' L' h' FG' F' N' B' X' T'; (try dsimp only); (try k_lift B'); (try k_fold))
  obtain ⟨mN, G, g1, g2, g3, g4⟩ := pe_ns X'
  k_steps
  refine hret _ _ _ _ ⟨_, _, rfl, rfl, ?_, by assumption⟩ (by k_asm) (by k_asm)
  assumption
/-- as CallOf, of a def that may end in a PaperError too, and then only if Bad -/
def CallOfE (w : World) (f : Addr) (vs : List Value) (news : List (Addr × Obj)) (nd nu : Nat) (Post : Value → List (Addr × Obj) → Prop) (Bad : Prop) : Prop :=
  ∀ (p : Program) (loose : List Str) (mean : ExcName → Option Value) (mg mb : Str → Option Value)
    (dp un : Nat) (gd : Option (List Code)) (cn : Str) (cs : Scope) (a : Addr) (ccd : Value) (cl : List (Str × Addr)) (outer : List Env) (A₀ : Around) (base h₀ : Heap) (L : Addr) (m : Str → Option Value) (s : Shared) (Q E : Value → Shared → Prop),
    Below A₀ base outer h₀ → Fr h₀ L s.heap m → (hd.heap_39 w.params).In h₀ → News h₀ L s.heap news → Top p loose mean mg mb h₀ → cs.kind = .function →
    dp + nd < recursionLimit → un + nu < cLine →
    (∀ v news' h' tk', Post v news' → Fr h₀ L h' m → News h₀ L h' news' → Q v { s with heap := h', toks := tk' }) →
    (∀ e h' tk' G, Bad → Fr h₀ L G m → RaisedN base (envX cn cs L a ccd cl :: outer) e (.ref 46) news h' → G.UpToSlots h' → E (.ref e) { s with heap := h', toks := tk' }) →
    wpAny (model PySem.Challenge.rw_og0141_01.row.prog w) (ktrTop dp un gd cn cs L a ccd cl outer) (call (.ref f) vs) Q E s
theorem callOfE_use {w : World} {f : Addr} {vs : List Value} {news : List (Addr × Obj)} {nd nu : Nat} {Post : Value → List (Addr × Obj) → Prop} {Bad : Prop} (C : CallOfE w f vs news nd nu Post Bad)
    {p : Program} {loose : List Str} {mean : ExcName → Option Value} {mg mb : Str → Option Value}
    {dp un : Nat} {gd : Option (List Code)} {cn : Str} {cs : Scope} {a : Addr} {ccd : Value} {cl : List (Str × Addr)} {outer : List Env} {A₀ : Around} {base h₀ : Heap} {L : Addr} {m : Str → Option Value} {s : Shared} {Q E : Value → Shared → Prop}
    (B : Below A₀ base outer h₀) (F : Fr h₀ L s.heap m) (X : (hd.heap_39 w.params).In h₀) (N : News h₀ L s.heap news) (T : Top p loose mean mg mb h₀) (hk : cs.kind = .function)
    (hd : dp + nd < recursionLimit) (hu : un + nu < cLine)
    (err : ∀ e h' tk' G, Bad → Fr h₀ L G m → RaisedN base (envX cn cs L a ccd cl :: outer) e (.ref 46) news h' → G.UpToSlots h' → E (.ref e) { s with heap := h', toks := tk' })
    (ret : ∀ v news' h' tk', Post v news' → Fr h₀ L h' m → News h₀ L h' news' → Q v { s with heap := h', toks := tk' }) :
    wpAny (model PySem.Challenge.rw_og0141_01.row.prog w) (ktrTop dp un gd cn cs L a ccd cl outer) (call (.ref f) vs) Q E s :=
  C _ _ _ _ _ _ _ _ _ _ _ _ _ _ _ _ _ _ _ _ _ _ B F X N T hk hd hu ret err
theorem callOf_use0 {w : World} {f : Addr} {vs : List Value} {news : List (Addr × Obj)} {nd nu : Nat} {Post : Value → List (Addr × Obj) → Prop} (C : CallOf w f vs news nd nu Post)
    {p : Program} {loose : List Str} {mean : ExcName → Option Value} {mg mb : Str → Option Value}
    {dp un : Nat} {gd : Option (List Code)} {cn : Str} {cs : Scope} {a : Addr} {ccd : Value} {cl : List (Str × Addr)} {outer : List Env} {A₀ : Around} {base h₀ : Heap} {L : Addr} {m : Str → Option Value} {s : Shared} {Q E : Value → Shared → Prop}
    (B : Below A₀ base outer h₀) (F : Fr h₀ L s.heap m) (X : (hd.heap_39 w.params).In h₀) (N : News h₀ L s.heap news) (T : Top p loose mean mg mb h₀) (hk : cs.kind = .function)
    (hd : dp + nd < recursionLimit) (hu : un + nu < cLine)
    (ret : ∀ v news' h' tk', Post v news' → Fr h₀ L h' m → News h₀ L h' news' → Q v { s with heap := h', toks := tk' }) :
    wpAny (model PySem.Challenge.rw_og0141_01.row.prog w) (ktrTop dp un gd cn cs L a ccd cl outer) (call (.ref f) vs) Q E s :=
  callOf_use C B F X N T hk (fun _ h => h) hd hu ret
theorem pe_end {w : World} {M : Model} {A : Around} {hp : Heap} {gs : Array GenState} {d : Drawn} {tk : Nat} {os : OsState} {base g : Heap} {outer : List Env} {L a e : Addr} {m : Str → Option Value} {name : Str} {scope : Scope} {cd : Value} {news all : List (Addr × Obj)} {o : Obj} {E' : Value → Shared → Prop}
    (K : Below A base outer g) (F : Fr g L hp m) (N : News g L hp ((e, o) :: all)) (hs : ∀ q ∈ news, q ∈ all) (X : (hd.heap_39 w.params).In g) (hne : ∀ q ∈ all, q.1 ≠ e) (hx : IsPE o) (hk : scope.kind = .function)
    (herr : ∀ h', RaisedN base outer e (.ref 46) news h' → g.UpToSlots h' → E' (.ref e) ⟨h', gs, d, tk, os⟩) :
    PEnd (fun e s' => wpAny M (A.deeper (envOf name scope L a cd)) (leaving (envOf name scope L a cd) e) (fun _ s'' => E' e s'') (fun e' s'' => E' e' s'') s') (.ref e) ⟨hp, gs, d, tk, os⟩ :=
  ⟨e, o, rfl, (pe_cls X).keeps F.keep, (N _ (.head _)).1, hx, leave_first (s' := ⟨hp, gs, d, tk, os⟩) K (K.push F hk) rfl F (cb_drop N fun q hq => (List.mem_cons.mp hq).elim (fun z => by rw [z]; exact .head _) (fun z => .tail _ (hs q z))) (fun q hq => hne q (hs q hq)) hx herr⟩
theorem idg_ascii (n : Int) : ∀ c ∈ idg n, c < 128 := by
  intro c hc
  rcases List.mem_append.mp hc with h | h
  · unfold sg at h; split at h <;> simp at h; omega
  · have := nd_all _ c h; omega
theorem idg_len {n : Int} (hn : n.natAbs < 10 ^ 42) : (idg n).length ≤ 100 := by
  have h1 := nd_len_le (by decide) hn
  have h2 := sg_len n
  unfold idg; rw [List.length_append]; omega
theorem whole_spec (w : World) (n : Int) (t : Tok) (news : List (Addr × Obj)) (hn : n.natAbs < 10 ^ 42) :
   CallOfE w 61 [.int n t] news 200 1000 (fun v news' => ∃ t', v = .bytes (B (idg n)) t' ∧ news' = news ∧ n.natAbs < 10 ^ 40) (10 ^ 40 ≤ n.natAbs) := by
  have hl := idg_len hn
  have hc := idg_ascii n
  unfold CallOfE
  w_top off
  k_fill
  k_with_none
  k_with "exec Raise some none" => (k_here; refine Raise_pe rfl ?_)
  k_with "call ref" => (k_here; (with_reducible show wpAny _ _ (call (Value.ref 46) [_]) _ _ _); k_dflt ((refine' callOf_useR (by k_asm) (by k_asm) (by k_asm) (by k_asm) (by k_asm) (by first | exact rfl | assumption) (fun _ h => h) (exc_spec _ _ _ _) (by first | k_room | ktr_room) (by first | k_units | ktr_units) ?_); (intro v9 n9 h9 k9 hp9 F9 N9; obtain ⟨e9, o9, e19, e29, i9, q9⟩ := hp9; subst e19; subst e29)))
  k_with "call ref" => (k_here; (with_reducible show wpAny _ _ (call (Value.ref 54) [_]) _ _ _); k_dflt ((refine' callOf_useR (by k_asm) (by k_asm) (by k_asm) (by k_asm) (by k_asm) (by first | exact rfl | assumption) (fun _ h => h) (toct_spec _ _ _ _ (by assumption) (by assumption)) (by first | k_room | ktr_room) (by first | k_units | ktr_units) ?_); (intro v9 n9 h9 k9 hp9 F9 N9; obtain ⟨t9, e19, e29⟩ := hp9; subst e19; subst e29)))
  k_with "binaryOp Pow int int" => (k_here; (with_reducible refine pow_int_small (by omega) (by omega) (by decide) ?_))
  k_with "call type:str" => (k_here; (with_reducible show wpAny _ _ (call (Value.type "str") [Value.int _ _]) _ _ _); first | (refine' r_str_abs (by assumption) ?_) | (refine' r_str (by assumption) ?_))
  intros; rename_i hret herr
  refine wpAny_call ?_
  k_dflt cell_enter
  k_steps
  · have hp := pow_cast.mp (by assumption)
    refine' pe_end ?B ?F ?N ?hs ?X ?n ?x rfl ?E
    case B => k_asm
    case F => k_asm
    case N => k_asm
    case hs => exact fun _ h => h
    case X => k_asm
    case n => assumption
    case x => assumption
    case E => exact fun h' R U => herr _ _ _ _ hp (by assumption) R U
  · rename ¬ _ => hnp
    exact hret _ _ _ _ ⟨_, rfl, rfl, Nat.lt_of_not_le fun h => hnp (pow_cast.mpr h)⟩ (by k_asm) (by k_asm)
section
open PyProof.Rows.LCg
/-- what decimal_octets writes -/
def outL (tp pl : Int) (b : Bool) : List Nat := if pl = 0 then idg tp ++ (if b = true then [46] else [46, 48]) else if b = true then leastL tp pl else textL tp pl
def DecBad (tp pl : Int) (b : Bool) : Prop := 10 ^ 40 ≤ tp.natAbs ∨ 40 < pl ∨ 40 < ((outL tp pl b).filter isFig).length
theorem sg_ascii (n : Int) : ∀ c ∈ sg n, c < 128 := by
  intro c hc; unfold sg at hc; split at hc <;> simp at hc; omega
theorem textL_ascii {tp pl : Int} : ∀ c ∈ textL tp pl, c < 128 := by
  intro c hc
  unfold textL at hc
  rcases List.mem_append.mp hc with h | h
  · exact sg_ascii _ c h
  · split at h
    · rcases List.mem_append.mp h with h | h
      · rcases List.mem_append.mp h with h | h
        · have := padl_all _ _ c (List.mem_of_mem_take h); omega
        · simp at h; omega
      · have := padl_all _ _ c (List.mem_of_mem_drop h); omega
    · have := nd_all _ c h; omega
theorem leastL_ascii {tp pl : Int} : ∀ c ∈ leastL tp pl, c < 128 := by
  intro c hc
  unfold leastL at hc
  split at hc
  · exact textL_ascii c hc
  · rcases List.mem_append.mp hc with h | h
    · exact sg_ascii _ c h
    · rcases List.mem_cons.mp h with h | h
      · omega
      · have := padl_all _ _ c (List.mem_of_mem_drop h); omega
theorem textL_short {tp pl : Int} (h0 : 0 ≤ pl) (h1 : pl ≤ 41) (ht : tp.natAbs < 10 ^ 42) : (textL tp pl).length ≤ 100 := by
  have hL := nd_len_le (by decide) ht
  have hs := sg_len tp
  rcases Int.lt_or_eq_of_le h0 with h | h
  · have := padl_len (tp := tp) h0
    rw [textL_len h]; omega
  · unfold textL; rw [if_neg (by omega), List.length_append]; omega
theorem leastL_short {tp pl : Int} (h0 : 0 ≤ pl) (h1 : pl ≤ 41) (ht : tp.natAbs < 10 ^ 42) : (leastL tp pl).length ≤ 100 := by
  have hL := nd_len_le (by decide) ht
  have hs := sg_len tp
  unfold leastL
  split
  · exact textL_short h0 h1 ht
  · have := padl_len (tp := tp) h0
    rw [List.length_append, List.length_cons]
    unfold behindL; rw [List.length_drop]; omega
theorem dot_ascii {n : Int} {r : List Nat} (hr : ∀ c ∈ r, c < 128) : ∀ c ∈ idg n ++ r, c < 128 := fun c hc => (List.mem_append.mp hc).elim (idg_ascii n c) (hr c)
theorem outL_0t {tp pl : Int} (h : pl = 0) : outL tp pl true = idg tp ++ [46] := by subst h; rfl
theorem outL_0f {tp pl : Int} (h : pl = 0) : outL tp pl false = idg tp ++ [46, 48] := by subst h; rfl
theorem outL_t {tp pl : Int} (h : ¬ pl = 0) : outL tp pl true = leastL tp pl := by unfold outL; rw [if_neg h]; rfl
theorem outL_f {tp pl : Int} (h : ¬ pl = 0) : outL tp pl false = textL tp pl := by unfold outL; rw [if_neg h]; rfl
theorem out_0t {tp pl : Int} {b : Bool} (h : pl = 0) (hb : b = true) : outL tp pl b = idg tp ++ [46] := by subst hb; exact outL_0t h
theorem out_0f {tp pl : Int} {b : Bool} (h : pl = 0) (hb : b = false) : outL tp pl b = idg tp ++ [46, 48] := by subst hb; exact outL_0f h
theorem out_t {tp pl : Int} {b : Bool} (h : ¬ pl = 0) (hb : b = true) : outL tp pl b = leastL tp pl := by subst hb; exact outL_t h
theorem out_f {tp pl : Int} {b : Bool} (h : ¬ pl = 0) (hb : b = false) : outL tp pl b = textL tp pl := by subst hb; exact outL_f h
theorem fig_gt {R : Nat → Value → Prop} {ys : List Value} {l l' : List Nat} (e : l' = l) (hy : AreBy R ys (l.filter isFig)) (h : 40 < (ys.length : Int)) : 40 < (l'.filter isFig).length := by
  rw [e, ← areBy_len hy]; omega
theorem fig_le {R : Nat → Value → Prop} {ys : List Value} {l l' : List Nat} (e : l' = l) (hy : AreBy R ys (l.filter isFig)) (h : ¬ 40 < (ys.length : Int)) : ¬ 40 < (l'.filter isFig).length := by
  rw [e, ← areBy_len hy]; omega
theorem bytes_eq {l l' : List Nat} {t : Tok} (e : l' = l) : Value.bytes (B l) t = .bytes (B l') t := by rw [e]
-- a written text as a list
/-- the text is written, its ways joined -/
def TextP (h₀ : Heap) (L : Addr) (m : PySem.Str → Option Value) (all : List (Addr × Obj)) (s : Shared) (l : List Nat) (f : Flow) (s' : Shared) : Prop :=
  f = .next ∧ ∃ h' n t, s' = { s with heap := h', toks := n } ∧ Fr h₀ L h' (fun y => if y = Str.ofString "text" then some (.str (S l) t) else m y) ∧ News h₀ L h' all
theorem TextP.mk {h₀ h' : Heap} {L : Addr} {m : PySem.Str → Option Value} {all : List (Addr × Obj)} {s : Shared} {l l' : List Nat} {t : Tok} {n : Nat} (F : Fr h₀ L h' (fun y => if y = Str.ofString "text" then some (.str (S l') t) else m y)) (N : News h₀ L h' all) (e : l = l') :
    TextP h₀ L m all s l .next { s with heap := h', toks := n } := by subst e; exact ⟨rfl, h', n, t, rfl, F, N⟩
theorem cut_text {M : Model} {A : Around} {E : Value → Shared → Prop} {s : Shared} {c : Sem Flow} {Q : Flow → Shared → Prop} {h₀ : Heap} {L : Addr} {m : PySem.Str → Option Value} {all : List (Addr × Obj)} (l : List Nat) (_F : Fr h₀ L s.heap m) (_N : News h₀ L s.heap all)
    (h : wpAny M A c (TextP h₀ L m all s l) E s) (k : ∀ h' n t, Fr h₀ L h' (fun y => if y = Str.ofString "text" then some (.str (S l) t) else m y) → News h₀ L h' all → Q .next { s with heap := h', toks := n }) : wpAny M A c Q E s :=
  wpAny_mono h (fun v s' ⟨e0, h', n, t, e1, F, N⟩ => by subst e0; subst e1; exact k h' n t F N) fun _ _ e => e
theorem outL_ascii {tp pl : Int} {b : Bool} : ∀ c ∈ outL tp pl b, c < 128 := by
  unfold outL
  split
  · cases b <;> exact dot_ascii (by decide)
  · split
    · exact leastL_ascii
    · exact textL_ascii
theorem outL_100 {tp pl : Int} {b : Bool} (h0 : 0 ≤ pl) (h1 : pl ≤ 41) (ht : tp.natAbs < 10 ^ 42) : (outL tp pl b).length ≤ 100 := by
  have hI3 : (idg tp).length ≤ 50 := by
    have h1 := nd_len_le (by decide) ht
    have h2 := sg_len tp
    unfold idg; rw [List.length_append]; omega
  unfold outL
  split
  · rw [List.length_append]; cases b <;> simp <;> omega
  · split
    · exact leastL_short h0 h1 ht
    · exact textL_short h0 h1 ht
theorem decoct_spec (w : World) (b : Bool) (x dx : Addr) (tp pl : Int) (ta tb tc td : Tok) (rest : List (Addr × Obj)) (hp0 : 0 ≤ pl) (hp1 : pl ≤ 41) (ht : tp.natAbs < 10 ^ 42) :
   CallOfE w 66 [.ref x, .bool b] ((x, instObj 160 dx) :: (dx, decDict w tp pl ta tb tc td) :: rest) 300 1200
    (fun v news' => ∃ t', v = .bytes (B (outL tp pl b)) t' ∧ news' = ((x, instObj 160 dx) :: (dx, decDict w tp pl ta tb tc td) :: rest) ∧ ¬ DecBad tp pl b) (DecBad tp pl b) := by
  have hT1 := textL_ascii (tp := tp) (pl := pl)
  have hT2 := textL_short hp0 hp1 ht
  have hM1 := leastL_ascii (tp := tp) (pl := pl)
  have hM2 := leastL_short hp0 hp1 ht
  have hI1 := dot_ascii (n := tp) (r := [46]) (by decide)
  have hI2 := dot_ascii (n := tp) (r := [46, 48]) (by decide)
  have hO1 := outL_ascii (tp := tp) (pl := pl) (b := b)
  have hO2 := outL_100 (b := b) hp0 hp1 ht
  have hI3 : (idg tp).length ≤ 50 := by
    have h1 := nd_len_le (by decide) ht
    have h2 := sg_len tp
    unfold idg; rw [List.length_append]; omega
  have hI4 : (idg tp ++ [46]).length ≤ 100 := by simp; omega
  have hI5 : (idg tp ++ [46, 48]).length ≤ 100 := by simp; omega
  unfold CallOfE
  w_top off
  k_fill
  k_with_none
  k_with "exec Raise some none" => (k_here; refine Raise_pe rfl ?_)
  k_with "call ref" => (k_here; (with_reducible show wpAny _ _ (call (Value.ref 46) [_]) _ _ _); k_dflt ((refine' callOf_useR (by k_asm) (by k_asm) (by k_asm) (by k_asm) (by k_asm) (by first | exact rfl | assumption) (fun _ h => h) (exc_spec _ _ _ _) (by first | k_room | ktr_room) (by first | k_units | ktr_units) ?_); (intro v9 n9 h9 k9 hp9 F9 N9; obtain ⟨e9, o9, e19, e29, i9, q9⟩ := hp9; subst e19; subst e29)))
  k_with "call ref" => (k_here; (with_reducible show wpAny _ _ (call (Value.ref 54) [_]) _ _ _); k_dflt ((refine' callOf_useR (by k_asm) (by k_asm) (by k_asm) (by k_asm) (by k_asm) (by first | exact rfl | assumption) (fun _ h => h) (toct_spec _ _ _ _ (by assumption) (by assumption)) (by first | k_room | ktr_room) (by first | k_units | ktr_units) ?_); (intro v9 n9 h9 k9 hp9 F9 N9; obtain ⟨t9, e19, e29⟩ := hp9; subst e19; subst e29)))
  k_with "call ref" => (k_here; k_dflt (show wpAny _ _ (call (Value.ref 150) [_]) _ _ _); k_dflt ((refine' callOf_useR (by k_asm) (by k_asm) (by k_asm) (by k_asm) (by k_asm) (by first | exact rfl | assumption) (fun _ h => h) (text_spec _ _ _ _ _ _ _ _ _ _ (by omega) (by omega) (by assumption)) (by first | k_room | ktr_room) (by first | k_units | ktr_units) ?_); (intro v9 n9 h9 k9 hp9 F9 N9; obtain ⟨t9, e19, e29⟩ := hp9; subst e19; subst e29)))
  k_with "call ref" => (k_here; k_dflt (show wpAny _ _ (call (Value.ref 157) [_]) _ _ _); k_dflt ((refine' callOf_useR (by k_asm) (by k_asm) (by k_asm) (by k_asm) (by k_asm) (by first | exact rfl | assumption) (fun _ h => h) (least_spec _ _ _ _ _ _ _ _ _ _ (by omega) (by omega) (by assumption)) (by first | k_room | ktr_room) (by first | k_units | ktr_units) ?_); (intro v9 n9 h9 k9 hp9 F9 N9; obtain ⟨t9, e19, e29⟩ := hp9; subst e19; subst e29)))
  k_with "binaryOp Pow int int" => (k_here; (with_reducible refine pow_int_small (by omega) (by omega) (by decide) ?_))
  k_with "call type:str" => (k_here; (with_reducible show wpAny _ _ (call (Value.type "str") [Value.int _ _]) _ _ _); first | (refine' r_str_abs (by assumption) ?_) | (refine' r_str (by assumption) ?_))
  k_with "binaryOp Add str str" => (k_here; refine' r_add (by (first | with_reducible rfl | exact lit_zero | exact lit_dot | exact lit_dash | exact lit_nil | exact lit_dot0 | exact lit_signs | exact lit_figs)) (by (first | with_reducible rfl | exact lit_zero | exact lit_dot | exact lit_dash | exact lit_nil | exact lit_dot0 | exact lit_signs | exact lit_figs)) (by simp only [List.length_cons, List.length_nil]; omega) ?_; intro t9 n9)
  k_with "eval ListComp" => (k_here; k_dflt (refine comp_T (by k_asm) (by with_unfolding_all rfl) (by decide) (by rfl) (by decide) (by rfl) ?_))
  k_with "CompAnyT" => (k_here; k_dflt (refine' CompAnyT.text isFig (fun c y => ∃ u, y = .str (S [c]) u) (by rfl) (by k_asm) (by k_asm) (by assumption) (by omega) (fun c' u' I' oI' C' oC' D' m' ys' h' tk' E' hc' hC' hx' F' N' off' ne' => ?_) (fun ys' hy' => ?_)))
  k_with "CompEnd" => (k_dflt (first | exact LCg.CompEnd.intro (by k_asm) (by k_asm) _ (fun _ h => h) (by assumption) trivial ⟨rfl, by assumption, _, rfl⟩ | exact LCg.CompEnd.intro (by k_asm) (by k_asm) _ (fun _ h => h) (by assumption) trivial ⟨rfl, by assumption⟩ | exact LCg.CompEnd.intro (by k_asm) (by k_asm) _ (fun _ h => h) (by assumption) trivial ⟨rfl, (Bool.not_eq_true _).mp (by assumption)⟩))
  k_with "compareOp NotIn str str" => (k_here; refine' r_notin (by (first | with_reducible rfl | exact lit_zero | exact lit_dot | exact lit_dash | exact lit_nil | exact lit_dot0 | exact lit_signs | exact lit_figs)) ?_)
  k_with "call builtin:len" => (k_here; (with_reducible show wpAny _ _ (call (Value.builtin "len") [Value.ref _]) _ _ _); k_dflt (refine' r_len_list (by k_asm) (by k_mem) (by rw [areBy_len (by assumption)]; exact Nat.le_trans (List.length_filter_le _ _) (by omega)) ?_))
  k_with "exec If" => (k_here; (with_reducible show wpAny _ _ (exec (PySem.Stmt.If (PySem.Expr.Compare (PySem.Expr.Attribute _ _ _) _ _ _) _ [_] _) _) _ _ _); refine Stop0.mk ?_)
  intros; rename_i hret herr
  refine wpAny_call ?_
  k_dflt cell_enter
  k_steps
  all_goals (try unfold Stop0)
  rotate_left 2
  · refine cut_text (outL tp pl b) (by k_asm) (by k_asm) ?_ ?_
    · refine wpAny_If ?_
      k_steps
      all_goals first
        | exact TextP.mk (by k_asm) (by k_asm) (out_0t (by assumption) (by assumption))
        | exact TextP.mk (by k_asm) (by k_asm) (out_0f (by assumption) (by assumption))
        | exact TextP.mk (by k_asm) (by k_asm) (out_t (by assumption) (by assumption))
        | exact TextP.mk (by k_asm) (by k_asm) (out_f (by assumption) (by assumption))
    intro h9 n9 t9 F9 N9
    k_steps
    all_goals first
    | (with_reducible show PEnd _ _ _
       refine' pe_end (news := (x, instObj 160 dx) :: (dx, decDict w tp pl ta tb tc td) :: rest) ?B ?F ?N ?hs ?X ?n ?x rfl ?E
       case B => k_asm
       case F => k_asm
       case N => k_asm
       case hs => first | exact fun _ h => h | exact fun _ h => .tail _ h
       case X => k_asm
       case n => assumption
       case x => assumption
       case E => exact fun h' R U => herr _ _ _ _ (.inr (.inr (fig_gt rfl (by assumption) (by assumption)))) (by assumption) R U)
    | exact hret _ _ _ _ ⟨_, rfl, rfl, fun z => z.elim (fun z => absurd (pow_cast.mpr z) (by assumption)) fun z => z.elim (fun z => absurd z (by assumption)) (fun z => absurd z (fig_le rfl (by assumption) (by assumption)))⟩ (by k_asm) (cb_drop (by k_asm) fun p hp => .tail _ hp)
  all_goals (
       with_reducible show PEnd _ _ _
       refine' pe_end (news := (x, instObj 160 dx) :: (dx, decDict w tp pl ta tb tc td) :: rest) ?B2 ?F2 ?N2 ?hs2 ?X2 ?n2 ?x2 rfl ?E2
       case B2 => k_asm
       case F2 => k_asm
       case N2 => k_asm
       case hs2 => first | exact fun _ h => h | exact fun _ h => .tail _ h
       case X2 => k_asm
       case n2 => assumption
       case x2 => assumption
       case E2 => exact fun h' R U => herr _ _ _ _ (by first | exact .inl (pow_cast.mp (by assumption)) | exact .inr (.inl (by assumption))) (by assumption) R U)
end
def Stop (P : Prop) : Prop := P
theorem Stop.mk {P : Prop} (h : Stop P) : P := h
section
variable {prog : Program} {w : World}
/-- an entry into a def from which one may come back by LeaveK or outright -/
def Leave2 (h₀ : Heap) (L : Addr) (m : PySem.Str → Option Value) (g : Heap) (R : Result → Shared → Prop) (v : Value) (s' : Shared) : Prop := LeaveK h₀ L m g R v s' ∨ R (.ok (.ret v)) s'
theorem code_try {A A₀ : Around} {s : Shared} {K : Frag} {L : Addr} {h₀ base : Heap} {m mg mb : PySem.Str → Option Value} {news : List (Addr × Obj)} {p : Program} {loose : List PySem.Str} {mean : ExcName → Option Value}
    {env : Env} {outer : List Env} {R : Result → Shared → Prop} {name qual : PySem.Str} {params : Arguments} {body : List Stmt} {scope : Scope} {dV kV doc pm cdv ct oc : Value} {an od : Option Addr} {osl : Array (Option Value)} {f : Addr} {args : Args} {binds : List (PySem.Str × Value)}
    (B : Below A₀ base outer h₀) (F : Fr h₀ L s.heap m) (X₀ : K.In h₀) (N : News h₀ L s.heap news) (T : Top p loose mean mg mb h₀) (hA : A.frames = some (env :: outer)) (hf : env.frame = some L) (hke : env.scope.kind = .function)
    (ho : K.lookup f = some ⟨oc, od, .func (fnOf name qual params body scope dV kV doc pm an cdv ct), osl⟩) (hcd : codeIn K cdv qual = true) (hroom : A.depth < recursionLimit)
    (hbind : BindsTo s (fnOf name qual params body scope dV kV doc pm an cdv ct) args binds) (hloc : ∀ y ∈ binds, scope.names.lookup y.1 = some .local)
    (h : ∀ g L' h₁, Fr h₀ L g m → Fr g L' h₁ (fun y => binds.reverse.lookup y) → News g L' h₁ news → Below A base (env :: outer) g → K.In g → Top p loose mean mg mb g →
      wpAny (model prog w) (A.deeper (envOf qual scope L' f cdv)) (execs body (envOf qual scope L' f cdv))
        (fun fl s' => Leave2 h₀ L m g R (match fl with | .ret v => v | _ => .none) s')
        (fun e s' => wpAny (model prog w) (A.deeper (envOf qual scope L' f cdv)) (leaving (envOf qual scope L' f cdv) e) (fun _ s'' => R (.error e) s'') (fun e' s'' => R (.error e') s'') s')
        { s with heap := h₁, toks := s.toks + binds.length })
    (hco : scope.isCoroutine = false) (hgen : scope.isGenerator = false) (hk : scope.kind = .function)
    (hcell : ∀ x ∈ scope.names, x.2 ≠ .cell) : codeAny (model prog w) A (.call (.ref f) args) R s := by
  obtain ⟨FG, BG, st, lv⟩ := groundX (R := R) B F N hA hf hke
  refine codeAny_call_def (fd := fnOf name qual params body scope dV kV doc pm an cdv ct) (body := body) (binds := binds) hroom ((X₀.keeps F.keep) _ _ ho) rfl (T.nolimit.keeps F.keep) (codeRec_of (X₀.keeps F.keep) hcd) rfl hbind hcell hloc (fun h₁ hns hk₁ => ?_) hco hgen hk
  exact wpAny_mono (h _ s.heap.objs.size h₁ FG ⟨hns, fun b o e => hk₁ b o (of_hideAll _ e), Nat.le_of_eq (hideAll_size _ _)⟩
    (fun p hp => ⟨hk₁ _ _ (N p hp).1, Nat.ne_of_lt (Heap.lt_size (N p hp).1), hideAll_none _ (List.mem_map_of_mem hp)⟩) BG (X₀.keeps st) (T.keeps st)) (fun fl s' hl => hl.elim (lv _ _) id) fun _ _ y => y
theorem caught_pe {A : Around} {E : Value → Shared → Prop} {s' : Shared} {h₀ g G : Heap} {env1 : Env} {L L2 a e : Addr} {m m2 mg mb : PySem.Str → Option Value} {name : PySem.Str} {scope : Scope} {cd : Value}
    {b₀ : Stmt} {suite : List Stmt} {pos np : Pos} {rest : List ExceptHandler} {Q : Flow → Shared → Prop} {news : List (Addr × Obj)} {p : Program} {loose : List PySem.Str} {x : PySem.Str}
    (K : Below A h₀ [env1] g) (hf1 : env1.frame = some L) (FG : Fr h₀ L g m) (F : Fr g L2 G m2) (hsm : G.UpToSlots s'.heap) (R : RaisedN h₀ (envOf name scope L2 a cd :: [env1]) e (.ref 46) news s'.heap)
    (X : (hd.heap_39 w.params).In h₀) (T : TopRead p loose mg mb h₀) (ex : nsIn (hd.heap_39 w.params) mainGlobals x = some (some (.ref 46)))
    (k : ∀ h', Fr h₀ L h' m → News h₀ L h' news →
      wpAny (model prog w) ((A.deeper (envOf name scope L2 a cd)).mark (some (.ref e))) (execs (b₀ :: suite) (envOf name scope L2 a cd)) Q E { s' with heap := h' })
    (hk : scope.kind = .function) (hx : (envOf name scope L2 a cd).kindOf x = some .globalImplicit) (hd : (x == ("__debug__" : PySem.Str)) = false)
    (hE : PassesOwnAt (model prog w) ((A.deeper (envOf name scope L2 a cd)).mark (some (.ref e))) (A.deeper (envOf name scope L2 a cd)) (envOf name scope L2 a cd) E) :
    wpAny (model prog w) (A.deeper (envOf name scope L2 a cd)) (noteFrame (.ref e) (envOf name scope L2 a cd))
      (fun _ s₂ => wpAny (model prog w) (A.deeper (envOf name scope L2 a cd)) (setFlight (.ref e) none) (fun _ s₃ =>
        wpAny (model prog w) (A.deeper (envOf name scope L2 a cd)) (handleBy (.ref e) (envOf name scope L2 a cd) (.ExceptHandler (some (.Name x np)) none (b₀ :: suite) pos :: rest)) Q E s₃) E s₂) E s' := by
  obtain ⟨B, a0, hB, hl, hfl⟩ := R
  have hL : B.get? L = none := by
    obtain ⟨_, _, _, ⟨L1, _, hf, hn', _⟩, _⟩ := hfl.2.2.1
    obtain rfl : L = L1 := Option.some.inj (hf1.symm.trans hf)
    exact hn'
  have hle : h₀.objs.size ≤ L2 := Nat.le_trans FG.above (Nat.le_trans (Nat.le_of_lt FG.ns.lt) F.above)
  have fr : ∀ {hh : Heap}, G.UpToSlots hh → h₀.StaysIn hh → Fr h₀ L hh m := fun sm st => ⟨sm.ns (FG.ns.keeps F.keep), st, FG.above⟩
  refine wpAny_looks_onW (Around.frames_deeper K.stack) rfl hfl fun h₄ hheld₄ hsm₄ => ?_
  refine wpAny_landsW hheld₄ fun h₅ hheld hsm₅' => ?_
  have hsm₅ := hsm₄.trans hsm₅'
  have hheld' := flyingW_base hB hheld
  have F₅ : Fr h₀ L2 h₅ m2 := ⟨(hsm.trans hsm₅).ns F.ns, hheld'.1, hle⟩
  obtain ⟨ob, hob, hobc⟩ := hheld'.there
  obtain ⟨_, _, _, _, _, _, _, _, _, _, _, _, _, hC⟩ := (pe_cls X).keeps F₅.keep
  refine wpAny_handleBy_cons (codeAny_handlers_test (name_K F₅ X T ex ?_ hk hx hd)) (by intro q; cases q)
  refine wpAny_excMatches_sub_self hC hob hobc (by decide) (codeAny_handlers_suite ?_)
  refine lands_againW hheld fun h₆ hfl₆ hsm₆ => ?_
  have hfl₆' := flyingW_base hB hfl₆
  exact wpAny_passesOwnAt hE (k h₆ (fr ((hsm.trans hsm₅).trans hsm₆) hfl₆'.1) fun q hq => ⟨hfl₆.1 _ _ (hl q hq).1, (fun z => by have := (hl q hq).1; rw [z, hL] at this; cases this), (hl q hq).2⟩)
end
theorem heard_spec (w : World) {f c' : Addr} {name qual : PySem.Str} {params : Arguments} {body : Expr} {scope : Scope} {clos : List (PySem.Str × Addr)} {pm ctv : Value} {rest : List (Addr × Obj)} {nd nu : Nat} {Post : Value → List (Addr × Obj) → Prop} {Bad : Prop}
  (hnd : nd ≤ 400) (hnu : nu ≤ 1600)
  (C : CallOfE w f [] ((f, kla_obj name qual params body scope clos pm c' ctv) :: rest) nd nu Post Bad)
  (p : Program) (loose : List PySem.Str) (mean : ExcName → Option Value) (mg mb : PySem.Str → Option Value)
    (dp un : Nat) (gd : Option (List Code)) (cn : PySem.Str) (cs : Scope) (a : Addr) (ccd : Value) (cl : List (PySem.Str × Addr)) (A₀ : Around) (h₀ : Heap) (L : Addr) (m : PySem.Str → Option Value) (s : Shared) (Q E : Value → Shared → Prop) :
    (hd.heap_39 w.params).In h₀ → Below A₀ h₀ [] h₀ → Fr h₀ L s.heap m → News h₀ L s.heap ((f, kla_obj name qual params body scope clos pm c' ctv) :: rest) → Top p loose mean mg mb h₀ → cs.kind = .function →
    dp + 500 < recursionLimit → un + 2000 < cLine →
    (∀ v news' h' tk', Post v news' → Fr h₀ L h' m → News h₀ L h' news' → Q v { s with heap := h', toks := tk' }) →
    (∀ t h' tk', Bad → Fr h₀ L h' m → News h₀ L h' ((f, kla_obj name qual params body scope clos pm c' ctv) :: rest) → Q (.str (Str.ofString "refused") t) { s with heap := h', toks := tk' }) →
    wpAny (model PySem.Challenge.rw_og0141_01.row.prog w) (ktrTop dp un gd cn cs L a ccd cl []) (call (.ref 216) [.ref f]) Q E s := by
  w_top off
  k_fill
  k_with_none
  intros; rename_i hret hbad
  refine wpAny_call ?_
  k_dflt (refine' code_try ?k1 ?k2 ?k3 ?k4 ?k5 ?kA ?kF ?kK ?k6 ?k7 ?k8 ?k9 ?kB ?_ ?c2 ?c3 ?c4 ?c5; (case kA => exact rfl); (case kF => exact rfl); (case kK => assumption); (case k1 => k_asm); (case k2 => k_asm); (case k3 => k_asm); (case k4 => k_asm); (case k5 => k_asm); (case k6 => k_is); (case k7 => k_is); (case k8 => ktr_room); (case k9 => exact BindsTo.of_eq rfl); (case c5 => decide); (case kB => exact locs rfl); (case c2 => exact rfl); (case c3 => exact rfl); (case c4 => exact rfl); k_whole; intro g' L' h' FG' F' N' B' X' T'; (try dsimp only); (try k_lift B'); (try k_fold))
  k_steps
  refine' callWith_F0 ?k1 ?_
  case k1 => exact FnAt.of (by k_asm) (by k_mem)
  dsimp only [List.nil_append, List.cons_append]
  refine' callOfE_use C ?k1 ?k2 ?k3 ?k4 ?k5 ?kK ?kd ?ku ?err ?_
  case k1 => k_asm
  case k2 => k_asm
  case k3 => k_asm
  case k4 => k_asm
  case k5 => k_asm
  case kK => rfl
  case kd => first | k_room | ktr_room | (simp only [ktrTop] at *; omega)
  case ku => first | k_units | ktr_units
  case err =>
    intro e h1 tk1 G hb FG2 R U
    have FGx : Fr h₀ L g' m := by assumption
    dsimp only
    refine' caught_pe ?K ?f ?FG ?F ?U ?R ?X ?T ?ex ?k rfl ?hx ?hd ?hE
    case K => assumption
    case f => exact rfl
    case FG => assumption
    case F => exact FG2
    case U => exact U
    case R => exact R
    case X => assumption
    case T => exact topRead_of (by assumption)
    case ex => k_is
    case hx => rfl
    case hd => decide
    case hE => passes_own
    intro h2 F2 N2
    k_steps
    exact .inr (hbad _ _ _ hb F2 N2)
  intro v n1 h1 tk1 hp F1 N1
  exact .inl (leaveK_ F1 N1 fun F N => hret _ _ _ _ hp F N)
section
open PyProof.Rows.LCg
section
variable {prog : Program} {w : World} {A : Around} {E : Value → Shared → Prop} {s : Shared} {t u : Tok} {Q : Value → Shared → Prop} {value slice : PySem.Expr} {h₀ : Heap} {L : Addr} {m : PySem.Str → Option Value} {news : List (Addr × Obj)}
theorem r_cutA {l l' : List Nat} {k : Int} {uj : Tok} (F : Fr h₀ L s.heap m) (N : News h₀ L s.heap news) (h0 : 0 ≤ k) (h1 : k ≤ l.length) (hs : l.length ≤ 1000) (e : l.take k.toNat = l')
    (h : ∀ h' t' n, Fr h₀ L h' m → News h₀ L h' news → Q (.str (S l') t') { s with heap := h', toks := n })
    (hsub : subscripted slice false (.str (S l) t) (.ref s.heap.objs.size) = operate [.ref s.heap.objs.size, .str (S l) t] (getItem (.str (S l) t) (.ref s.heap.objs.size)) := by with_unfolding_all rfl)
    (ht : ∀ r, letTemporaryGo value (.str (S l) t) r = pure () := by intro _; with_unfolding_all rfl) :
    wpAny (model prog w) A (subscriptTail value slice (.str (S l) t) (.ref s.heap.objs.size)) Q E { s with heap := s.heap.push { cls := .type "slice", data := .fields #[.none, .int k uj, .none] } } :=
  r_cut_toN F N h0 h1 hs (by rw [e]; exact h) hsub ht
theorem r_cutB {l l' : List Nat} {k : Int} {uj : Tok} (F : Fr h₀ L s.heap m) (N : News h₀ L s.heap news) (h0 : 0 ≤ k) (h1 : k ≤ l.length) (hs : l.length ≤ 1000) (e : l.drop k.toNat = l')
    (h : ∀ h' t' n, Fr h₀ L h' m → News h₀ L h' news → Q (.str (S l') t') { s with heap := h', toks := n })
    (hsub : subscripted slice false (.str (S l) t) (.ref s.heap.objs.size) = operate [.ref s.heap.objs.size, .str (S l) t] (getItem (.str (S l) t) (.ref s.heap.objs.size)) := by with_unfolding_all rfl)
    (ht : ∀ r, letTemporaryGo value (.str (S l) t) r = pure () := by intro _; with_unfolding_all rfl) :
    wpAny (model prog w) A (subscriptTail value slice (.str (S l) t) (.ref s.heap.objs.size)) Q E { s with heap := s.heap.push { cls := .type "slice", data := .fields #[.int k uj, .none, .none] } } :=
  r_cut_fromN F N h0 h1 hs (by rw [e]; exact h) hsub ht
end
abbrev tup3 (a b c : Value) : Obj := { cls := .type "tuple", data := .seq #[a, b, c] }
theorem codes_S (l : List Nat) : KStt.codes (S l) = l.map fun (c : Nat) => (c : Int) := by simp [KStt.codes, S]
theorem codes_mem {l : List Nat} {pre post : List Int} {n : Nat} (h : KStt.codes (S l) = pre ++ (n : Int) :: post) : n ∈ l := by
  rw [codes_S] at h
  have : (n : Int) ∈ l.map fun (c : Nat) => (c : Int) := by rw [h]; simp
  obtain ⟨c, hc, e⟩ := List.mem_map.mp this
  rw [← Int.ofNat.inj e]; exact hc
theorem codes_back (l : List Nat) : (KStt.codes (S l)).map Int.toNat = l := S_inj (KStt.txt_codes (S l))
theorem read_turn {wv : Int} {pre : List Int} {n : Nat} (h : wv = val 0 (pre.map Int.toNat)) : 10 * wv + ((n : Int) - 48) = val 0 ((pre ++ [(n : Int)]).map Int.toNat) := by
  rw [List.map_append, val_append, ← h]; rfl
theorem read_neg (w : World) (ah be : List Nat) (t : Tok) (news : List (Addr × Obj)) (hah : ∀ c ∈ ah, 48 ≤ c ∧ c ≤ 57) (hbe : ∀ c ∈ be, 48 ≤ c ∧ c ≤ 57) (hl : ah.length + be.length ≤ 90) :
   CallOf w 202 [.bytes (B (45 :: (ah ++ 46 :: be))) t] news 200 1000
    (fun v news' => ∃ D t1 t2 t3, v = .ref D ∧ news' = (D, tup3 (.int (-1 * val 0 (ah ++ be)) t1) (.str (S ah) t2) (.str (S be) t3)) :: news) := by
  have hA : ∀ c ∈ 45 :: (ah ++ 46 :: be), c < 128 := by
    intro c hc
    rcases List.mem_cons.mp hc with h | h
    · omega
    · rcases List.mem_append.mp h with h | h
      · have := hah c h; omega
      · rcases List.mem_cons.mp h with h | h
        · omega
        · have := hbe c h; omega
  have hd46 : 46 ∉ ah := fun h => by have := hah _ h; omega
  have hlen : (45 :: (ah ++ 46 :: be)).length ≤ 100 := by simp; omega
  have e0 : (45 :: (ah ++ 46 :: be)).take (Int.toNat 1) = [45] := rfl
  have e1 : (45 :: (ah ++ 46 :: be)).drop (Int.toNat 1) = ah ++ 46 :: be := rfl
  have e2 : (ah ++ 46 :: be).take (Int.toNat (ah.length : Int)) = ah := by simp
  have e3 : (ah ++ 46 :: be).drop (Int.toNat ((ah.length : Int) + 1)) = be := by
    rw [show Int.toNat ((ah.length : Int) + 1) = ah.length + 1 by omega]
    simp
  unfold CallOf
  w_top off
  k_fill
  k_with_none
  k_with "eval ListComp" => (k_here; k_dflt (refine comp_U (by k_asm) (by with_unfolding_all rfl) (by decide) (by rfl) (by decide) (by rfl) ?_))
  k_with "CompAny" => (k_here; k_dflt (refine' CompAny.octets (fun c y => ∃ u, y = .str (S [c]) u) (by rfl) (by k_asm) (by k_asm) (by assumption) (by omega) (fun c' u' I' oI' C' oC' D' m' ys' h' tk' E' hc' hC' hx' F' N' off' ne' => ?_) (fun ys' hy' => ?_)))
  k_with "CompEnd" => (k_dflt (exact LCg.CompEnd.intro (by k_asm) (by k_asm) _ (fun _ h => h) (by assumption) trivial ⟨rfl, _, rfl⟩))
  k_with "call builtin:chr" => (k_here; refine' r_chr ?_ ?_; exact (show ∀ c ∈ _, c < 128 by assumption) _ (by assumption))
  k_with "call builtin:str.join" => (k_here; k_dflt (refine' r_join (by k_asm) (by exact lit_nil) (by k_mem) (by assumption) (by omega) ?_); intro t9 k9)
  k_with "subscriptTail" => (k_here; (with_reducible rename Fr _ _ _ _ => F'); (with_reducible rename News _ _ _ _ => N'); first | (refine' r_cutA (s := ⟨_, _, _, _, _⟩) F' N' (by omega) (by ((try simp only [List.length_append, List.length_replicate, List.length_take, List.length_drop, List.length_cons, List.length_nil]); omega)) (by ((try simp only [List.length_append, List.length_replicate, List.length_take, List.length_drop, List.length_cons, List.length_nil]); omega)) (by assumption) ?_; intro h9 t9 n9 F9 N9) | (refine' r_cutB (s := ⟨_, _, _, _, _⟩) F' N' (by omega) (by ((try simp only [List.length_append, List.length_replicate, List.length_take, List.length_drop, List.length_cons, List.length_nil]); omega)) (by ((try simp only [List.length_append, List.length_replicate, List.length_take, List.length_drop, List.length_cons, List.length_nil]); omega)) (by assumption) ?_; intro h9 t9 n9 F9 N9))
  k_with "call builtin:str.index" => (k_here; first | (refine' r_index rfl (by exact lit_dot) rfl (by assumption) ?_) | (refine' r_fig rfl (by exact lit_figs) (by assumption) ?_))
  k_with "exec For Name BinOp cons nil" => (k_here; (rename Fr _ _ _ _ => lF'); (with_unfolding_all refine' For_invVF lF' (by exact rfl) (by exact rfl) ?_; k_whole))
  k_with "pyIter str" => (k_here; k_extra "my iter")
  k_with "binaryOp Add str str" => (k_here; refine' r_add rfl rfl (by omega) ?_; intro t9 n9)
  intros; rename_i hret
  refine wpAny_call ?_
  k_dflt cell_enter
  k_with "my iter" => (
    (rename News _ _ _ _ => lN);
    (with_unfolding_all refine' KStt.kst_text (σ := Int × Tok) (fun _ => news) (fun c => [(Str.ofString "worth", .int c.1 c.2)]) (fun _ => True) [] (fun pre c => c.1 = val 0 (pre.map Int.toNat)) (_, _) (by rfl) (by assumption) ?kn trivial ?kk ?kp ?kturn ?kdone);
    (case kn => exact cb_drop lN fun p hp => .tail _ (.tail _ hp));
    (case kk => kst_all);
    (case kp => rfl);
    (clear lN);
    (case' kturn =>
      rintro ⟨wv, wt⟩ pre post n t u h9 k9 own hk hoff hf hp9 F9 N9
      have hc9 : 48 ≤ n ∧ n ≤ 57 := (List.mem_append.mp (codes_mem hk)).elim (hah n) (hbe n)
      dsimp only [List.cons_append, List.nil_append, kstB] at hp9 F9 N9);
    (case' kdone =>
      rintro ⟨wv, wt⟩ u h9 k9 hf hp9 F9 N9
      rw [codes_back] at hp9
      subst hp9
      dsimp only [kstB] at F9 N9);
    (all_goals try k_fold))
  k_with "state" => (exact read_turn (by assumption))
  k_steps
  exact hret _ _ _ _ ⟨_, _, _, _, rfl, rfl⟩ (by k_asm) (by k_asm)
theorem r_nodash {prog : Program} {w : World} {A : Around} {E : Value → Shared → Prop} {s : Shared} {t u : Tok} {Q : Value → Shared → Prop} {c : Nat} {x : PySem.Str} (hx : x = S [45]) (hc : c ≠ 45) (h : Q (.bool false) s) : wpAny (model prog w) A (compareOp .Eq (.str (S [c]) t) (.str x u)) Q E s := by
  subst hx
  refine PyProof.Rows.eq_str ?_
  have e : (S [c] == S [45]) = false := by
    rw [beq_eq_false_iff_ne]
    intro z
    have := S_inj z
    simp at this
    exact hc this
  rw [e]; exact h
theorem read_pos (w : World) (ah be : List Nat) (t : Tok) (news : List (Addr × Obj)) (hah : ∀ c ∈ ah, 48 ≤ c ∧ c ≤ 57) (hbe : ∀ c ∈ be, 48 ≤ c ∧ c ≤ 57) (hl : ah.length + be.length ≤ 90) :
   CallOf w 202 [.bytes (B (ah ++ 46 :: be)) t] news 200 1000
    (fun v news' => ∃ D t1 t2 t3, v = .ref D ∧ news' = (D, tup3 (.int (1 * val 0 (ah ++ be)) t1) (.str (S ah) t2) (.str (S be) t3)) :: news) := by
  have hA : ∀ c ∈ ah ++ 46 :: be, c < 128 := by
    intro c hc
    rcases List.mem_append.mp hc with h | h
    · have := hah c h; omega
    · rcases List.mem_cons.mp h with h | h
      · omega
      · have := hbe c h; omega
  have hd46 : 46 ∉ ah := fun h => by have := hah _ h; omega
  have hlen : (ah ++ 46 :: be).length ≤ 100 := by simp; omega
  obtain ⟨c0, e0, hc0⟩ : ∃ c0, (ah ++ 46 :: be).take (Int.toNat 1) = [c0] ∧ c0 ≠ 45 := by
    cases ah with
    | nil => exact ⟨46, rfl, by decide⟩
    | cons c r => exact ⟨c, rfl, by have := hah c (.head _); omega⟩
  have e2 : (ah ++ 46 :: be).take (Int.toNat (ah.length : Int)) = ah := by simp
  have e3 : (ah ++ 46 :: be).drop (Int.toNat ((ah.length : Int) + 1)) = be := by
    rw [show Int.toNat ((ah.length : Int) + 1) = ah.length + 1 by omega]
    simp
  unfold CallOf
  w_top off
  k_fill
  k_with_none
  k_with "eval ListComp" => (k_here; k_dflt (refine comp_U (by k_asm) (by with_unfolding_all rfl) (by decide) (by rfl) (by decide) (by rfl) ?_))
  k_with "CompAny" => (k_here; k_dflt (refine' CompAny.octets (fun c y => ∃ u, y = .str (S [c]) u) (by rfl) (by k_asm) (by k_asm) (by assumption) (by omega) (fun c' u' I' oI' C' oC' D' m' ys' h' tk' E' hc' hC' hx' F' N' off' ne' => ?_) (fun ys' hy' => ?_)))
  k_with "CompEnd" => (k_dflt (exact LCg.CompEnd.intro (by k_asm) (by k_asm) _ (fun _ h => h) (by assumption) trivial ⟨rfl, _, rfl⟩))
  k_with "call builtin:chr" => (k_here; refine' r_chr ?_ ?_; exact (show ∀ c ∈ _, c < 128 by assumption) _ (by assumption))
  k_with "call builtin:str.join" => (k_here; k_dflt (refine' r_join (by k_asm) (by exact lit_nil) (by k_mem) (by assumption) (by omega) ?_); intro t9 k9)
  k_with "subscriptTail" => (k_here; (with_reducible rename Fr _ _ _ _ => F'); (with_reducible rename News _ _ _ _ => N'); first | (refine' r_cutA (s := ⟨_, _, _, _, _⟩) F' N' (by omega) (by ((try simp only [List.length_append, List.length_replicate, List.length_take, List.length_drop, List.length_cons, List.length_nil]); omega)) (by ((try simp only [List.length_append, List.length_replicate, List.length_take, List.length_drop, List.length_cons, List.length_nil]); omega)) (by assumption) ?_; intro h9 t9 n9 F9 N9) | (refine' r_cutB (s := ⟨_, _, _, _, _⟩) F' N' (by omega) (by ((try simp only [List.length_append, List.length_replicate, List.length_take, List.length_drop, List.length_cons, List.length_nil]); omega)) (by ((try simp only [List.length_append, List.length_replicate, List.length_take, List.length_drop, List.length_cons, List.length_nil]); omega)) (by assumption) ?_; intro h9 t9 n9 F9 N9))
  k_with "call builtin:str.index" => (k_here; first | (refine' r_index rfl (by exact lit_dot) rfl (by assumption) ?_) | (refine' r_fig rfl (by exact lit_figs) (by assumption) ?_))
  k_with "exec For Name BinOp cons nil" => (k_here; (rename Fr _ _ _ _ => lF'); (with_unfolding_all refine' For_invVF lF' (by exact rfl) (by exact rfl) ?_; k_whole))
  k_with "pyIter str" => (k_here; k_extra "my iter")
  k_with "binaryOp Add str str" => (k_here; refine' r_add rfl rfl (by omega) ?_; intro t9 n9)
  k_with "compareOp Eq str str" => (k_here; refine' r_nodash (by exact lit_dash) (by assumption) ?_)
  intros; rename_i hret
  refine wpAny_call ?_
  k_dflt cell_enter
  k_with "my iter" => (
    (rename News _ _ _ _ => lN);
    (with_unfolding_all refine' KStt.kst_text (σ := Int × Tok) (fun _ => news) (fun c => [(Str.ofString "worth", .int c.1 c.2)]) (fun _ => True) [] (fun pre c => c.1 = val 0 (pre.map Int.toNat)) (_, _) (by rfl) (by assumption) ?kn trivial ?kk ?kp ?kturn ?kdone);
    (case kn => exact cb_drop lN fun p hp => .tail _ (.tail _ hp));
    (case kk => kst_all);
    (case kp => rfl);
    (clear lN);
    (case' kturn =>
      rintro ⟨wv, wt⟩ pre post n t u h9 k9 own hk hoff hf hp9 F9 N9
      have hc9 : 48 ≤ n ∧ n ≤ 57 := (List.mem_append.mp (codes_mem hk)).elim (hah n) (hbe n)
      dsimp only [List.cons_append, List.nil_append, kstB] at hp9 F9 N9);
    (case' kdone =>
      rintro ⟨wv, wt⟩ u h9 k9 hf hp9 F9 N9
      rw [codes_back] at hp9
      subst hp9
      dsimp only [kstB] at F9 N9);
    (all_goals try k_fold))
  k_with "state" => (exact read_turn (by assumption))
  k_steps
  exact hret _ _ _ _ ⟨_, _, _, _, rfl, rfl⟩ (by k_asm) (by k_asm)
end
/-- what _law_size reckons -/
def sizeZ (tp pl : Int) : Int :=
  (if tp < 0 then 1 else 0) + 1 + (if pl = 0 then (if tp = 0 then 1 else ((nd tp.natAbs).length : Int)) else if tp = 0 then 0 else if pl < ((nd tp.natAbs).length : Int) then ((nd tp.natAbs).length : Int) - pl else 0) + pl
theorem int_eq {x y : Int} {t : Tok} (e : x = y) : Value.int x t = .int y t := by rw [e]
theorem size_spec (w : World) (tp pl : Int) (t u : Tok) (news : List (Addr × Obj)) (ht : tp.natAbs < 10 ^ 42) (h0 : 0 ≤ pl) :
   CallOf w 209 [.int tp t, .int pl u] news 150 900 (fun v news' => ∃ t', v = .int (sizeZ tp pl) t' ∧ news' = news) := by
  have hL1 := nd_len_pos tp.natAbs
  have hL2 := nd_len_le (by decide) ht
  unfold CallOf
  w_top off
  k_fill
  k_with_none
  k_with "call type:str" => (k_here; (with_reducible show wpAny _ _ (call (Value.type "str") [Value.int _ _]) _ _ _); first | (refine' r_str_abs (by assumption) ?_) | (refine' r_str (by assumption) ?_))
  k_with "call builtin:len" => (k_here; (with_reducible show wpAny _ _ (call (Value.builtin "len") [Value.str (S _) _]) _ _ _); refine' r_len (by omega) ?_)
  intros; rename_i hret
  refine wpAny_call ?_
  k_dflt cell_enter
  k_steps
  all_goals (refine hret _ _ _ _ ⟨_, int_eq ?_, rfl⟩ (by k_asm) (by k_asm); unfold sizeZ; (repeat' split) <;> omega)
def ahL (tp pl : Int) (b : Bool) : List Nat := if pl = 0 then nd tp.natAbs else if b = true ∧ ¬ (10 ^ pl.toNat ≤ tp.natAbs ∨ tp = 0) then [] else aheadL tp pl
def beL (tp pl : Int) (b : Bool) : List Nat := if pl = 0 then (if b = true then [] else [48]) else behindL tp pl
theorem outL_split {tp pl : Int} {b : Bool} (h0 : 0 ≤ pl) : outL tp pl b = sg tp ++ (ahL tp pl b ++ 46 :: beL tp pl b) := by
  unfold outL ahL beL
  by_cases hp : pl = 0
  · rw [if_pos hp, if_pos hp, if_pos hp]
    unfold idg
    cases b <;> simp
  · rw [if_neg hp, if_neg hp, if_neg hp]
    have hpos : 0 < pl := by omega
    cases b
    · rw [if_neg (by decide), if_neg (by simp), textL_split hpos]; simp
    · rw [if_pos rfl]
      unfold leastL
      by_cases hc : 10 ^ pl.toNat ≤ tp.natAbs ∨ tp = 0
      · rw [if_pos hc, if_neg (by simp [hc]), textL_split hpos]; simp
      · rw [if_neg hc, if_pos ⟨rfl, hc⟩]; rfl
theorem ahL_all (tp pl : Int) (b : Bool) : ∀ c ∈ ahL tp pl b, 48 ≤ c ∧ c ≤ 57 := by
  intro c hc
  unfold ahL at hc
  split at hc
  · exact nd_all _ c hc
  · split at hc
    · cases hc
    · exact padl_all _ _ c (List.mem_of_mem_take hc)
theorem beL_all (tp pl : Int) (b : Bool) : ∀ c ∈ beL tp pl b, 48 ≤ c ∧ c ≤ 57 := by
  intro c hc
  unfold beL at hc
  split at hc
  · split at hc
    · cases hc
    · simp at hc; omega
  · exact padl_all _ _ c (List.mem_of_mem_drop hc)
theorem padl_length {tp pl : Int} (h0 : 0 ≤ pl) : ((padl tp pl).length : Int) = if pl + 1 ≤ ((nd tp.natAbs).length : Int) then ((nd tp.natAbs).length : Int) else pl + 1 := by
  unfold padl
  rw [List.length_append, List.length_replicate]
  split <;> omega
theorem aheadL_length {tp pl : Int} (h0 : 0 ≤ pl) : ((aheadL tp pl).length : Int) = (padl tp pl).length - pl := by
  have := padl_len (tp := tp) h0
  unfold aheadL; rw [List.length_take]; omega
theorem behindL_length {tp pl : Int} (h0 : 0 ≤ pl) : ((behindL tp pl).length : Int) = pl := by
  have := padl_len (tp := tp) h0
  unfold behindL; rw [List.length_drop]; omega
theorem ah_be (tp pl : Int) : aheadL tp pl ++ behindL tp pl = padl tp pl := List.take_append_drop _ _
/-- the number's size against its places -/
theorem size_pow {tp pl : Int} (h0 : 0 < pl) : (10 ^ pl.toNat ≤ tp.natAbs) ↔ ¬ ((nd tp.natAbs).length : Int) ≤ pl := by
  have := nd_lt_iff (k := pl.toNat) (n := tp.natAbs) (by omega)
  omega
theorem no_zero {tp pl : Int} (hp : pl ≠ 0) (hf : pl = 0 ∨ tp.fmod 10 ≠ 0) : tp ≠ 0 := by
  rintro rfl
  rcases hf with h | h
  · exact hp h
  · exact h rfl
theorem val_padl (tp pl : Int) : val 0 (padl tp pl) = tp.natAbs := by
  unfold padl; rw [val_zeros, val_nd]
theorem val_behind {tp pl : Int} (h0 : 0 < pl) (hs : ((nd tp.natAbs).length : Int) ≤ pl) : val 0 (behindL tp pl) = tp.natAbs := by
  have h1 := nd_len_pos tp.natAbs
  have e : (-pl + ((padl tp pl).length : Int)).toNat = 1 := by
    rw [padl_length (by omega), if_neg (by omega)]; omega
  have h2 := val_padl tp pl
  unfold behindL
  rw [e]
  have e3 : (pl + 1 - ((nd tp.natAbs).length : Int)).toNat = (pl - ((nd tp.natAbs).length : Int)).toNat + 1 := by omega
  unfold padl at h2 ⊢
  rw [e3, List.replicate_succ, List.cons_append] at h2 ⊢
  exact h2
theorem sign_val (tp : Int) : (if tp < 0 then -1 else 1) * (tp.natAbs : Int) = tp := by split <;> omega
/-- what the law asks of the worth -/
theorem worth_ok {tp pl : Int} {b : Bool} (h0 : 0 ≤ pl) (hf : pl = 0 ∨ tp.fmod 10 ≠ 0) :
    ((if tp < 0 then -1 else 1) * val 0 (ahL tp pl b ++ beL tp pl b)) * 10 ^ pl.toNat = tp * 10 ^ (beL tp pl b).length := by
  unfold ahL beL
  by_cases hp : pl = 0
  · rw [if_pos hp, if_pos hp, hp]
    cases b
    · have e1 : (if false = true then ([] : List Nat) else [48]) = [48] := rfl
      have e2 : val (tp.natAbs : Int) [48] = 10 * (tp.natAbs : Int) + (Int.ofNat 48 - 48) := rfl
      have h3 := sign_val tp
      rw [e1, val_append, val_nd, e2]
      simp only [Int.ofNat_eq_natCast, List.length_singleton, Int.pow_succ, Int.toNat_zero, Int.pow_zero]
      by_cases h : tp < 0
      · simp only [if_pos h] at h3 ⊢; omega
      · simp only [if_neg h] at h3 ⊢; omega
    · have e1 : (if true = true then ([] : List Nat) else [48]) = [] := rfl
      rw [e1, List.append_nil, val_nd, sign_val]
      simp
  · rw [if_neg hp, if_neg hp]
    have hpos : 0 < pl := by omega
    have hz := no_zero hp hf
    have hb : (behindL tp pl).length = pl.toNat := by have := behindL_length (tp := tp) h0; omega
    rw [hb]
    by_cases hc : b = true ∧ ¬ (10 ^ pl.toNat ≤ tp.natAbs ∨ tp = 0)
    · rw [if_pos hc, List.nil_append, val_behind hpos, sign_val]
      have := size_pow (tp := tp) hpos
      have h3 := hc.2
      omega
    · rw [if_neg hc, ah_be, val_padl, sign_val]
/-- the length of the least form -/
theorem least_len {tp pl : Int} (h0 : 0 ≤ pl) (hf : pl = 0 ∨ tp.fmod 10 ≠ 0) : ((outL tp pl true).length : Int) = sizeZ tp pl := by
  have hs : ((sg tp).length : Int) = if tp < 0 then 1 else 0 := by unfold sg; split <;> rfl
  rw [outL_split h0]
  simp only [List.length_append, List.length_cons]
  unfold ahL beL sizeZ
  by_cases hp : pl = 0
  · rw [if_pos hp, if_pos hp, if_pos hp, if_pos rfl]
    by_cases hz : tp = 0
    · subst hz; subst hp; decide
    · rw [if_neg hz, List.length_nil]; omega
  · rw [if_neg hp, if_neg hp, if_neg hp]
    have hpos : 0 < pl := by omega
    have hz := no_zero hp hf
    have hb := behindL_length (tp := tp) h0
    have ha := aheadL_length (tp := tp) h0
    have hq := padl_length (tp := tp) h0
    have hw := size_pow (tp := tp) hpos
    by_cases hc : ((nd tp.natAbs).length : Int) ≤ pl
    · have hk : ¬ 10 ^ pl.toNat ≤ tp.natAbs := fun h => hw.mp h hc
      have hlt : ¬ pl < ((nd tp.natAbs).length : Int) := by omega
      simp only [hk, hz, hlt, or_self, not_false_eq_true, and_self, if_true, if_false, List.length_nil]
      omega
    · have hk : 10 ^ pl.toNat ≤ tp.natAbs := hw.mpr hc
      have hlt : pl < ((nd tp.natAbs).length : Int) := by omega
      rw [if_pos (by omega)] at hq
      simp only [hk, hz, hlt, true_or, not_true_eq_false, and_false, if_true, if_false]
      omega
theorem figs_all {l : List Nat} (h : ∀ c ∈ l, 48 ≤ c ∧ c ≤ 57) : l.filter isFig = l := by
  rw [List.filter_eq_self]
  intro c hc
  have := h c hc
  unfold isFig
  simp
  omega
/-- how many figures are written -/
def needZ (tp pl : Int) (b : Bool) : Int :=
  (if b = true ∧ ((nd tp.natAbs).length : Int) ≤ pl then pl else if pl + 1 ≤ ((nd tp.natAbs).length : Int) then ((nd tp.natAbs).length : Int) else pl + 1) + (if pl = 0 ∧ b = false then 1 else 0)
theorem figs_len {tp pl : Int} {b : Bool} (h0 : 0 ≤ pl) (hf : pl = 0 ∨ tp.fmod 10 ≠ 0) : (((outL tp pl b).filter isFig).length : Int) = needZ tp pl b := by
  have hs : (sg tp).filter isFig = [] := by unfold sg; split <;> rfl
  have h1 := nd_len_pos tp.natAbs
  rw [outL_split h0]
  simp only [List.filter_append]
  rw [hs, figs_all (ahL_all tp pl b)]
  have e : (46 :: beL tp pl b).filter isFig = beL tp pl b := by
    rw [List.filter_cons_of_neg (by decide), figs_all (beL_all tp pl b)]
  rw [e, List.nil_append, List.length_append]
  unfold ahL beL needZ
  by_cases hp : pl = 0
  · rw [if_pos hp, if_pos hp]
    have h2 : ¬ ((nd tp.natAbs).length : Int) ≤ pl := by omega
    cases b
    · have h3 : pl + 1 ≤ ((nd tp.natAbs).length : Int) := by omega
      simp [hp] at h3 ⊢
      omega
    · have h3 : pl + 1 ≤ ((nd tp.natAbs).length : Int) := by omega
      rw [hp] at h2 h3
      have h4 : ¬ (true = true ∧ ((nd tp.natAbs).length : Int) ≤ 0) := fun h => h2 h.2
      have h5 : ¬ (0 = 0 ∧ true = false) := fun h => Bool.noConfusion h.2
      have e1 : (if true = true then ([] : List Nat) else [48]) = [] := rfl
      rw [hp, if_neg h4, if_pos h3, e1, List.length_nil]
      simp
  · rw [if_neg hp, if_neg hp]
    have hpos : 0 < pl := by omega
    have hz := no_zero hp hf
    have hb := behindL_length (tp := tp) h0
    have ha := aheadL_length (tp := tp) h0
    have hq := padl_length (tp := tp) h0
    have hw := size_pow (tp := tp) hpos
    rw [if_neg (fun h : pl = 0 ∧ b = false => hp h.1)]
    by_cases hc : b = true ∧ ((nd tp.natAbs).length : Int) ≤ pl
    · rw [if_pos hc, if_pos ⟨hc.1, fun h => h.elim (fun h => hw.mp h hc.2) hz⟩, List.length_nil]; omega
    · rw [if_neg hc, if_neg (fun h => hc ⟨h.1, Decidable.not_not.mp fun z => h.2 (.inl (hw.mpr z))⟩)]
      omega
theorem bad_iff {tp pl : Int} {b : Bool} (h0 : 0 ≤ pl) (hf : pl = 0 ∨ tp.fmod 10 ≠ 0) :
    DecBad tp pl b ↔ ¬ (((nd tp.natAbs).length : Int) ≤ 40 ∧ pl ≤ 40) ∨ 40 < needZ tp pl b := by
  have h1 := figs_len (b := b) h0 hf
  have h2 := nd_lt_iff (k := 40) (n := tp.natAbs) (by decide)
  unfold DecBad
  constructor
  · rintro (h | h | h)
    · left; omega
    · left; omega
    · right; omega
  · rintro (h | h)
    · by_cases h3 : ((nd tp.natAbs).length : Int) ≤ 40
      · right; left; omega
      · left; omega
    · right; right; omega
/-- the plain form: figures on both sides, no nought ahead of others -/
theorem plain_ok {tp pl : Int} (h0 : 0 ≤ pl) : 0 < (ahL tp pl false).length ∧ 0 < (beL tp pl false).length ∧ (1 < (ahL tp pl false).length → ∀ r, ahL tp pl false ≠ 48 :: r) := by
  have h1 := nd_len_pos tp.natAbs
  unfold ahL beL
  by_cases hp : pl = 0
  · rw [if_pos hp, if_pos hp, if_neg (by decide)]
    refine ⟨h1, by decide, fun h2 r e => ?_⟩
    have := nd_head e
    rw [e, this] at h2
    simp at h2
  · rw [if_neg hp, if_neg hp, if_neg (by simp)]
    have hb := behindL_length (tp := tp) h0
    have ha := aheadL_length (tp := tp) h0
    have hq := padl_length (tp := tp) h0
    refine ⟨by split at hq <;> omega, by omega, fun h2 r e => ?_⟩
    have hc : pl + 1 ≤ ((nd tp.natAbs).length : Int) := by
      split at hq
      · assumption
      · omega
    have hpad : padl tp pl = nd tp.natAbs := by
      unfold padl
      rw [show (pl + 1 - ((nd tp.natAbs).length : Int)).toNat = 0 by omega]; rfl
    have hx := ah_be tp pl
    rw [e, hpad, List.cons_append] at hx
    have := nd_head hx.symm
    have hl := congrArg List.length this
    rw [List.length_append] at hl
    simp at hl
    rw [hl.1] at e
    rw [e] at h2
    simp at h2
abbrev lawStored : List PySem.Str := [Str.ofString "turn_no", Str.ofString "top", Str.ofString "places", Str.ofString "size", Str.ofString "is_let", Str.ofString "heard", Str.ofString "needed", Str.ofString "worth", Str.ofString "ahead", Str.ofString "behind", Str.ofString "due", Str.ofString "is_least"]
/-- the table of the law's own code, and the codes that it holds by now -/
def TabG (q : PySem.Str) (av : List Addr) (ps : Array Value) (codes : List (Addr × Obj)) : Prop :=
  TriplesOk ps.toList ∧ (∀ pos c, codeAmong pos ps.toList = some c → ∃ a oc vs t, c = .ref a ∧ (a, oc) ∈ codes ∧ oc.data = .fields vs ∧ vs[1]? = some (.str q t)) ∧ (∀ p ∈ codes, ∀ b ∈ av, p.1 ≠ b)
theorem tabG0 {q : PySem.Str} {av : List Addr} : TabG q av #[] [] := ⟨trivial, (fun _ _ h => by cases h), fun _ h => by cases h⟩
theorem TabG.less {q : PySem.Str} {av av' : List Addr} {ps : Array Value} {codes : List (Addr × Obj)} (G : TabG q av ps codes) (h : ∀ b ∈ av', b ∈ av) : TabG q av' ps codes := ⟨G.1, G.2.1, fun p hp b hb => G.2.2 p hp b (h b hb)⟩
theorem TabG.more {q : PySem.Str} {av av' : List Addr} {ps : Array Value} {codes : List (Addr × Obj)} (G : TabG q av ps codes) (h : ∀ p ∈ codes, ∀ b ∈ av', p.1 ≠ b) : TabG q av' ps codes := ⟨G.1, G.2.1, h⟩
theorem among_app {pos pos' : Pos} {v c : Value} : ∀ (l : List Value), TriplesOk l → codeAmong pos (l ++ [rawInt pos'.line, rawInt pos'.col, v]) = some c → codeAmong pos l = some c ∨ c = v := by
  intro l hl
  fun_induction TriplesOk l with
  | case1 =>
    intro h
    simp only [List.nil_append, codeAmong, rawInt] at h
    split at h
    · right; exact (Option.some.inj h).symm
    · cases h
  | case2 a t b u x rest ih =>
    intro h
    simp only [List.cons_append, codeAmong] at h ⊢
    split at h
    · rename_i hh; rw [if_pos hh]; left; exact h
    · rename_i hh; rw [if_neg hh]; exact ih hl h
  | case3 => exact hl.elim
section
variable {M : Model} {A : Around} {E : Value → Shared → Prop} {s : Shared} {h₀ : Heap} {L a c : Addr} {m mg mb : PySem.Str → Option Value} {cn : PySem.Str} {cs : Scope} {ccd : Value} {cl : List (PySem.Str × Addr)} {all : List (Addr × Obj)} {g : Obj → List (Addr × Obj)}
  {p : Program} {loose : List PySem.Str} {mean : ExcName → Option Value} {name q : PySem.Str} {params : Arguments} {body : Expr} {scope : Scope} {ps : Array Value} {pos : Pos} {firstLine : Nat} {clos : List (PySem.Str × Addr)} {codes : List (Addr × Obj)} {av : List Addr}
/-- a lambda is made: its code is found in the table, or is put there -/
theorem lam_any {Q : Value → Shared → Prop} (F : Fr h₀ L s.heap m) (N : News h₀ L s.heap all) (T : Top p loose mean mg mb h₀) (C : CodeHd h₀ c 218) (hcd : ccd = .ref c) (U : UpdF 218 (tabObj ps) all g) (G : TabG q av ps codes) (hcs : ∀ p ∈ codes, p ∈ all) (hav : ∀ b ∈ av, b ∈ all.map (·.1))
    (hcl : closureFor scope (envX cn cs L a ccd cl) = pure clos)
    (h : ∀ f c' oc vs t ctv ps' h' tk, Fr h₀ L h' m →
      News h₀ L h' ((f, kla_obj name q params body scope clos ((mg "__name__").getD .none) c' ctv) :: (c', oc) :: g (tabObj ps')) → TabG q av ps' ((c', oc) :: codes) →
      oc.data = .fields vs → vs[1]? = some (.str q t) → (∀ q ∈ all, q.1 < f) → Q (.ref f) { s with heap := h', toks := tk }) :
    wpAny M A (makeFunction name q params (.expr body) scope (envX cn cs L a ccd cl) [] [] [] pos firstLine) Q E s := by
  obtain ⟨pre, post, hall, hg, h1, h2⟩ := U.split
  have hmem : (218, tabObj ps) ∈ all := by rw [hall]; exact List.mem_append_right _ (.head _)
  have hself : g (tabObj ps) = all := by rw [hg, hall]
  cases hn : codeAmong pos ps.toList with
  | none =>
    refine kla_nest (mg := mg) F N T C hcd U G.1 hn hcl fun f c' oc vs t ctv h' tk F' N' hd hv l1 l2 => ?_
    refine h f c' oc vs t ctv _ h' tk F' N' ⟨?_, fun pos' c hh => ?_, fun p hp b hb => ?_⟩ hd hv fun q hq => Nat.lt_trans (l1 q hq) l2
    · rw [Array.toList_append]; exact TriplesOk_snoc _ _ _ _ G.1
    · rw [Array.toList_append] at hh
      rcases among_app _ G.1 hh with hh | hh
      · obtain ⟨a, oc', vs', t', e, hm, r⟩ := G.2.1 _ _ hh
        exact ⟨a, oc', vs', t', e, .tail _ hm, r⟩
      · exact ⟨c', oc, vs, t, hh, .head _, hd, hv⟩
    · rcases List.mem_cons.mp hp with rfl | hp
      · obtain ⟨q, hq, rfl⟩ := List.mem_map.mp (hav b hb)
        exact Nat.ne_of_gt (l1 _ hq)
      · exact G.2.2 p hp b hb
  | some cv =>
    obtain ⟨c', oc, vs, t, rfl, hm, hd, hv⟩ := G.2.1 _ _ hn
    refine kla_hit (mg := mg) (name := name) (body := body) F N T C hcd hmem G.1 hn hcl fun f ctv h' tk F' N' l1 => ?_
    refine h f c' oc vs t ctv ps h' tk F' ?_ ⟨G.1, fun pos' c hh => ?_, fun p hp b hb => ?_⟩ hd hv l1
    · rw [hself]
      exact fun q hq => by
        rcases List.mem_cons.mp hq with rfl | hq
        · exact N' _ (.head _)
        · rcases List.mem_cons.mp hq with rfl | hq
          · exact N' _ (.tail _ (hcs _ hm))
          · exact N' _ (.tail _ hq)
    · obtain ⟨a, oc', vs', t', e, hm', r⟩ := G.2.1 _ _ hh
      exact ⟨a, oc', vs', t', e, .tail _ hm', r⟩
    · rcases List.mem_cons.mp hp with rfl | hp
      · exact G.2.2 _ hm b hb
      · exact G.2.2 p hp b hb
end
section
variable {prog : Program} {w : World} {A : Around} {E : Value → Shared → Prop} {s : Shared} {env : Env} {h₀ : Heap} {x : PySem.Str} {body : List Stmt} {Q : Flow → Shared → Prop}
/-- a turn's end, of a loop whose ledger may grow -/
def EndG (h₀ : Heap) (L I : Addr) (J : (PySem.Str → Option Value) → List (Addr × Obj) → Prop) (own : List (Addr × Obj)) (s₁ s₂ : Shared) : Prop :=
  ∃ h' tk m' nx, s₂ = { s₁ with heap := h', toks := tk } ∧ Fr h₀ L h' m' ∧ News h₀ L h' (nx ++ own) ∧ (∀ p ∈ nx, p.1 ≠ I) ∧ J m' nx
def TurnG (h₀ : Heap) (L I : Addr) (J : (PySem.Str → Option Value) → List (Addr × Obj) → Prop) (own : List (Addr × Obj)) (s₁ : Shared) (Q : Flow → Shared → Prop) (f : Flow) (s₂ : Shared) : Prop :=
  match f with
  | .ret v => Q (.ret v) s₂
  | .brk => Q .next s₂
  | _ => EndG h₀ L I J own s₁ s₂
theorem loop_G {r : Addr} {t₀ u₀ v₀ : Tok} {m₀ : PySem.Str → Option Value} {news : List (Addr × Obj)} (J : Addr → (PySem.Str → Option Value) → List (Addr × Obj) → Prop)
    (hh : A.handled = none) (hr : IsRange s.heap r 0 3 1 t₀ u₀ v₀) (F : Fr h₀ env.locals s.heap m₀) (N : News h₀ env.locals s.heap news) (hj : ∀ I, (∀ p ∈ news, p.1 < I) → J I m₀ news)
    (turn : ∀ I k t m₁ nx h tk own, J I m₁ nx → (∀ p ∈ nx, p.1 ≠ I) → (∃ o, (I, o) ∈ own) → (∀ p ∈ own, p.1 = I) → Fr h₀ env.locals h (fun y => if y = x then some (.int k t) else m₁ y) → News h₀ env.locals h (nx ++ own) →
      wpAny (model prog w) A (execs body env) (TurnG h₀ env.locals I (J I) own { s with heap := h, toks := tk } Q) E { s with heap := h, toks := tk })
    (done : ∀ I m₁ nx h tk, J I m₁ nx → Fr h₀ env.locals h m₁ → News h₀ env.locals h nx → Q .next { s with heap := h, toks := tk }) :
    wpAny (model prog w) A (pyIter (.ref r)) (fun it s₂ => LoopAtV prog w A h₀ env x body Q E it s₂) E s := by
  refine wpAny_pyIter_range hr (by decide) ?_
  have W : Walks prog w A s.heap.objs.size [s.heap.objs.size] [s.heap.objs.size] 3 (fun i v => i < 3 ∧ ∃ t, v = .int (0 + i * 1) t)
      (fun i h => IsRangeIter h s.heap.objs.size (0 + (i : Nat) * 1) (((3 : Nat) : Int) - (i : Nat)) 1) := (Walks.range hh _ 0 1 3).bound
  refine ⟨s.heap.objs.size, _, _, 3, _, _, m₀, news, fun _ => J s.heap.objs.size, rfl, W, ?_, ?_, ?_, ?_, F.push _, (fun p hp => ⟨Heap.get?_push_of_some _ (N p hp).1, (N p hp).2⟩), hj _ (fun p hp => Heap.lt_size (N p hp).1), ?_, ?_⟩
  · intro hm
    exact absurd F.ns.lt ((List.mem_singleton.mp hm) ▸ Nat.lt_irrefl _)
  · intro b hb
    rw [List.mem_singleton.mp hb]
    exact next_is_new F
  · intro p hp hI
    exact absurd (Heap.lt_size (N p hp).1) ((List.mem_singleton.mp hI) ▸ Nat.lt_irrefl _)
  · show IsRangeIter _ _ _ _ _
    exact Heap.get?_push_size _ rfl
  · rintro i v m₁ nx s₁ own ⟨h, tk, rfl⟩ hi ⟨_, t, rfl⟩ hJ hnx hown hget hall hst F₁ N₁
    have hI : ∃ o, (s.heap.objs.size, o) ∈ own := by
      have hs : ∃ o, h.get? s.heap.objs.size = some o := ⟨_, hst⟩
      obtain ⟨o, ho⟩ := hs
      exact ⟨o, hall _ (List.mem_singleton.mpr rfl) (next_is_new F) o ho⟩
    have hne : ∀ p ∈ nx, p.1 ≠ s.heap.objs.size := fun p hp e => hnx p hp (by rw [e]; exact List.mem_singleton.mpr rfl)
    refine wpAny_mono (turn _ _ t m₁ nx h tk own hJ hne hI (fun p hp => List.mem_singleton.mp (hown p hp)) F₁ (fun p hp => N₁ p ((List.mem_append.mp hp).elim (fun h => List.mem_append.mpr (.inr h)) fun h => List.mem_append.mpr (.inl h)))) (fun f s₂ pq => ?_) fun _ _ e => e
    have fin : EndG h₀ env.locals s.heap.objs.size (J s.heap.objs.size) own { s with heap := h, toks := tk } s₂ → LoopStepU h₀ env.locals [s.heap.objs.size] own (J s.heap.objs.size) { s with heap := h, toks := tk } .next s₂ := by
      rintro ⟨h', tk', m', nx', e, F', N', ho, hJ'⟩
      exact ⟨rfl, h', tk', m', nx', e, F', fun p hp => N' p ((List.mem_append.mp hp).elim (fun h => List.mem_append.mpr (.inr h)) fun h => List.mem_append.mpr (.inl h)), fun p hp hq => ho p hp (List.mem_singleton.mp hq), hJ'⟩
    cases f with
    | ret v => exact .ret pq
    | brk => exact .brk pq
    | next => exact .next (fin pq)
    | cont => exact .cont (fin pq)
  · intro h' tk m' nx F' N' _ hJ
    exact done _ m' nx h' tk hJ F' N'
end
theorem fr_stored {h₀ h : Heap} {L : Addr} {m₁ m₀ : PySem.Str → Option Value} {x : PySem.Str} {v : Value} {st : List PySem.Str} (hm : ∀ z, z ≠ x → (∀ p ∈ ([] : List (PySem.Str × Value)), z ≠ p.1) → st.contains z = false → m₁ z = m₀ z)
    (F : Fr h₀ L h (fun y => if y = x then some v else m₁ y)) : Fr h₀ L h (fun y => if y = x then some v else if st.contains y then m₁ y else m₀ y) := by
  have e : (fun y => if y = x then some v else m₁ y) = fun y => if y = x then some v else if st.contains y then m₁ y else m₀ y := by
    funext y
    by_cases h1 : y = x
    · rw [if_pos h1, if_pos h1]
    · rw [if_neg h1, if_neg h1]
      cases h2 : st.contains y with
      | true => rfl
      | false => exact hm y h1 (fun _ h => by cases h) h2
  rw [← e]; exact F
theorem fr_stored1 {h₀ h : Heap} {L : Addr} {m₁ m₀ : PySem.Str → Option Value} {x : PySem.Str} {st : List PySem.Str} (hx : st.contains x = true) (hm : ∀ z, z ≠ x → (∀ p ∈ ([] : List (PySem.Str × Value)), z ≠ p.1) → st.contains z = false → m₁ z = m₀ z)
    (F : Fr h₀ L h m₁) : Fr h₀ L h (fun y => if st.contains y then m₁ y else m₀ y) := by
  have e : m₁ = fun y => if st.contains y then m₁ y else m₀ y := by
    funext y
    cases h2 : st.contains y with
    | true => rfl
    | false => exact hm y (fun e => by rw [e, hx] at h2; cases h2) (fun _ h => by cases h) h2
  rw [← e]; exact F
/-- what the law's own outer loop keeps -/
def LawJ (pa qa c3 c2 c1 : Addr) (q x : PySem.Str) (m₀ : PySem.Str → Option Value) (I : Addr) (m : PySem.Str → Option Value) (nx : List (Addr × Obj)) : Prop :=
  ∃ o1 o2 x3 x2 x1 ps codes, Pen qa o1 o2 ∧ (∃ v, x3.data = .cell v) ∧ (∃ v, x2.data = .cell v) ∧ (∃ v, x1.data = .cell v) ∧ TabG q [I, pa, qa, c3, c2, c1, 218] ps codes ∧
    nx = (pa, o1) :: (qa, o2) :: (c3, x3) :: (c2, x2) :: (c1, x1) :: (218, tabObj ps) :: codes ∧ (∀ z, z ≠ x → (∀ p ∈ ([] : List (PySem.Str × Value)), z ≠ p.1) → lawStored.contains z = false → m z = m₀ z)
section
variable {prog : Program} {w : World} {A : Around} {E : Value → Shared → Prop} {s : Shared} {env : Env} {h₀ : Heap} {x q : PySem.Str} {body : List Stmt} {Q : Flow → Shared → Prop}
theorem law_iter2 {pa qa c3 c2 c1 : Addr} {o1 o2 x3 x2 x1 : Obj} {r : Addr} {t₀ u₀ v₀ : Tok} {m₀ : PySem.Str → Option Value} (q : PySem.Str)
    (hh : A.handled = none) (hr : IsRange s.heap r 0 3 1 t₀ u₀ v₀) (F : Fr h₀ env.locals s.heap m₀) (N : News h₀ env.locals s.heap [(pa, o1), (qa, o2), (c3, x3), (c2, x2), (c1, x1), (218, tabObj #[])])
    (hP : Pen qa o1 o2) (h3 : ∃ v, x3.data = .cell v) (h2 : ∃ v, x2.data = .cell v) (h1 : ∃ v, x1.data = .cell v)
    (turn : ∀ I o1' o2' x3' x2' x1' ps codes k t (u : PySem.Str → Option Value) h tk own tl, Pen qa o1' o2' → (∃ v, x3'.data = .cell v) → (∃ v, x2'.data = .cell v) → (∃ v, x1'.data = .cell v) →
      TabG q [I, pa, qa, c3, c2, c1, 218] ps codes → (∀ p ∈ codes, p ∈ tl) → (∀ p ∈ own, p ∈ tl) → (∃ o, (I, o) ∈ own) → (∀ b ∈ [pa, qa, c3, c2, c1, 218], b ≠ I) → OwnOff tl [pa, qa, c3, c2, c1, 218] → OwnOff own [pa, qa, c3, c2, c1, 218] → (∀ p ∈ tl, p ∈ codes ∨ p ∈ own) →
      Fr h₀ env.locals h (fun y => if y = x then some (.int k t) else if lawStored.contains y then u y else m₀ y) → News h₀ env.locals h ((pa, o1') :: (qa, o2') :: (c3, x3') :: (c2, x2') :: (c1, x1') :: (218, tabObj ps) :: tl) →
      wpAny (model prog w) A (execs body env) (TurnG h₀ env.locals I (LawJ pa qa c3 c2 c1 q x m₀ I) own { s with heap := h, toks := tk } Q) E { s with heap := h, toks := tk })
    (done : ∀ m ps h tk, Fr h₀ env.locals h m → News h₀ env.locals h [(218, tabObj ps)] → Q .next { s with heap := h, toks := tk }) :
    wpAny (model prog w) A (pyIter (.ref r)) (fun it s₂ => LoopAtV prog w A h₀ env x body Q E it s₂) E s := by
  refine loop_G (LawJ pa qa c3 c2 c1 q x m₀) hh hr F N (fun I _ => ⟨o1, o2, x3, x2, x1, #[], [], hP, h3, h2, h1, tabG0, rfl, fun _ _ _ _ => rfl⟩) ?_ ?_
  · rintro I k t m₁ nx h tk own ⟨o1', o2', x3', x2', x1', ps, codes, b1, b2, b3, b4, b5, rfl, b6⟩ hnx hI hown F₁ N₁
    have hne : ∀ b ∈ [pa, qa, c3, c2, c1, 218], b ≠ I := by
      intro b hb
      simp only [List.mem_cons, List.not_mem_nil, or_false] at hb
      rcases hb with rfl | rfl | rfl | rfl | rfl | rfl
      · exact hnx _ (.head _)
      · exact hnx _ (.tail _ (.head _))
      · exact hnx _ (.tail _ (.tail _ (.head _)))
      · exact hnx _ (.tail _ (.tail _ (.tail _ (.head _))))
      · exact hnx _ (.tail _ (.tail _ (.tail _ (.tail _ (.head _)))))
      · exact hnx _ (.tail _ (.tail _ (.tail _ (.tail _ (.tail _ (.head _))))))
    have hoo : OwnOff own [pa, qa, c3, c2, c1, 218] := fun p hp b hb => by rw [hown p hp]; exact (hne b hb).symm
    refine turn I o1' o2' x3' x2' x1' ps codes k t m₁ h tk own (codes ++ own) b1 b2 b3 b4 b5 (fun p hp => List.mem_append_left _ hp) (fun p hp => List.mem_append_right _ hp) hI hne (fun p hp b hb => ?_) hoo (fun p hp => List.mem_append.mp hp) (fr_stored b6 F₁) N₁
    rcases List.mem_append.mp hp with hp | hp
    · exact b5.2.2 p hp b (.tail _ hb)
    · exact hoo p hp b hb
  · rintro I m₁ nx h tk ⟨_, _, _, _, _, ps, _, _, _, _, _, _, rfl, _⟩ F' N'
    exact done m₁ ps h tk F' fun p hp => N' p (by rw [List.mem_singleton.mp hp]; exact .tail _ (.tail _ (.tail _ (.tail _ (.tail _ (.head _))))))
theorem law_end {pa qa c3 c2 c1 I : Addr} {o1 o2 x3 x2 x1 : Obj} {ps : Array Value} {codes own all : List (Addr × Obj)} {m₀ m' : PySem.Str → Option Value} {L : Addr} {h' : Heap} {tk : Nat} (F : Fr h₀ L h' m') (N : News h₀ L h' all)
    (hs : ∀ p ∈ [(pa, o1), (qa, o2), (c3, x3), (c2, x2), (c1, x1), (218, tabObj ps)], p ∈ all) (hcs : ∀ p ∈ codes, p ∈ all) (hos : ∀ p ∈ own, p ∈ all)
    (hP : Pen qa o1 o2) (h3 : ∃ v, x3.data = .cell v) (h2 : ∃ v, x2.data = .cell v) (h1 : ∃ v, x1.data = .cell v) (G : TabG q [I, pa, qa, c3, c2, c1, 218] ps codes) (hI : ∀ b ∈ [pa, qa, c3, c2, c1, 218], b ≠ I)
    (hm : ∀ z, z ≠ x → (∀ p ∈ ([] : List (PySem.Str × Value)), z ≠ p.1) → lawStored.contains z = false → m' z = m₀ z) :
    EndG h₀ L I (LawJ pa qa c3 c2 c1 q x m₀ I) own s { s with heap := h', toks := tk } := by
  refine ⟨h', tk, m', _, rfl, F, fun p hp => N p ?_, fun p hp => ?_, o1, o2, x3, x2, x1, ps, codes, hP, h3, h2, h1, G, rfl, hm⟩
  · rcases List.mem_append.mp hp with hp | hp
    · simp only [List.mem_cons] at hp hs
      rcases hp with rfl | rfl | rfl | rfl | rfl | rfl | hp
      · exact hs _ (.inl rfl)
      · exact hs _ (.inr (.inl rfl))
      · exact hs _ (.inr (.inr (.inl rfl)))
      · exact hs _ (.inr (.inr (.inr (.inl rfl))))
      · exact hs _ (.inr (.inr (.inr (.inr (.inl rfl)))))
      · exact hs _ (.inr (.inr (.inr (.inr (.inr (.inl rfl))))))
      · exact hcs p hp
    · exact hos p hp
  · simp only [List.mem_cons] at hp
    rcases hp with rfl | rfl | rfl | rfl | rfl | rfl | hp
    · exact hI _ (by simp)
    · exact hI _ (by simp)
    · exact hI _ (by simp)
    · exact hI _ (by simp)
    · exact hI _ (by simp)
    · exact hI _ (by simp)
    · exact G.2.2 p hp I (.head _)
abbrev inStored : List PySem.Str := [Str.ofString "is_least", Str.ofString "heard", Str.ofString "needed", Str.ofString "worth", Str.ofString "ahead", Str.ofString "behind"]
/-- what the inner loop keeps -/
def InnJ (c1 : Addr) (q : PySem.Str) (av : List Addr) (rest : List (Addr × Obj)) (m₀ : PySem.Str → Option Value) (I : Addr) (m : PySem.Str → Option Value) (nx : List (Addr × Obj)) : Prop :=
  ∃ x1 ps codes, (∃ v, x1.data = .cell v) ∧ TabG q (I :: av) ps codes ∧ nx = (c1, x1) :: (218, tabObj ps) :: (codes ++ rest) ∧ (∀ z, z ≠ Str.ofString "is_least" → (∀ p ∈ ([] : List (PySem.Str × Value)), z ≠ p.1) → inStored.contains z = false → m z = m₀ z)
theorem inner_two {target : Expr} {c1 ax : Addr} {lo x1 : Obj} {ps : Array Value} {codes lit own : List (Addr × Obj)} {n : Nat} {m₀ : PySem.Str → Option Value} {av : List Addr} (q : PySem.Str)
    (hh : A.handled = none) (F : Fr h₀ env.locals s.heap m₀) (N : News h₀ env.locals s.heap ((c1, x1) :: (218, tabObj ps) :: (codes ++ (lit ++ own)))) (hm : (ax, lo) ∈ lit) (hc : lo.cls = .type "tuple") (hd : lo.data = .seq [.bool true, .bool false].toArray n)
    (h1 : ∃ v, x1.data = .cell v) (G : TabG q av ps codes) (hav : c1 ∈ av ∧ 218 ∈ av) (hoo : ∀ p ∈ own, p.1 ≠ c1 ∧ p.1 ≠ 218)
    (turn : ∀ (b : Bool) I it x1' ps' codes' (u : PySem.Str → Option Value) h tk tl, it.cls = .type "tuple_iterator" → (∃ v, x1'.data = .cell v) → TabG q (I :: av) ps' codes' → (∀ p ∈ codes', p ∈ tl) → (∀ p ∈ own, p ∈ tl) → (∀ p ∈ tl, p.1 ≠ c1) → (∀ p ∈ tl, p.1 ≠ 218) → (∀ p ∈ tl, p.1 ≠ I) →
      c1 < I → 218 < I → (∀ p ∈ lit, p.1 < I) → (∀ p ∈ own, p.1 < I) →
      Fr h₀ env.locals h (fun y => if inStored.contains y then u y else m₀ y) → News h₀ env.locals h ((I, it) :: (c1, x1') :: (218, tabObj ps') :: (lit ++ tl)) →
      wpAny (model prog w) A (assign target env (.bool b)) (fun _ s₂ => wpAny (model prog w) A (execs body env) (UnrPostW h₀ env.locals { s with heap := h, toks := tk } [(I, it)] (InnJ c1 q av (lit ++ own) m₀ I) Q) E s₂) E { s with heap := h, toks := tk })
    (done : ∀ x1' ps' codes' (u : PySem.Str → Option Value) h tk tl, (∃ v, x1'.data = .cell v) → TabG q av ps' codes' → (∀ p ∈ codes', p ∈ tl) → (∀ p ∈ own, p ∈ tl) → (∀ p ∈ tl, p ∈ codes' ∨ p ∈ own) →
      Fr h₀ env.locals h (fun y => if inStored.contains y then u y else m₀ y) → News h₀ env.locals h ((c1, x1') :: (218, tabObj ps') :: (lit ++ tl)) → Q .next { s with heap := h, toks := tk }) :
    wpAny (model prog w) A (pyIter (.ref ax)) (fun it s₂ => TurnsAt prog w A h₀ env target body Q E it s₂) E s := by
  have hm' : (ax, lo) ∈ (c1, x1) :: (218, tabObj ps) :: (codes ++ (lit ++ own)) := .tail _ (.tail _ (List.mem_append_right _ (List.mem_append_left _ hm)))
  refine iter_tupTurns hh F N hm' hc hd fun I hI => ?_
  have l1 : c1 < I := hI _ (.head _)
  have l2 : 218 < I := hI _ (.tail _ (.head _))
  have l3 : ∀ p ∈ lit, p.1 < I := fun p hp => hI p (.tail _ (.tail _ (List.mem_append_right _ (List.mem_append_left _ hp))))
  have l4 : ∀ p ∈ own, p.1 < I := fun p hp => hI p (.tail _ (.tail _ (List.mem_append_right _ (List.mem_append_right _ hp))))
  have j0 : InnJ c1 q av (lit ++ own) m₀ I m₀ ((c1, x1) :: (218, tabObj ps) :: (codes ++ (lit ++ own))) :=
    ⟨x1, ps, codes, h1, ⟨G.1, G.2.1, fun p hp b hb => by
      rcases List.mem_cons.mp hb with rfl | hb
      · exact Nat.ne_of_lt (hI p (.tail _ (.tail _ (List.mem_append_left _ hp))))
      · exact G.2.2 p hp b hb⟩, rfl, fun _ _ _ _ => rfl⟩
  have fin : ∀ m nx, InnJ c1 q av (lit ++ own) m₀ I m nx → ItemsRest prog w A E h₀ env target body Q s [(I, "tuple_iterator")] [(ax, lo)] [] m nx := by
    rintro m nx ⟨x1', ps', codes', e1, e2, rfl, e3⟩
    refine ItemsRest.zero fun h tk F' N' => ?_
    refine done x1' ps' codes' m h tk (codes' ++ own) e1 (e2.less fun b hb => .tail _ hb) (fun p hp => List.mem_append_left _ hp) (fun p hp => List.mem_append_right _ hp) (fun p hp => List.mem_append.mp hp) (fr_stored1 (by decide) e3 F') fun p hp => N' p ?_
    rcases List.mem_cons.mp hp with rfl | hp
    · exact .head _
    rcases List.mem_cons.mp hp with rfl | hp
    · exact .tail _ (.head _)
    refine .tail _ (.tail _ ?_)
    rcases List.mem_append.mp hp with hp | hp
    · exact List.mem_append_right _ (List.mem_append_left _ hp)
    · rcases List.mem_append.mp hp with hp | hp
      · exact List.mem_append_left _ hp
      · exact List.mem_append_right _ (List.mem_append_right _ hp)
  have step : ∀ (b : Bool) r, (∀ m nx, InnJ c1 q av (lit ++ own) m₀ I m nx → ItemsRest prog w A E h₀ env target body Q s [(I, "tuple_iterator")] [(ax, lo)] r m nx) →
      ∀ m nx, InnJ c1 q av (lit ++ own) m₀ I m nx → ItemsRest prog w A E h₀ env target body Q s [(I, "tuple_iterator")] [(ax, lo)] (.val (.bool b) :: r) m nx := by
    rintro b r hr m nx ⟨x1', ps', codes', e1, e2, rfl, e3⟩
    refine ItemsRest.val fun h tk F' => AllObj.cons fun it hit => AllObj.nil fun N' => ?_
    have hlit : ∀ p ∈ codes' ++ own, p.1 ≠ c1 ∧ p.1 ≠ 218 ∧ p.1 ≠ I := fun p hp => by
      rcases List.mem_append.mp hp with hp | hp
      · exact ⟨e2.2.2 p hp _ (.tail _ hav.1), e2.2.2 p hp _ (.tail _ hav.2), e2.2.2 p hp _ (.head _)⟩
      · exact ⟨(hoo p hp).1, (hoo p hp).2, Nat.ne_of_lt (l4 p hp)⟩
    refine wpAny_mono (turn b I it x1' ps' codes' m h tk (codes' ++ own) hit e1 e2 (fun p hp => List.mem_append_left _ hp) (fun p hp => List.mem_append_right _ hp) (fun p hp => (hlit p hp).1) (fun p hp => (hlit p hp).2.1) (fun p hp => (hlit p hp).2.2) l1 l2 l3 l4 (fr_stored1 (by decide) e3 F') (fun p hp => N' p ?_)) (fun _ s₂ h₂ => wpAny_mono h₂ (fun f s₃ h₃ => ?_) fun _ _ e => e) fun _ _ e => e
    · rcases List.mem_cons.mp hp with rfl | hp
      · exact .head _
      rcases List.mem_cons.mp hp with rfl | hp
      · exact .tail _ (.head _)
      rcases List.mem_cons.mp hp with rfl | hp
      · exact .tail _ (.tail _ (.head _))
      refine .tail _ (.tail _ (.tail _ ?_))
      rcases List.mem_append.mp hp with hp | hp
      · exact List.mem_append_right _ (List.mem_append_left _ hp)
      · rcases List.mem_append.mp hp with hp | hp
        · exact List.mem_append_left _ hp
        · exact List.mem_append_right _ (List.mem_append_right _ hp)
    · have up : UnrEndW h₀ env.locals { s with heap := h, toks := tk } [(I, it)] (InnJ c1 q av (lit ++ own) m₀ I) s₃ → UnrEndW h₀ env.locals { s with heap := h, toks := tk } [(I, it)] (fun m' n' => SubL [(ax, lo)] n' ∧ ItemsRest prog w A E h₀ env target body Q s [(I, "tuple_iterator")] [(ax, lo)] r m' n') s₃ := by
        rintro ⟨h', tk', m', n', e, F'', N'', ho, hj⟩
        refine ⟨h', tk', m', n', e, F'', N'', ho, ?_, hr _ _ hj⟩
        obtain ⟨_, _, _, _, _, rfl, _⟩ := hj
        exact ⟨.tail _ (.tail _ (List.mem_append_right _ (List.mem_append_left _ hm))), trivial⟩
      cases f with
      | ret v => exact h₃
      | brk => exact h₃
      | next => exact up h₃
      | cont => exact up h₃
  exact step true _ (fun m nx hj => step false _ fin m nx hj) _ _ j0
theorem inn_end {c1 I : Addr} {it x1 : Obj} {ps : Array Value} {codes rest all : List (Addr × Obj)} {m₀ m' : PySem.Str → Option Value} {L : Addr} {h' : Heap} {tk : Nat} {av : List Addr} (F : Fr h₀ L h' m') (N : News h₀ L h' all)
    (hi : (I, it) ∈ all) (hx : (c1, x1) ∈ all) (ht : (218, tabObj ps) ∈ all) (hcs : ∀ p ∈ codes, p ∈ all) (hr : ∀ p ∈ rest, p ∈ all)
    (h1 : ∃ v, x1.data = .cell v) (G : TabG q (I :: av) ps codes) (l1 : @LT.lt Nat _ c1 I) (l2 : @LT.lt Nat _ 218 I) (l3 : ∀ p ∈ rest, @LT.lt Nat _ p.1 I)
    (hm : ∀ z, z ≠ Str.ofString "is_least" → (∀ p ∈ ([] : List (PySem.Str × Value)), z ≠ p.1) → inStored.contains z = false → m' z = m₀ z) :
    UnrEndW h₀ L s [(I, it)] (InnJ c1 q av rest m₀ I) { s with heap := h', toks := tk } := by
  refine ⟨h', tk, m', _, rfl, F, fun p hp => N p ?_, fun p hp i hi' => ?_, x1, ps, codes, h1, G, rfl, hm⟩
  · rcases List.mem_cons.mp hp with rfl | hp
    · exact hi
    rcases List.mem_cons.mp hp with rfl | hp
    · exact hx
    rcases List.mem_cons.mp hp with rfl | hp
    · exact ht
    rcases List.mem_append.mp hp with hp | hp
    · exact hcs p hp
    · exact hr p hp
  · rw [List.mem_singleton.mp hi']
    rcases List.mem_cons.mp hp with rfl | hp
    · exact Nat.ne_of_lt l1
    rcases List.mem_cons.mp hp with rfl | hp
    · exact Nat.ne_of_lt l2
    rcases List.mem_append.mp hp with hp | hp
    · exact G.2.2 p hp I (.head _)
    · exact Nat.ne_of_lt (l3 p hp)
theorem inner_law {target : Expr} {ax y x' dx pa qa c3 c2 c1 I : Addr} {lo oy ox odx op oq x3 x2 x1 : Obj} {ps : Array Value} {codes own tl : List (Addr × Obj)} {n : Nat} {m₀ : PySem.Str → Option Value}
    (hh : A.handled = none) (F : Fr h₀ env.locals s.heap m₀) (N : News h₀ env.locals s.heap ((ax, lo) :: (y, oy) :: (x', ox) :: (dx, odx) :: (pa, op) :: (qa, oq) :: (c3, x3) :: (c2, x2) :: (c1, x1) :: (218, tabObj ps) :: tl)) (hc : lo.cls = .type "tuple") (hd : lo.data = .seq [.bool true, .bool false].toArray n)
    (h1 : ∃ v, x1.data = .cell v) (G : TabG q [I, pa, qa, c3, c2, c1, 218] ps codes) (hcs : ∀ p ∈ codes, p ∈ tl) (hos : ∀ p ∈ own, p ∈ tl) (hoo : OwnOff own [pa, qa, c3, c2, c1, 218])
    (turn : ∀ (b : Bool) J it x1' ps' codes' (u : PySem.Str → Option Value) h tk tl', it.cls = .type "tuple_iterator" → (∃ v, x1'.data = .cell v) → TabG q [J, I, pa, qa, c3, c2, c1, 218] ps' codes' → (∀ p ∈ codes', p ∈ tl') → (∀ p ∈ own, p ∈ tl') → (∀ p ∈ tl', p.1 ≠ c1) → (∀ p ∈ tl', p.1 ≠ 218) → (∀ p ∈ tl', p.1 ≠ J) →
      ((@LT.lt Nat _ c1 J) ∧ (@LT.lt Nat _ 218 J) ∧ (@LT.lt Nat _ ax J) ∧ (@LT.lt Nat _ x' J) ∧ (@LT.lt Nat _ dx J) ∧ (@LT.lt Nat _ pa J) ∧ (@LT.lt Nat _ qa J) ∧ (@LT.lt Nat _ c3 J) ∧ (@LT.lt Nat _ c2 J)) → (∀ p ∈ own, p.1 < J) →
      Fr h₀ env.locals h (fun y => if inStored.contains y then u y else m₀ y) → News h₀ env.locals h ((J, it) :: (c1, x1') :: (218, tabObj ps') :: (ax, lo) :: (x', ox) :: (dx, odx) :: (pa, op) :: (qa, oq) :: (c3, x3) :: (c2, x2) :: tl') →
      wpAny (model prog w) A (assign target env (.bool b)) (fun _ s₂ => wpAny (model prog w) A (execs body env) (UnrPostW h₀ env.locals { s with heap := h, toks := tk } [(J, it)] (InnJ c1 q [I, pa, qa, c3, c2, c1, 218] ([(ax, lo), (x', ox), (dx, odx), (pa, op), (qa, oq), (c3, x3), (c2, x2)] ++ own) m₀ J) Q) E s₂) E { s with heap := h, toks := tk })
    (done : ∀ x1' ps' codes' (u : PySem.Str → Option Value) h tk tl', (∃ v, x1'.data = .cell v) → TabG q [I, pa, qa, c3, c2, c1, 218] ps' codes' → (∀ p ∈ codes', p ∈ tl') → (∀ p ∈ own, p ∈ tl') → OwnOff tl' [pa, qa, c3, c2, c1, 218] →
      Fr h₀ env.locals h (fun y => if inStored.contains y then u y else m₀ y) → News h₀ env.locals h ((pa, op) :: (qa, oq) :: (c3, x3) :: (c2, x2) :: (c1, x1') :: (218, tabObj ps') :: tl') → Q .next { s with heap := h, toks := tk }) :
    wpAny (model prog w) A (pyIter (.ref ax)) (fun it s₂ => TurnsAt prog w A h₀ env target body Q E it s₂) E s := by
  refine inner_two (lit := [(ax, lo), (x', ox), (dx, odx), (pa, op), (qa, oq), (c3, x3), (c2, x2)]) (own := own) (codes := codes) (c1 := c1) (x1 := x1) (ps := ps) (ax := ax) (lo := lo) (av := [I, pa, qa, c3, c2, c1, 218]) q hh F (fun p hp => N p ?_) (.head _) hc hd h1 G ⟨by simp, by simp⟩ (fun p hp => ⟨hoo p hp _ (by simp), hoo p hp _ (by simp)⟩) ?_ ?_
  · simp only [List.mem_cons, List.mem_append, List.not_mem_nil, or_false] at hp ⊢
    rcases hp with h | h | h | (h | h | h | h | h | h | h) | h
    · simp [h]
    · simp [h]
    · simp [hcs p h]
    · simp [h]
    · simp [h]
    · simp [h]
    · simp [h]
    · simp [h]
    · simp [h]
    · simp [h]
    · simp [hos p h]
  · intro b J it x1' ps' codes' u h tk tl' a1 a2 a3 a4 a5 a6 a7 a8 a9 a10 a11 a12 F' N'
    refine turn b J it x1' ps' codes' u h tk tl' a1 a2 a3 a4 a5 a6 a7 a8 ⟨a9, a10, ?_⟩ a12 F' N'
    exact ⟨a11 (ax, lo) (by simp), a11 (x', ox) (by simp), a11 (dx, odx) (by simp), a11 (pa, op) (by simp), a11 (qa, oq) (by simp), a11 (c3, x3) (by simp), a11 (c2, x2) (by simp)⟩
  · intro x1' ps' codes' u h tk tl' a1 a2 a3 a4 a5 F' N'
    refine done x1' ps' codes' u h tk tl' a1 a2 a3 a4 (fun p hp b hb => ?_) F' fun p hp => N' p ?_
    · rcases a5 p hp with h | h
      · exact a2.2.2 p h b (.tail _ hb)
      · exact hoo p h b hb
    · simp only [List.mem_cons, List.mem_append, List.not_mem_nil, or_false] at hp ⊢
      rcases hp with h | h | h | h | h | h | h <;> simp [h]
end
theorem raisedN_drop {base : Heap} {l : List Env} {e : Addr} {cls : Value} {news n' : List (Addr × Obj)} {h : Heap} (R : RaisedN base l e cls news h) (hs : ∀ q ∈ n', q ∈ news) : RaisedN base l e cls n' h := by
  obtain ⟨B, a0, hB, hl, hfl⟩ := R
  exact ⟨B, a0, hB, fun q hq => hl q (hs q hq), hfl⟩
section
variable {w : World} {p : Program} {loose : List PySem.Str} {mean : ExcName → Option Value} {mg mb : PySem.Str → Option Value}
    {dp un : Nat} {gd : Option (List Code)} {cn : PySem.Str} {cs : Scope} {a : Addr} {ccd : Value} {cl : List (PySem.Str × Addr)} {outer : List Env} {A₀ : Around} {base h₀ : Heap} {L : Addr} {m : PySem.Str → Option Value} {s : Shared} {Q E : Value → Shared → Prop}
theorem dec_use {x dx : Addr} {tp pl : Int} {b : Bool} {ta tb tc td : Tok} {ALL : List (Addr × Obj)}
    (Bl : Below A₀ base outer h₀) (F : Fr h₀ L s.heap m) (X : (hd.heap_39 w.params).In h₀) (N : News h₀ L s.heap ALL) (T : Top p loose mean mg mb h₀) (hk : cs.kind = .function)
    (kd : dp + 300 < recursionLimit) (ku : un + 1200 < cLine) (hx : (x, instObj 160 dx) ∈ ALL) (hdx : (dx, decDict w tp pl ta tb tc td) ∈ ALL) (hp0 : 0 ≤ pl) (hp1 : pl ≤ 41) (ht : tp.natAbs < 10 ^ 42)
    (err : ∀ e h' tk' G, DecBad tp pl b → Fr h₀ L G m → RaisedN base (envX cn cs L a ccd cl :: outer) e (.ref 46) ALL h' → G.UpToSlots h' → E (.ref e) { s with heap := h', toks := tk' })
    (ret : ∀ t' h' tk', ¬ DecBad tp pl b → Fr h₀ L h' m → News h₀ L h' ALL → Q (.bytes (B (outL tp pl b)) t') { s with heap := h', toks := tk' }) :
    wpAny (model PySem.Challenge.rw_og0141_01.row.prog w) (ktrTop dp un gd cn cs L a ccd cl outer) (call (.ref 66) [.ref x, .bool b]) Q E s := by
  refine callOfE_use (decoct_spec w b x dx tp pl ta tb tc td ALL hp0 hp1 ht) Bl F X (cb_drop N fun q hq => ?_) T hk kd ku (fun e h' tk' G hb FG R U => err e h' tk' G hb FG (raisedN_drop R fun q hq => .tail _ (.tail _ hq)) U) fun v n' h' tk' hp F' N' => ?_
  · rcases List.mem_cons.mp hq with rfl | hq
    · exact hx
    · rcases List.mem_cons.mp hq with rfl | hq
      · exact hdx
      · exact hq
  · obtain ⟨t', rfl, rfl, hb⟩ := hp
    exact ret t' h' tk' hb F' (cb_drop N' fun q hq => .tail _ (.tail _ hq))
theorem whole_use {n : Int} {t : Tok} {ALL : List (Addr × Obj)}
    (Bl : Below A₀ base outer h₀) (F : Fr h₀ L s.heap m) (X : (hd.heap_39 w.params).In h₀) (N : News h₀ L s.heap ALL) (T : Top p loose mean mg mb h₀) (hk : cs.kind = .function)
    (kd : dp + 200 < recursionLimit) (ku : un + 1000 < cLine) (hn : n.natAbs < 10 ^ 42)
    (err : ∀ e h' tk' G, 10 ^ 40 ≤ n.natAbs → Fr h₀ L G m → RaisedN base (envX cn cs L a ccd cl :: outer) e (.ref 46) ALL h' → G.UpToSlots h' → E (.ref e) { s with heap := h', toks := tk' })
    (ret : ∀ t' h' tk', n.natAbs < 10 ^ 40 → Fr h₀ L h' m → News h₀ L h' ALL → Q (.bytes (B (idg n)) t') { s with heap := h', toks := tk' }) :
    wpAny (model PySem.Challenge.rw_og0141_01.row.prog w) (ktrTop dp un gd cn cs L a ccd cl outer) (call (.ref 61) [.int n t]) Q E s := by
  refine callOfE_use (whole_spec w n t ALL hn) Bl F X N T hk kd ku err fun v n' h' tk' hp F' N' => ?_
  obtain ⟨t', rfl, rfl, hb⟩ := hp
  exact ret t' h' tk' hb F' N'
/-- _law_heard of a lambda over decimal_octets -/
theorem heard_dec {f c' x dx : Addr} {x1 : Obj} {b : Bool} {tp pl : Int} {ta tb tc td : Tok} {name qual : PySem.Str} {params : Arguments} {body : Expr} {scope : Scope} {clos : List (PySem.Str × Addr)} {pm ctv : Value} {rest : List (Addr × Obj)}
    (X : (hd.heap_39 w.params).In h₀) (Bl : Below A₀ h₀ [] h₀) (F : Fr h₀ L s.heap m) (N : News h₀ L s.heap ((f, kla_obj name qual params body scope clos pm c' ctv) :: rest)) (T : Top p loose mean mg mb h₀) (hk : cs.kind = .function)
    (kd : dp + 500 < recursionLimit) (ku : un + 2000 < cLine) (_hx : (x, instObj 160 dx) ∈ rest) (_hdx : (dx, decDict w tp pl ta tb tc td) ∈ rest) (_h1 : x1.data = .cell (some (.bool b)))
    (C : CallOfE w f [] ((f, kla_obj name qual params body scope clos pm c' ctv) :: rest) 400 1600 (fun v news' => ∃ t', v = .bytes (B (outL tp pl b)) t' ∧ news' = ((f, kla_obj name qual params body scope clos pm c' ctv) :: rest) ∧ ¬ DecBad tp pl b) (DecBad tp pl b))
    (ret : ∀ t' h' tk', ¬ DecBad tp pl b → Fr h₀ L h' m → News h₀ L h' rest → Q (.bytes (B (outL tp pl b)) t') { s with heap := h', toks := tk' })
    (bad : ∀ t' h' tk', DecBad tp pl b → Fr h₀ L h' m → News h₀ L h' rest → Q (.str (Str.ofString "refused") t') { s with heap := h', toks := tk' }) :
    wpAny (model PySem.Challenge.rw_og0141_01.row.prog w) (ktrTop dp un gd cn cs L a ccd cl []) (call (.ref 216) [.ref f]) Q E s := by
  refine heard_spec w (by decide) (by decide) C p loose mean mg mb dp un gd cn cs a ccd cl A₀ h₀ L m s Q E X Bl F N T hk kd ku (fun v n' h' tk' hp F' N' => ?_) fun t h' tk' hb F' N' => bad t h' tk' hb F' (cb_drop N' fun q hq => .tail _ hq)
  obtain ⟨t', rfl, rfl, hb⟩ := hp
  exact ret t' h' tk' hb F' (cb_drop N' fun q hq => .tail _ hq)
/-- _law_heard of a lambda over whole_octets -/
theorem heard_whole {f c' : Addr} {x3 : Obj} {n : Int} {tn : Tok} {name qual : PySem.Str} {params : Arguments} {body : Expr} {scope : Scope} {clos : List (PySem.Str × Addr)} {pm ctv : Value} {rest : List (Addr × Obj)}
    (X : (hd.heap_39 w.params).In h₀) (Bl : Below A₀ h₀ [] h₀) (F : Fr h₀ L s.heap m) (N : News h₀ L s.heap ((f, kla_obj name qual params body scope clos pm c' ctv) :: rest)) (T : Top p loose mean mg mb h₀) (hk : cs.kind = .function)
    (kd : dp + 500 < recursionLimit) (ku : un + 2000 < cLine) (_h3 : x3.data = .cell (some (.int n tn)))
    (C : CallOfE w f [] ((f, kla_obj name qual params body scope clos pm c' ctv) :: rest) 400 1600 (fun v news' => ∃ t', v = .bytes (B (idg n)) t' ∧ news' = ((f, kla_obj name qual params body scope clos pm c' ctv) :: rest) ∧ n.natAbs < 10 ^ 40) (10 ^ 40 ≤ n.natAbs))
    (ret : ∀ t' h' tk', n.natAbs < 10 ^ 40 → Fr h₀ L h' m → News h₀ L h' rest → Q (.bytes (B (idg n)) t') { s with heap := h', toks := tk' })
    (bad : ∀ t' h' tk', 10 ^ 40 ≤ n.natAbs → Fr h₀ L h' m → News h₀ L h' rest → Q (.str (Str.ofString "refused") t') { s with heap := h', toks := tk' }) :
    wpAny (model PySem.Challenge.rw_og0141_01.row.prog w) (ktrTop dp un gd cn cs L a ccd cl []) (call (.ref 216) [.ref f]) Q E s := by
  refine heard_spec w (by decide) (by decide) C p loose mean mg mb dp un gd cn cs a ccd cl A₀ h₀ L m s Q E X Bl F N T hk kd ku (fun v n' h' tk' hp F' N' => ?_) fun t h' tk' hb F' N' => bad t h' tk' hb F' (cb_drop N' fun q hq => .tail _ hq)
  obtain ⟨t', rfl, rfl, hb⟩ := hp
  exact ret t' h' tk' hb F' (cb_drop N' fun q hq => .tail _ hq)
/-- _law_read of what decimal_octets wrote -/
theorem read_spec {tp : Int} {ah be : List Nat} {t : Tok} {ALL : List (Addr × Obj)} {l : List Nat} (e : l = sg tp ++ (ah ++ 46 :: be))
    (Bl : Below A₀ base outer h₀) (F : Fr h₀ L s.heap m) (X : (hd.heap_39 w.params).In h₀) (N : News h₀ L s.heap ALL) (T : Top p loose mean mg mb h₀) (hk : cs.kind = .function)
    (kd : dp + 200 < recursionLimit) (ku : un + 1000 < cLine) (hah : ∀ c ∈ ah, 48 ≤ c ∧ c ≤ 57) (hbe : ∀ c ∈ be, 48 ≤ c ∧ c ≤ 57) (hl : ah.length + be.length ≤ 90)
    (ret : ∀ D wv t1 t2 t3 h' tk', (if tp < 0 then -1 else 1) * val 0 (ah ++ be) = wv → wv.natAbs < 10 ^ 200 → Fr h₀ L h' m → News h₀ L h' ((D, tup3 (.int wv t1) (.str (S ah) t2) (.str (S be) t3)) :: ALL) → Q (.ref D) { s with heap := h', toks := tk' }) :
    wpAny (model PySem.Challenge.rw_og0141_01.row.prog w) (ktrTop dp un gd cn cs L a ccd cl outer) (call (.ref 202) [.bytes (B l) t]) Q E s := by
  subst e
  unfold sg
  by_cases h : tp < 0
  · rw [if_pos h]
    refine callOf_use0 (read_neg w ah be t ALL hah hbe hl) Bl F X N T hk kd ku fun v n' h' tk' hp F' N' => ?_
    obtain ⟨D, t1, t2, t3, rfl, rfl⟩ := hp
    exact ret D _ t1 t2 t3 h' tk' (by rw [if_pos h]) (val_natAbs (.inl rfl) (fun c hc => (List.mem_append.mp hc).elim (hah c) (hbe c)) (by rw [List.length_append]; exact hl)) F' N'
  · rw [if_neg h]
    refine callOf_use0 (read_pos w ah be t ALL hah hbe hl) Bl F X N T hk kd ku fun v n' h' tk' hp F' N' => ?_
    obtain ⟨D, t1, t2, t3, rfl, rfl⟩ := hp
    exact ret D _ t1 t2 t3 h' tk' (by rw [if_neg h]) (val_natAbs (.inr rfl) (fun c hc => (List.mem_append.mp hc).elim (hah c) (hbe c)) (by rw [List.length_append]; exact hl)) F' N'
end
theorem g_bs (b : Array UInt8) (t : Tok) (a : PySem.Str) (u : Tok) : Gives (Builtin.«bytes.__eq__» ⟨[.bytes b t, .str a u], []⟩) (.val (Value.notImplemented)) :=
  .of_wp fun M A E s Q h => by obtain ⟨hp, g, d, tk, os⟩ := s; have f1 := F.sub_str_bytes; wp_walk; exact ⟨_, rfl, h⟩
theorem g_sb (a : PySem.Str) (u : Tok) (b : Array UInt8) (t : Tok) : Gives (Builtin.«str.__eq__» ⟨[.str a u, .bytes b t], []⟩) (.val (Value.notImplemented)) :=
  .of_wp fun M A E s Q h => by obtain ⟨hp, g, d, tk, os⟩ := s; wp_walk; exact ⟨_, rfl, h⟩
theorem g_nbs (b : Array UInt8) (t : Tok) (a : PySem.Str) (u : Tok) : Gives (Builtin.«bytes.__ne__» ⟨[.bytes b t, .str a u], []⟩) (.val (Value.notImplemented)) :=
  .of_wp fun M A E s Q h => by obtain ⟨hp, g, d, tk, os⟩ := s; have f1 := F.sub_str_bytes; wp_walk; exact ⟨_, rfl, h⟩
theorem g_nsb (a : PySem.Str) (u : Tok) (b : Array UInt8) (t : Tok) : Gives (Builtin.«str.__ne__» ⟨[.str a u, .bytes b t], []⟩) (.val (Value.notImplemented)) :=
  .of_wp fun M A E s Q h => by obtain ⟨hp, g, d, tk, os⟩ := s; wp_walk; exact ⟨_, rfl, h⟩
theorem slot_be : Slot "bytes" (cmpInfo .Eq).2.2 "bytes.__eq__" := FB.slot_bytes_eq
theorem slot_bn : Slot "bytes" (cmpInfo .NotEq).2.2 "bytes.__ne__" := FB.slot_bytes_ne
section
variable {prog : Program} {w : World} {A : Around} {E : Value → Shared → Prop} {s : Shared} {Q : Value → Shared → Prop} {b : Array UInt8} {a : PySem.Str} {t u : Tok}
theorem eq_bs (h : Q (.bool false) s) : wpAny (model prog w) A (compareOp .Eq (.bytes b t) (.str a u)) Q E s := by
  show wpAny _ A (richCompare .Eq _ _) Q E s
  exact EqNone.wpAny_richCompare_eq_decline (k := false) (fun s' => typeIs_bytes s' b t) (fun s' => typeIs_str s' a u) (by decide) F.sub_str_bytes FB.slot_bytes_eq F.slot_str_eq_refl rfl
    (call_gives FB.slot_bytes_eq (typeIs_bytes s b t) FB.entry_bytes_eq (FB.args_bytes_eq_2 _ _) (g_bs b t a u)
      ⟨rfl, call_gives F.slot_str_eq_refl (typeIs_str s a u) F.entry_str_eq (F.args_str_eq_2 _ _) (g_sb a u b t) ⟨rfl, h⟩⟩)
theorem ne_bs (h : Q (.bool true) s) : wpAny (model prog w) A (compareOp .NotEq (.bytes b t) (.str a u)) Q E s := by
  show wpAny _ A (richCompare .NotEq _ _) Q E s
  exact EqNone.wpAny_richCompare_ne_decline (k := false) (fun s' => typeIs_bytes s' b t) (fun s' => typeIs_str s' a u) (by decide) F.sub_str_bytes FB.slot_bytes_ne F.slot_str_ne_refl rfl
    (call_gives FB.slot_bytes_ne (typeIs_bytes s b t) FB.entry_bytes_ne (FB.args_bytes_ne_2 _ _) (g_nbs b t a u)
      ⟨rfl, call_gives F.slot_str_ne_refl (typeIs_str s a u) F.entry_str_ne (F.args_str_ne_2 _ _) (g_nsb a u b t) ⟨rfl, h⟩⟩)
theorem ne_sb (h : Q (.bool true) s) : wpAny (model prog w) A (compareOp .NotEq (.str a u) (.bytes b t)) Q E s := by
  show wpAny _ A (richCompare .NotEq _ _) Q E s
  exact EqNone.wpAny_richCompare_ne_decline (k := false) (fun s' => typeIs_str s' a u) (fun s' => typeIs_bytes s' b t) (by decide) F.sub_bytes_str F.slot_str_ne slot_bn rfl
    (call_gives F.slot_str_ne (typeIs_str s a u) F.entry_str_ne (F.args_str_ne_2 _ _) (g_nsb a u b t)
      ⟨rfl, call_gives slot_bn (typeIs_bytes s b t) FB.entry_bytes_ne (FB.args_bytes_ne_2 _ _) (g_nbs b t a u) ⟨rfl, h⟩⟩)
theorem ne_bb {l : List Nat} (h : Q (.bool false) s) : wpAny (model prog w) A (compareOp .NotEq (.bytes (B l) t) (.bytes (B l) u)) Q E s := ne_bytes (by simpa using h)
end
theorem figs_eq {tp pl : Int} {b : Bool} (h0 : 0 ≤ pl) : (outL tp pl b).filter isFig = ahL tp pl b ++ beL tp pl b := by
  have hs : (sg tp).filter isFig = [] := by unfold sg; split <;> rfl
  rw [outL_split h0]
  simp only [List.filter_append]
  rw [hs, figs_all (ahL_all tp pl b), List.filter_cons_of_neg (by decide), figs_all (beL_all tp pl b), List.nil_append]
theorem ab_len {tp pl : Int} {b : Bool} (h0 : 0 ≤ pl) (hf : pl = 0 ∨ tp.fmod 10 ≠ 0) : ((ahL tp pl b).length : Int) + (beL tp pl b).length = needZ tp pl b := by
  rw [← figs_len h0 hf, figs_eq h0, List.length_append]; omega
theorem ret_all {tp pl : Int} {b : Bool} (h0 : 0 ≤ pl) (hf : pl = 0 ∨ tp.fmod 10 ≠ 0) (hnb : ¬ DecBad tp pl b) :
    (((nd tp.natAbs).length : Int) ≤ 40 ∧ pl ≤ 40 ∧ (ahL tp pl b).length ≤ 40 ∧ (beL tp pl b).length ≤ 40) ∧
    ((if tp < 0 then -1 else 1) * val 0 (ahL tp pl b ++ beL tp pl b)) * 10 ^ pl.toNat = tp * 10 ^ (((beL tp pl b).length : Int)).toNat ∧ True := by
  have h1 := bad_iff (b := b) h0 hf
  have h2 := ab_len (b := b) h0 hf
  have h3 : ¬ (¬ (((nd tp.natAbs).length : Int) ≤ 40 ∧ pl ≤ 40) ∨ 40 < needZ tp pl b) := fun z => hnb (h1.mpr z)
  exact ⟨by omega, by rw [Int.toNat_natCast]; exact worth_ok h0 hf, trivial⟩
theorem r_len_bytes {prog : Program} {w : World} {A : Around} {E : Value → Shared → Prop} {s : Shared} {t : Tok} {Q : Value → Shared → Prop} {l : List Nat} (hl : l.length ≤ 1000) (h : Q (.int (l.length : Int) (s.toks + 1)) { s with toks := s.toks + 1 + 1 }) : wpAny (model prog w) A (call (.builtin "len") [.bytes (B l) t]) Q E s :=
  len_bytes (by rw [B_size]; omega) (by rw [B_size]; exact h)
theorem outL_short {tp pl : Int} {b : Bool} (h0 : 0 ≤ pl) (h1 : pl ≤ 41) (ht : tp.natAbs < 10 ^ 42) : (outL tp pl b).length ≤ 1000 := by
  have a1 := textL_short h0 h1 ht
  have a2 := leastL_short h0 h1 ht
  have a3 := idg_len ht
  unfold outL
  split
  · rw [List.length_append]
    cases b <;> simp <;> omega
  · split <;> omega
theorem item_first (c : Nat) (r : List Nat) : Txt.item (S (c :: r)) 0 = S [c] := by
  unfold Txt.item Txt.charAt seqIndex?
  simp [S, Str.length]
section
variable {prog : Program} {w : World} {A : Around} {E : Value → Shared → Prop} {s : Shared} {t u : Tok} {Q : Value → Shared → Prop} {value slice : PySem.Expr}
theorem r_first {l : List Nat} {c : Nat} (hl : ∃ r, l = c :: r) (h : Q (.str (S [c]) s.toks) { s with toks := s.toks + 1 })
    (hsub : subscripted slice false (.str (S l) t) (.int 0 u) = operate [.str (S l) t, .int 0 u] (getItem (.str (S l) t) (.int 0 u)) := by with_unfolding_all rfl)
    (ht : ∀ r, letTemporaryGo value (.str (S l) t) r = pure () := by intro _; with_unfolding_all rfl) :
    wpAny (model prog w) A (subscriptTail value slice (.str (S l) t) (.int 0 u)) Q E s := by
  obtain ⟨r, rfl⟩ := hl
  exact item_str (by decide) (by rw [S_len, List.length_cons]; omega) (by rw [S_len, List.length_cons]; omega) (fun _ => by rw [item_first]; exact h) hsub ht
theorem r_nonought {c : Nat} {x : PySem.Str} (hx : x = S [48]) (hc : c ≠ 48) (h : Q (.bool false) s) : wpAny (model prog w) A (compareOp .Eq (.str (S [c]) t) (.str x u)) Q E s := by
  subst hx
  refine PyProof.Rows.eq_str ?_
  have e : (S [c] == S [48]) = false := by
    rw [beq_eq_false_iff_ne]
    intro z
    have := S_inj z
    simp at this
    exact hc this
  rw [e]; exact h
end
/-- the plain form, as the walk asks it -/
theorem plain_ok2 {tp pl : Int} (h0 : 0 ≤ pl) : 0 < (ahL tp pl false).length ∧ 0 < (beL tp pl false).length ∧ ∃ c, (∃ r, ahL tp pl false = c :: r) ∧ (1 < ((ahL tp pl false).length : Int) → c ≠ 48) := by
  obtain ⟨a1, a2, a3⟩ := plain_ok (tp := tp) h0
  refine ⟨a1, a2, ?_⟩
  cases h : ahL tp pl false with
  | nil => rw [h] at a1; simp at a1
  | cons c r =>
    refine ⟨c, ⟨r, rfl⟩, fun h1 e => a3 (by rw [h]; omega) r ?_⟩
    rw [h, e]
theorem place_bnd {k : Int} (h : k ∈ [(0 : Int), 1, 2, 7, 40, 41]) : 0 ≤ k ∧ k ≤ 41 := by
  simp only [List.mem_cons, List.not_mem_nil, or_false] at h; omega
abbrev qLam : PySem.Str := (Str.ofString "law" ++ ".<locals>.") ++ "<lambda>"
theorem cell_none {o : Obj} {v : Option Value} (h : o.data = .cell v) : ∃ v, o.data = .cell v := ⟨v, h⟩
theorem no_len {l : List Nat} (h : (l.length : Int) = 0) (h' : 0 < l.length) : False := by omega
theorem worth_eq {x v p t : Int} (e : x = v) (q : x * p = t) : v * p = t := by rw [← e]; exact q
theorem eq0_false {l : List Nat} (h : 0 < l.length) : ((l.length : Int) == 0) = false := by
  rw [beq_eq_false_iff_ne]; omega
theorem neq_false {a b : Int} (h : a = b) : (a != b) = false := by rw [h]; simp
theorem not_false' {a b : Int} (h : a ≤ b) : (!decide (a ≤ b)) = false := by simp [h]
theorem few_no {n : Nat} (h : 10 ^ 40 ≤ n) (h' : ¬ 40 < ((nd n).length : Int)) : False := by
  have := nd_lt_iff (k := 40) (n := n) (by decide); omega
theorem many_no {n : Nat} (h : n < 10 ^ 40) (h' : 40 < ((nd n).length : Int)) : False := by
  have := nd_lt_iff (k := 40) (n := n) (by decide); omega
def IntP (h₀ : Heap) (L : Addr) (m : PySem.Str → Option Value) (all : List (Addr × Obj)) (s : Shared) (z : Int) (v : Value) (s' : Shared) : Prop := ∃ h' n t, s' = { s with heap := h', toks := n } ∧ Fr h₀ L h' m ∧ News h₀ L h' all ∧ v = .int z t
theorem IntP.mk {h₀ h' : Heap} {L : Addr} {m : PySem.Str → Option Value} {all : List (Addr × Obj)} {s : Shared} {z x : Int} {t : Tok} {n : Nat} (F : Fr h₀ L h' m) (N : News h₀ L h' all) (h : x = z) : IntP h₀ L m all s z (.int x t) { s with heap := h', toks := n } := ⟨h', n, t, rfl, F, N, by rw [h]⟩
def BoolP (s : Shared) (z : Bool) (v : Value) (s' : Shared) : Prop := ∃ n, s' = { s with toks := n } ∧ v = .bool z
theorem BoolP.mk {s : Shared} {z x : Bool} {n : Nat} (h : x = z) : BoolP s z (.bool x) { s with toks := n } := ⟨n, rfl, by rw [h]⟩
section
variable {M : Model} {A : Around} {E : Value → Shared → Prop} {s : Shared} {c : Sem Value} {Q : Value → Shared → Prop} {tp pl : Int} {b : Bool}
/-- a reckoned int, its ways joined -/
theorem cut_need {h₀ : Heap} {L : Addr} {m : PySem.Str → Option Value} {all : List (Addr × Obj)} {P : Prop} (_ : P) (_ : P = DecBad tp pl b ∨ P = ¬ DecBad tp pl b) (_F : Fr h₀ L s.heap m) (_N : News h₀ L s.heap all)
    (h : wpAny M A c (IntP h₀ L m all s (needZ tp pl b)) E s) (k : ∀ h' n t, Fr h₀ L h' m → News h₀ L h' all → Q (.int (needZ tp pl b) t) { s with heap := h', toks := n }) : wpAny M A c Q E s :=
  wpAny_mono h (fun v s' ⟨h', n, t, e1, F, N, e2⟩ => by subst e1; subst e2; exact k h' n t F N) fun _ _ e => e
theorem cut_let (_ : pl = 0 ∨ tp.fmod 10 ≠ 0) (h : wpAny M A c (BoolP s (decide (((nd tp.natAbs).length : Int) ≤ 40) && decide (pl ≤ 40))) E s)
    (k : ∀ n, Q (.bool (decide (((nd tp.natAbs).length : Int) ≤ 40) && decide (pl ≤ 40))) { s with toks := n }) : wpAny M A c Q E s :=
  wpAny_mono h (fun v s' ⟨n, e1, e2⟩ => by subst e1; subst e2; exact k n) fun _ _ e => e
end
theorem let_no {n pl : Int} (h : ¬ n ≤ 40) : decide (n ≤ 40) = (decide (n ≤ 40) && decide (pl ≤ 40)) := by rw [decide_eq_false h]; rfl
theorem let_yes {n pl : Int} (h : n ≤ 40) : decide (pl ≤ 40) = (decide (n ≤ 40) && decide (pl ≤ 40)) := by rw [decide_eq_true h]; rfl
theorem ret_let {n pl : Int} (h : n ≤ 40) (h' : pl ≤ 40) : (!(decide (n ≤ 40) && decide (pl ≤ 40))) = false := by rw [decide_eq_true h, decide_eq_true h']; rfl
theorem dec_false {a b : Int} (h : ¬ a < b) : decide (a < b) = false := decide_eq_false h
theorem dec_true {a b : Int} (h : a < b) : decide (a < b) = true := decide_eq_true h
theorem needZ_true {tp pl : Int} : needZ tp pl true = if ((nd tp.natAbs).length : Int) ≤ pl then pl else if pl + 1 ≤ ((nd tp.natAbs).length : Int) then ((nd tp.natAbs).length : Int) else pl + 1 := by
  unfold needZ; simp
theorem needZ_false {tp pl : Int} : needZ tp pl false = (if pl + 1 ≤ ((nd tp.natAbs).length : Int) then ((nd tp.natAbs).length : Int) else pl + 1) + (if pl = 0 then 1 else 0) := by
  unfold needZ; simp
theorem ret_facts {tp pl : Int} {b : Bool} (h0 : 0 ≤ pl) (hf : pl = 0 ∨ tp.fmod 10 ≠ 0) (hnb : ¬ DecBad tp pl b) :
    (!(decide (((nd tp.natAbs).length : Int) ≤ 40) && decide (pl ≤ 40))) = false ∧ decide (40 < needZ tp pl b) = false := by
  have h1 := bad_iff (b := b) h0 hf
  have h3 : ¬ (¬ (((nd tp.natAbs).length : Int) ≤ 40 ∧ pl ≤ 40) ∨ 40 < needZ tp pl b) := fun z => hnb (h1.mpr z)
  exact ⟨ret_let (by omega) (by omega), dec_false (by omega)⟩
theorem bad_facts {tp pl : Int} {b : Bool} (h0 : 0 ≤ pl) (hf : pl = 0 ∨ tp.fmod 10 ≠ 0) (hb : DecBad tp pl b) :
    (!(decide (((nd tp.natAbs).length : Int) ≤ 40) && decide (pl ≤ 40))) = true ∨
    ((!(decide (((nd tp.natAbs).length : Int) ≤ 40) && decide (pl ≤ 40))) = false ∧ decide (40 < needZ tp pl b) = true) := by
  have h1 := (bad_iff (b := b) h0 hf).mp hb
  cases h : (!(decide (((nd tp.natAbs).length : Int) ≤ 40) && decide (pl ≤ 40))) with
  | true => exact .inl rfl
  | false =>
    refine .inr ⟨rfl, dec_true (h1.resolve_left fun z => z ?_)⟩
    simpa using h
-- what every use of a call's contract pays
-- a written text as a list
-- sizes of lists
theorem law : PySem.Challenge.rw_og0141_01.Holds := hd (by
  k_go0
  (all_goals try k_fold)
  w_top off
  w_top off
  k_fill
  k_with_none
  k_with "call ref" => (k_here; (with_reducible show wpAny _ _ (call (Value.ref 197) [_]) _ _ _); k_dflt (refine figures_use (by k_asm) (by k_asm) (by k_asm) (by k_asm) (by k_asm) (by first | exact rfl | assumption) (by first | k_room | ktr_room) (by first | k_units | ktr_units) (by first | assumption | exact pen_of (by assumption) (by first | assumption | (simp_all; omega))) (by repeat (first | exact Pull.head | apply Pull.tail)) (by repeat (first | exact Pull.head | apply Pull.tail)) (by first | assumption | k_ne) (by k_all) (by k_all) ?_); intro d9 t9 o19 o29 h9 k9 hd9 hP9 F9 N9)
  k_with "call ref" => (k_here; (with_reducible show wpAny _ _ (call (Value.ref 190) [_, _]) _ _ _); k_dflt (refine pick_use (by k_asm) (by k_asm) (by k_asm) (by k_asm) (by k_asm) (by first | exact rfl | assumption) (by first | k_room | ktr_room) (by first | k_units | ktr_units) (by assumption) (by repeat (first | exact Pull.head | apply Pull.tail)) (by repeat (first | exact Pull.head | apply Pull.tail)) (by repeat (first | exact Pull.head | apply Pull.tail)) (by repeat (first | exact IntsAre.nil | apply IntsAre.cons)) (by first | decide | (simp only [List.length_cons, List.length_nil]; omega)) (by first | decide | (simp only [List.length_cons, List.length_nil]; omega)) (by first | assumption | k_ne) (by k_ne) (by k_ne) (by k_all) (by k_all) ?_); intro d9 t9 o19 o29 h9 k9 hd9 hP9 F9 N9)
  k_with "call ref" => (k_here; (with_reducible show wpAny _ _ (call (Value.ref 160) [_, _]) _ _ _); k_dflt ((obtain ⟨pl0, pl1⟩ := place_bnd (by assumption)); (refine' callOf_useR (by k_asm) (by k_asm) (by k_asm) (by k_asm) (by k_asm) (by first | exact rfl | assumption) (by exact fun _ h => h) (dec_spec _ _ _ _ _ _ (by assumption)) (by first | k_room | ktr_room) (by first | k_units | ktr_units) ?_); (intro v9 n9 h9 k9 hp9 F9 N9; obtain ⟨x9, dx9, tp9, pl9, ta9, tb9, tc9, td9, e19, e29, hl9, hx9, hf9⟩ := hp9; subst e19; subst e29; (k_lt hl9); (k_lt2 hx9); (obtain ⟨hf1, hf2, hf3, hf4⟩ := hf9); (have ht9 := Nat.lt_of_le_of_lt hf3 (by assumption)); (have hL9 := nd_len_le (by decide) ht9); (have hM9 := nd_len_pos (Int.natAbs tp9)))))
  k_with "call type:str" => (k_here; (with_reducible show wpAny _ _ (call (Value.type "str") [Value.int _ _]) _ _ _); first | (refine' r_str_abs (by assumption) ?_) | (refine' r_str (by assumption) ?_))
  k_with "call builtin:len" => (k_here; (with_reducible show wpAny _ _ (call (Value.builtin "len") [Value.str (S _) _]) _ _ _); refine' r_len (by ((try simp only [List.length_append, List.length_replicate, List.length_take, List.length_drop, List.length_cons, List.length_nil]); omega)) ?_)
  k_with "eval Lambda" => (k_here; k_dflt (refine' kla_eval (by exact rfl) ?_); (k_dflt (refine' lam_any (q := qLam) (by k_asm) (by k_asm) (by k_asm) (by kn_code) (by exact rfl) (by k_updF) (by assumption) (fun p9 hp9 => by repeat (first | exact hcs2 p9 hp9 | refine List.Mem.tail _ ?_)) (by repeat (first | exact List.forall_mem_nil _ | refine List.forall_mem_cons.mpr ⟨by repeat (first | exact List.Mem.head _ | assumption | refine List.Mem.tail _ ?_), ?_⟩)) (by exact rfl) ?_; k_whole)); intro f' c' oc' vs' t' ct' ps' h' tk' F' N' G' d1' d2' l1; (try dsimp only at N'); (try k_lt l1))
  k_with "compareOp Eq bytes str" => (k_here; refine eq_bs ?_)
  k_with "compareOp NotEq bytes str" => (k_here; refine ne_bs ?_)
  k_with "compareOp NotEq str bytes" => (k_here; refine ne_sb ?_)
  k_with "compareOp NotEq bytes bytes" => (k_here; refine ne_bb ?_)
  k_with "binaryOp Pow int int" => (k_here; (with_reducible refine pow_int_small (by omega) (by omega) (by decide) ?_))
  k_with "call builtin:len" => (k_here; (with_reducible show wpAny _ _ (call (Value.builtin "len") [Value.bytes (B _) _]) _ _ _); refine' r_len_bytes (by exact outL_short (by assumption) (by omega) (by assumption)) ?_)
  k_with "call ref" => (k_here; (with_reducible show wpAny _ _ (call (Value.ref 66) [_, _]) _ _ _); k_dflt (refine' dec_use (by k_asm) (by k_asm) (by k_asm) (by k_asm) (by k_asm) (by first | exact rfl | assumption) (by first | k_room | ktr_room) (by first | k_units | ktr_units) (by k_mem) (by k_mem) (by omega) (by omega) (by assumption) ?_ ?_))
  k_with "call ref" => (k_here; (with_reducible show wpAny _ _ (call (Value.ref 202) [_]) _ _ _); k_dflt (refine' read_spec (outL_split (by omega)) (by k_asm) (by k_asm) (by k_asm) (by k_asm) (by k_asm) (by first | exact rfl | assumption) (by first | k_room | ktr_room) (by first | k_units | ktr_units) (by exact ahL_all _ _ _) (by exact beL_all _ _ _) (by omega) ?_); intro D9 wv9 t19 t29 t39 h9 k9 ew9 eb9 F9 N9; (have hw9 := neq_false (worth_eq ew9 (by assumption))))
  k_with "call ref" => (k_here; (with_reducible show wpAny _ _ (call (Value.ref 209) [_, _]) _ _ _); k_dflt ((refine' callOf_useR (by k_asm) (by k_asm) (by k_asm) (by k_asm) (by k_asm) (by first | exact rfl | assumption) (fun _ h => h) (size_spec _ _ _ _ _ _ (by assumption) (by omega)) (by first | k_room | ktr_room) (by first | k_units | ktr_units) ?_); (intro v9 n9 h9 k9 hp9 F9 N9; obtain ⟨t9, e19, e29⟩ := hp9; subst e19; subst e29)))
  k_with "binaryOp Mult int int" => (k_here; refine PyProof.Rows.mul_int ?_ (mulok (by first | assumption | exact pow_bnd (by omega) | exact low_bnd (by assumption)) (by first | assumption | exact pow_bnd (by omega) | exact low_bnd (by assumption))))
  k_with "subscriptTail" => (k_here; (with_reducible show wpAny _ _ (subscriptTail _ _ (Value.str (S _) _) (Value.int 0 _)) _ _ _); refine' r_first (by assumption) ?_)
  k_with "compareOp Eq str str" => (k_here; refine' r_nonought lit_zero (e4 (by assumption)) ?_)
  k_with "call builtin:len" => (k_here; (with_reducible show wpAny _ _ (call (Value.builtin "len") [Value.str (S (nd _)) _]) _ _ _); refine' r_len (by exact Nat.le_trans (nd_len_le (k := 42) (by decide) (by assumption)) (by decide)) ?_)
  k_with "eval ListComp" => (k_here; (with_reducible show wpAny _ _ (eval (PySem.Expr.ListComp (PySem.Expr.Call _ _ _ _) _ _ _) _) _ _ _); k_dflt (refine comp_U (by k_asm) (by with_unfolding_all rfl) (by decide) (by rfl) (by decide) (by rfl) ?_))
  k_with "CompAny" => (k_here; k_dflt (refine' CompAny.text (fun c y => ∃ u, y = .int (c : Int) u) (by rfl) (by k_asm) (by k_asm) (idg_ascii _) (Nat.le_trans (idg_len (by assumption)) (by decide)) (fun c' u' I' oI' C' oC' D' m' ys' h' tk' E' hc' hC' hx' F' N' off' ne' => ?_) (fun ys' hy' => ?_); (all_goals (try (simp only [LCg.Off3, and_true] at off')))))
  k_with "CompEnd" => (k_dflt (exact LCg.CompEnd.intro (by k_asm) (by k_asm) _ (fun _ h => h) (by assumption) trivial ⟨rfl, _, rfl⟩))
  k_with "call builtin:ord" => (k_here; refine r_ord ?_)
  k_with "call type:bytes" => (k_here; (with_reducible show wpAny _ _ (call (Value.type "bytes") [Value.ref _]) _ _ _); k_dflt (refine' r_bytes (by k_asm) (by k_asm) (by k_mem) (by assumption) (by exact idg_ascii _) (by exact Nat.le_trans (idg_len (by assumption)) (by decide)) (by rfl) ?_); intro h9 t9 k9 F9 N9)
  k_with "call ref" => (k_here; (with_reducible show wpAny _ _ (call (Value.ref 61) [_]) _ _ _); k_dflt (refine' whole_use (by k_asm) (by k_asm) (by k_asm) (by k_asm) (by k_asm) (by first | exact rfl | assumption) (by first | k_room | ktr_room) (by first | k_units | ktr_units) (by assumption) ?_ ?_))
  k_with "eval BoolOp" => (k_here; (with_reducible show wpAny _ _ (eval (PySem.Expr.BoolOp _ [PySem.Expr.Compare _ _ _ _, PySem.Expr.Compare _ _ _ _] _) _) _ _ _); refine Stop.mk ?_)
  k_with "eval BinOp" => (k_here; (with_reducible show wpAny _ _ (eval (PySem.Expr.BinOp (PySem.Expr.IfExp _ _ _ _) _ (PySem.Expr.IfExp _ _ _ _) _) _) _ _ _); refine Stop.mk ?_)
  k_with "TurnG" => (dsimp only [TurnG])
  k_with "pyIter ref" => (k_here; refine Stop.mk ?_)
  k_with "call ref" => (k_here; (with_reducible show wpAny _ _ (call (Value.ref 216) [_]) _ _ _); refine Stop.mk ?_)
  k_steps
  unfold Stop
  rename News _ _ _ _ => lN
  (with_unfolding_all refine' law_iter2 qLam (by rfl) (by assumption) (by assumption) (cb_drop lN ?kn) ?hP ?h3 ?h2 ?h1 ?kturn ?kdone)
  case kn => 
    exact List.forall_mem_cons.mpr ⟨.head _, List.forall_mem_cons.mpr ⟨.tail _ (.head _), List.forall_mem_cons.mpr ⟨.tail _ (.tail _ (.tail _ (.head _))), List.forall_mem_cons.mpr ⟨.tail _ (.tail _ (.tail _ (.tail _ (.head _)))), List.forall_mem_cons.mpr ⟨.tail _ (.tail _ (.tail _ (.tail _ (.tail _ (.head _))))), List.forall_mem_cons.mpr ⟨.tail _ (.tail _ (.tail _ (.tail _ (.tail _ (.tail _ (.head _)))))), List.forall_mem_nil _⟩⟩⟩⟩⟩⟩
  case hP => exact pen_of (by assumption) (by simp_all; omega)
  case h3 => exact cell_none (by assumption)
  case h2 => exact cell_none (by assumption)
  case h1 => exact cell_none (by assumption)
  clear lN
  case kturn =>
    intro I o1 o2 x3 x2 x1 ps codes k tk u h9 k9 own tl hP hx3 hx2 hx1 hG hcs hos hIo hIne hoff hoff2 htl F9 N9
    obtain ⟨v3, hx3⟩ := hx3
    obtain ⟨v2, hx2⟩ := hx2
    obtain ⟨v1, hx1⟩ := hx1
    obtain ⟨oI, hIo⟩ := hIo
    k_fold
    k_steps
    unfold Stop
    refine cut_let (by assumption) ?_ ?_
    · with_reducible refine BoolOp_and ?_
      k_steps
      all_goals first | exact BoolP.mk (let_no (by assumption)) | exact BoolP.mk (let_yes (by assumption))
    intro tk0
    try k_fold
    k_steps
    unfold Stop
    (rename News _ _ _ _ => nX; rename Fr _ _ _ _ => fX; (with_unfolding_all refine' inner_law (by rfl) fX nX rfl rfl ⟨_, hx1⟩ hG hcs hos hoff2 ?kturn2 ?kdone2); clear nX fX)
    case kturn2 =>
      intro b J it y1 ps2 codes2 u2 h9 k9 tl2 hit hy1 hG2 hcs2 hos2 ho1 ho2 ho3 hJ hoJ F9 N9
      obtain ⟨w1, hy1⟩ := hy1
      have hIo2 : I ∈ tl2.map (·.1) := List.mem_map.mpr ⟨_, hos2 _ hIo, rfl⟩
      try k_fold
      k_steps
      all_goals (try unfold Stop)
      k_dflt (refine' heard_dec ?Xt ?Bt ?Ft ?Nt ?Tt rfl ?kdt ?kut ?hxt ?hdxt ?h1t ?Ct ?ret ?bad)
      case Xt => k_asm
      case Bt => assumption
      case Ft => k_asm
      case Nt => k_asm
      case Tt => k_asm
      case kdt => first | k_room | ktr_room
      case kut => first | k_units | ktr_units
      case hxt => k_mem
      case hdxt => k_mem
      case h1t => assumption
      case Ct =>
        unfold CallOfE
        intros; rename_i hret herr
        refine wpAny_call ?_
        k_dflt (refine' kla_code ?k1t ?k2t ?k3t ?k4t ?k5t ?kAt ?kFt ?kKt ?k6t ?k7t ?k8t ?k9t ?kBt ?_ ?c2t ?c3t ?c4t ?c5t; (case kAt => exact rfl); (case kFt => exact rfl); (case kKt => assumption); (case k1t => k_asm); (case k2t => k_asm); (case k3t => k_asm); (case k4t => k_asm); (case k5t => k_asm); (case k6t => k_mem); (case k7t => exact codeRec_news (by k_asm) (by k_mem) (by assumption) (by assumption)); (case k8t => ktr_room); (case k9t => exact rfl); (case c5t => decide); (case kBt => exact locs rfl); (case c2t => exact rfl); (case c3t => exact rfl); (case c4t => exact rfl); k_whole; intro g' L' h' FG' F' N' B' X' T'; (try dsimp only); (try k_lift B'); (try k_fold))
        k_steps
        · exact leave_next (by assumption) rfl (by assumption) (by assumption) (by assumption) fun h2 R2 U2 => herr _ _ _ _ (by assumption) (by assumption) R2 U2
        · exact hret _ _ _ _ ⟨_, rfl, rfl, by assumption⟩ (by k_asm) (by k_asm)
      all_goals (intro t' h' tk' hbd FR NR)
      case ret =>
        obtain ⟨⟨q1, q2, q3, q4⟩, q5, -⟩ := ret_all (by assumption) (by assumption) hbd
        obtain ⟨f1, f2⟩ := ret_facts (by assumption) (by assumption) hbd
        cases b
        · obtain ⟨e1, e2, c0, e3, e4⟩ := plain_ok2 (tp := _) (pl := _) (show 0 ≤ _ by assumption)
          have g1 := eq0_false e1
          have g2 := eq0_false e2
          k_steps
          unfold Stop
          refine cut_need hbd (.inr rfl) (by k_asm) (by k_asm) ?_ ?_
          · refine wpAny_BinOp ?_
            k_steps
            all_goals first | exact IntP.mk (by k_asm) (by k_asm) (by rw [needZ_true]; (repeat' split) <;> omega) | exact IntP.mk (by k_asm) (by k_asm) (by rw [needZ_false]; (repeat' split) <;> omega)
          intro hh0 tn0 tt0 FQ NQ
          k_steps
          all_goals first
                      | (with_reducible show UnrEndW _ _ _ _ _ _
                         refine' inn_end ?Fr ?Nr ?hir ?hxr ?htr ?hcsr ?hrr ?h1r ?Gr ?l1r ?l2r ?l3r ?hmr
                         case Fr => k_asm
                         case Nr => k_asm
                         case hir => k_mem
                         case hxr => k_mem
                         case htr => k_mem
                         case Gr => assumption
                         case hcsr => (refine List.forall_mem_cons.mpr ⟨by k_mem, fun p hp => ?_⟩; repeat (first | exact hcs2 p hp | refine List.Mem.tail _ ?_))
                         case hrr => exact List.forall_mem_cons.mpr ⟨by k_mem, List.forall_mem_cons.mpr ⟨by k_mem, List.forall_mem_cons.mpr ⟨by k_mem, List.forall_mem_cons.mpr ⟨by k_mem, List.forall_mem_cons.mpr ⟨by k_mem, List.forall_mem_cons.mpr ⟨by k_mem, List.forall_mem_cons.mpr ⟨by k_mem, fun p hp => by (repeat (first | exact hos2 p hp | refine List.Mem.tail _ ?_))⟩⟩⟩⟩⟩⟩⟩
                         case h1r => exact ⟨_, by assumption⟩
                         case l1r => exact hJ.1
                         case l2r => exact hJ.2.1
                         case l3r => exact List.forall_mem_cons.mpr ⟨hJ.2.2.1, List.forall_mem_cons.mpr ⟨hJ.2.2.2.1, List.forall_mem_cons.mpr ⟨hJ.2.2.2.2.1, List.forall_mem_cons.mpr ⟨hJ.2.2.2.2.2.1, List.forall_mem_cons.mpr ⟨hJ.2.2.2.2.2.2.1, List.forall_mem_cons.mpr ⟨hJ.2.2.2.2.2.2.2.1, List.forall_mem_cons.mpr ⟨hJ.2.2.2.2.2.2.2.2, hoJ⟩⟩⟩⟩⟩⟩⟩
                         case hmr => kst_same)
        · have g4 := neq_false (least_len (tp := _) (pl := _) (by assumption) (by assumption))
          k_steps
          unfold Stop
          refine cut_need hbd (.inr rfl) (by k_asm) (by k_asm) ?_ ?_
          · refine wpAny_BinOp ?_
            k_steps
            all_goals first | exact IntP.mk (by k_asm) (by k_asm) (by rw [needZ_true]; (repeat' split) <;> omega) | exact IntP.mk (by k_asm) (by k_asm) (by rw [needZ_false]; (repeat' split) <;> omega)
          intro hh0 tn0 tt0 FQ NQ
          k_steps
          all_goals first
                      | (with_reducible show UnrEndW _ _ _ _ _ _
                         refine' inn_end ?Fr ?Nr ?hir ?hxr ?htr ?hcsr ?hrr ?h1r ?Gr ?l1r ?l2r ?l3r ?hmr
                         case Fr => k_asm
                         case Nr => k_asm
                         case hir => k_mem
                         case hxr => k_mem
                         case htr => k_mem
                         case Gr => assumption
                         case hcsr => (refine List.forall_mem_cons.mpr ⟨by k_mem, fun p hp => ?_⟩; repeat (first | exact hcs2 p hp | refine List.Mem.tail _ ?_))
                         case hrr => exact List.forall_mem_cons.mpr ⟨by k_mem, List.forall_mem_cons.mpr ⟨by k_mem, List.forall_mem_cons.mpr ⟨by k_mem, List.forall_mem_cons.mpr ⟨by k_mem, List.forall_mem_cons.mpr ⟨by k_mem, List.forall_mem_cons.mpr ⟨by k_mem, List.forall_mem_cons.mpr ⟨by k_mem, fun p hp => by (repeat (first | exact hos2 p hp | refine List.Mem.tail _ ?_))⟩⟩⟩⟩⟩⟩⟩
                         case h1r => exact ⟨_, by assumption⟩
                         case l1r => exact hJ.1
                         case l2r => exact hJ.2.1
                         case l3r => exact List.forall_mem_cons.mpr ⟨hJ.2.2.1, List.forall_mem_cons.mpr ⟨hJ.2.2.2.1, List.forall_mem_cons.mpr ⟨hJ.2.2.2.2.1, List.forall_mem_cons.mpr ⟨hJ.2.2.2.2.2.1, List.forall_mem_cons.mpr ⟨hJ.2.2.2.2.2.2.1, List.forall_mem_cons.mpr ⟨hJ.2.2.2.2.2.2.2.1, List.forall_mem_cons.mpr ⟨hJ.2.2.2.2.2.2.2.2, hoJ⟩⟩⟩⟩⟩⟩⟩
                         case hmr => kst_same)
      case bad =>
        have f0 := bad_facts (by assumption) (by assumption) hbd
        cases b
        all_goals (
          k_steps
          unfold Stop
          refine cut_need hbd (.inl rfl) (by k_asm) (by k_asm) ?_ ?_
          · refine wpAny_BinOp ?_
            k_steps
            all_goals first | exact IntP.mk (by k_asm) (by k_asm) (by rw [needZ_true]; (repeat' split) <;> omega) | exact IntP.mk (by k_asm) (by k_asm) (by rw [needZ_false]; (repeat' split) <;> omega)
          intro hh0 tn0 tt0 FQ NQ
          rcases f0 with f1 | ⟨f1, f2⟩
          all_goals (k_steps)
          all_goals first
                      | (with_reducible show UnrEndW _ _ _ _ _ _
                         refine' inn_end ?Fb ?Nb ?hib ?hxb ?htb ?hcsb ?hrb ?h1b ?Gb ?l1b ?l2b ?l3b ?hmb
                         case Fb => k_asm
                         case Nb => k_asm
                         case hib => k_mem
                         case hxb => k_mem
                         case htb => k_mem
                         case Gb => assumption
                         case hcsb => (refine List.forall_mem_cons.mpr ⟨by k_mem, fun p hp => ?_⟩; repeat (first | exact hcs2 p hp | refine List.Mem.tail _ ?_))
                         case hrb => exact List.forall_mem_cons.mpr ⟨by k_mem, List.forall_mem_cons.mpr ⟨by k_mem, List.forall_mem_cons.mpr ⟨by k_mem, List.forall_mem_cons.mpr ⟨by k_mem, List.forall_mem_cons.mpr ⟨by k_mem, List.forall_mem_cons.mpr ⟨by k_mem, List.forall_mem_cons.mpr ⟨by k_mem, fun p hp => by (repeat (first | exact hos2 p hp | refine List.Mem.tail _ ?_))⟩⟩⟩⟩⟩⟩⟩
                         case h1b => exact ⟨_, by assumption⟩
                         case l1b => exact hJ.1
                         case l2b => exact hJ.2.1
                         case l3b => exact List.forall_mem_cons.mpr ⟨hJ.2.2.1, List.forall_mem_cons.mpr ⟨hJ.2.2.2.1, List.forall_mem_cons.mpr ⟨hJ.2.2.2.2.1, List.forall_mem_cons.mpr ⟨hJ.2.2.2.2.2.1, List.forall_mem_cons.mpr ⟨hJ.2.2.2.2.2.2.1, List.forall_mem_cons.mpr ⟨hJ.2.2.2.2.2.2.2.1, List.forall_mem_cons.mpr ⟨hJ.2.2.2.2.2.2.2.2, hoJ⟩⟩⟩⟩⟩⟩⟩
                         case hmb => kst_same)
)
    case kdone2 =>
      intro y1 ps2 codes2 u2 h9 k9 tl2 hy1 hG2 hcs2 hos2 hoff3 F9 N9
      obtain ⟨w1, hy1⟩ := hy1
      have hIo2 : I ∈ tl2.map (·.1) := List.mem_map.mpr ⟨_, hos2 _ hIo, rfl⟩
      try k_fold
      k_steps
      all_goals (try unfold Stop)
      all_goals (
            k_dflt (refine' heard_whole ?Xd ?Bd ?Fd ?Nd ?Td rfl ?kdd ?kud ?h1d ?Cd ?_ ?_)
            case Xd => k_asm
            case Bd => assumption
            case Fd => k_asm
            case Nd => k_asm
            case Td => k_asm
            case kdd => first | k_room | ktr_room
            case kud => first | k_units | ktr_units
            case h1d => assumption
            case Cd =>
              unfold CallOfE
              intros; rename_i hret herr
              refine wpAny_call ?_
              k_dflt (refine' kla_code ?k1d ?k2d ?k3d ?k4d ?k5d ?kAd ?kFd ?kKd ?k6d ?k7d ?k8d ?k9d ?kBd ?_ ?c2d ?c3d ?c4d ?c5d; (case kAd => exact rfl); (case kFd => exact rfl); (case kKd => assumption); (case k1d => k_asm); (case k2d => k_asm); (case k3d => k_asm); (case k4d => k_asm); (case k5d => k_asm); (case k6d => k_mem); (case k7d => exact codeRec_news (by k_asm) (by k_mem) (by assumption) (by assumption)); (case k8d => ktr_room); (case k9d => exact rfl); (case c5d => decide); (case kBd => exact locs rfl); (case c2d => exact rfl); (case c3d => exact rfl); (case c4d => exact rfl); k_whole; intro g' L' h' FG' F' N' B' X' T'; (try dsimp only); (try k_lift B'); (try k_fold))
              k_steps
              · exact leave_next (by assumption) rfl (by assumption) (by assumption) (by assumption) fun h2 R2 U2 => herr _ _ _ _ (by assumption) (by assumption) R2 U2
              · exact hret _ _ _ _ ⟨_, rfl, rfl, by assumption⟩ (by k_asm) (by k_asm)
            all_goals (intro t' h' tk' hbd FR NR))
      all_goals (try exact (many_no hbd (by assumption)).elim)
      all_goals (try exact (few_no hbd (by assumption)).elim)
      all_goals (k_steps)
      all_goals (
                   with_reducible show EndG _ _ _ _ _ _ _
                   refine' law_end ?Fe ?Ne ?hse ?hcse ?hose ?hPe ?h3e ?h2e ?h1e ?Ge ?hIe ?hme
                   case Fe => k_asm
                   case Ne => k_asm
                   case hPe => assumption
                   case hse => exact List.forall_mem_cons.mpr ⟨by k_mem, List.forall_mem_cons.mpr ⟨by k_mem, List.forall_mem_cons.mpr ⟨by k_mem, List.forall_mem_cons.mpr ⟨by k_mem, List.forall_mem_cons.mpr ⟨by k_mem, List.forall_mem_cons.mpr ⟨by k_mem, List.forall_mem_nil _⟩⟩⟩⟩⟩⟩
                   case Ge => assumption
                   case hcse => (refine List.forall_mem_cons.mpr ⟨by k_mem, fun p hp => ?_⟩; repeat (first | exact hcs2 p hp | refine List.Mem.tail _ ?_))
                   case hose => (intro p hp; repeat (first | exact hos2 p hp | refine List.Mem.tail _ ?_))
                   case h3e => exact ⟨_, by assumption⟩
                   case h2e => exact ⟨_, by assumption⟩
                   case h1e => exact ⟨_, by assumption⟩
                   case hIe => exact hIne
                   case hme => kst_same)
  case kdone =>
    intro m9 ps9 h9 k9 F9 N9
    try k_fold
    k_steps)
end Mine
theorem PySem.Challenge.cw_og0141_01_holds : PySem.Challenge.rw_og0141_01.Holds :=
  Mine.law
