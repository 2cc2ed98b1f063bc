import PyProof.Rows.All
import Wide.All
import OpenK.AllK
import Wide.FinOn
import PySem.Challenge.RW_og0194_01
open PySem PySem.W PySem.Spec PySem.Calls PyProof.Rows
set_option Elab.async false
set_option maxRecDepth 100000
set_option maxHeartbeats 0
set_option rowWalk.seconds 0
set_option linter.unusedVariables false
set_option pp.deepTerms false
set_option pp.maxSteps 1500
set_option pp.proofs false
namespace Mine
open_top hd for PySem.Challenge.rw_og0194_01

abbrev Led := List (Addr × Obj)

/-- a call that comes back: from a ledger, by a post over the answer and the new ledger -/
def Fn (w : World) (mean : ExcName → Option Value) (mg mb : Str → Option Value) (f : Addr) (k : Nat) (vs : List Value) (news : Led) (Post : Value → Led → Prop) : Prop :=
  ∀ (dp un : Nat) (gd : Option (List Code)) (cn : Str) (cs : Scope) (a : Addr) (ccd : Value) (cl : List (Str × Addr)) (outer : List Env) (A₀ : Around) (base h₀ : Heap) (L : Addr) (m : Str → Option Value) (s : Shared) (Q E : Value → Shared → Prop),
    Below A₀ base outer h₀ → Fr h₀ L s.heap m → (hd.heap_39 w.params).In h₀ → News h₀ L s.heap news → Top hd.view_39 (looseW hd.view_39 [Str.ofString "PaperError", Str.ofString "OTHER_CODES"]) mean mg mb h₀ → cs.kind = .function → dp + k < recursionLimit → un + 8 * k < cLine →
    (∀ r news' h' tk', Fr h₀ L h' m → News h₀ L h' news' → Post r news' → Q r { s with heap := h', toks := tk' }) →
    wpAny (model PySem.Challenge.rw_og0194_01.row.prog w) (ktrTop dp un gd cn cs L a ccd cl outer) (call (.ref f) vs) Q E s

theorem Fn.use {w : World} {mean : ExcName → Option Value} {mg mb : Str → Option Value} {f : Addr} {k : Nat} {vs : List Value} {news : Led} {Post : Value → Led → Prop} (C : Fn w mean mg mb f k vs news Post)
    {dp un : Nat} {gd : Option (List Code)} {cn : Str} {cs : Scope} {a : Addr} {ccd : Value} {cl : List (Str × Addr)} {outer : List Env} {A₀ : Around} {base h₀ : Heap} {L : Addr} {m : Str → Option Value} {s : Shared} {Q E : Value → Shared → Prop}
    (B : Below A₀ base outer h₀) (F : Fr h₀ L s.heap m) (X : (hd.heap_39 w.params).In h₀) (N : News h₀ L s.heap news) (T : Top hd.view_39 (looseW hd.view_39 [Str.ofString "PaperError", Str.ofString "OTHER_CODES"]) mean mg mb h₀) (hk : cs.kind = .function) (hd : dp + k < recursionLimit) (hu : un + 8 * k < cLine)
    (ret : ∀ r news' h' tk', Fr h₀ L h' m → News h₀ L h' news' → Post r news' → Q r { s with heap := h', toks := tk' }) :
    wpAny (model PySem.Challenge.rw_og0194_01.row.prog w) (ktrTop dp un gd cn cs L a ccd cl outer) (call (.ref f) vs) Q E s :=
  C _ _ _ _ _ _ _ _ _ _ _ _ _ _ _ _ _ B F X N T hk hd hu ret

/-- all of t lies apart from all of l -/
def Up (t l : Led) : Prop := ∀ p ∈ t, ∀ q ∈ l, q.1 ≠ p.1
theorem Up.nil {l : Led} : Up [] l := fun _ h => nomatch h
theorem Up.sub {t l l₀ : Led} (u : Up t l) (h : ∀ p ∈ l₀, p ∈ l) : Up t l₀ := fun p hp q hq => u p hp q (h q hq)
theorem Up.ne {t l : Led} (u : Up t l) {a : Addr} {o : Obj} (h : (a, o) ∈ l) : ∀ p ∈ t, p.1 ≠ a := fun p hp e => u p hp _ h e.symm
theorem Up.app {t t' l : Led} (u : Up t l) (u' : Up t' (t ++ l)) : Up (t' ++ t) l := fun p hp q hq => (List.mem_append.mp hp).elim (fun h => u' p h q (List.mem_append_right _ hq)) fun h => u p h q hq
theorem Up.cons {t l : Led} {q : Addr × Obj} (u : Up t l) (h : ∀ p ∈ t ++ l, p.1 ≠ q.1) : Up (q :: t) l := fun p hp r hr => (List.mem_cons.mp hp).elim (fun e => e ▸ h r (List.mem_append_right _ hr)) fun hp => u p hp r hr
theorem Up.two {l : Led} {a b : Addr} {o o2 : Obj} (h : ∀ p ∈ l, p.1 < b) (h2 : b < a) : Up [(a, o), (b, o2)] l := by
  intro p hp q hq
  rcases List.mem_cons.mp hp with rfl | hp
  · exact Nat.ne_of_lt (Nat.lt_trans (h q hq) h2)
  · rw [List.mem_singleton.mp hp]; exact Nat.ne_of_lt (h q hq)
/-- the ledger l and its frozen part z grow by one list that lies apart -/
def Ex (l z l' z' : Led) : Prop := ∃ t, l' = t ++ l ∧ z' = t ++ z ∧ Up t l
theorem Ex.refl {l z : Led} : Ex l z l z := ⟨[], rfl, rfl, Up.nil⟩
theorem Ex.trans {l z l₁ z₁ l₂ z₂ : Led} (g : Ex l z l₁ z₁) (k : Ex l₁ z₁ l₂ z₂) : Ex l z l₂ z₂ := by
  obtain ⟨t, rfl, rfl, u⟩ := g
  obtain ⟨t', rfl, rfl, u'⟩ := k
  exact ⟨t' ++ t, (List.append_assoc ..).symm, (List.append_assoc ..).symm, u.app u'⟩
theorem Ex.up {t l z : Led} (u : Up t l) : Ex l z (t ++ l) (t ++ z) := ⟨t, rfl, rfl, u⟩
theorem Ex.two {l z : Led} {a b : Addr} {o o2 : Obj} (h : ∀ p ∈ l, p.1 < b) (h2 : b < a) : Ex l z ((a, o) :: (b, o2) :: l) ((a, o) :: (b, o2) :: z) := ⟨[(a, o), (b, o2)], rfl, rfl, Up.two h h2⟩
theorem Ex.zz {l z l' z' : Led} (g : Ex l z l' z') : ∀ p ∈ z, p ∈ z' := by
  obtain ⟨t, rfl, rfl, u⟩ := g
  exact fun p h => List.mem_append_right _ h
theorem Ex.ll {l z l' z' : Led} (g : Ex l z l' z') : ∀ p ∈ l, p ∈ l' := by
  obtain ⟨t, rfl, rfl, u⟩ := g
  exact fun p h => List.mem_append_right _ h
theorem Ex.zl {l z l' z' : Led} (g : Ex l z l' z') (hs : ∀ p ∈ z, p ∈ l) : ∀ p ∈ z', p ∈ l' := by
  obtain ⟨t, rfl, rfl, u⟩ := g
  exact fun p h => (List.mem_append.mp h).elim (fun h => List.mem_append_left _ h) fun h => List.mem_append_right _ (hs p h)
theorem Ex.apart {l z l' z' : Led} (g : Ex l z l' z') {a : Addr} {o : Obj} (ha : (a, o) ∈ l) (hz : ∀ p ∈ z, p.1 ≠ a) : ∀ p ∈ z', p.1 ≠ a := by
  obtain ⟨t, rfl, rfl, u⟩ := g
  exact fun p h => (List.mem_append.mp h).elim (fun h => u.ne ha p h) fun h => hz p h
theorem News.sub {h₀ h : Heap} {L : Addr} {l l' : Led} (N : News h₀ L h l) (hs : ∀ p ∈ l', p ∈ l) : News h₀ L h l' := fun p hp => N p (hs p hp)
/-- what was made on the way to l₀ is let go -/
theorem Ex.drop {h₀ h : Heap} {L : Addr} {l l₀ z l' z' : Led} (g : Ex l₀ z l' z') (N : News h₀ L h l') (hl : ∀ p ∈ l, p ∈ l₀) : ∃ l₁, News h₀ L h l₁ ∧ Ex l z l₁ z' := by
  obtain ⟨t, rfl, rfl, u⟩ := g
  exact ⟨t ++ l, News.sub N fun p h => (List.mem_append.mp h).elim (fun h => List.mem_append_left _ h) fun h => List.mem_append_right _ (hl p h), t, rfl, rfl, u.sub hl⟩
theorem sub_cons {q : Addr × Obj} {z l : Led} (h : ∀ p ∈ z, p ∈ l) : ∀ p ∈ z, p ∈ q :: l := fun p hp => .tail _ (h p hp)
theorem mem_up {q : Addr × Obj} {z l : Led} (h : ∀ p ∈ z, p ∈ l) (k : q ∈ z) : q ∈ l := h q k
theorem sub_self {l : Led} : ∀ p ∈ l, p ∈ l := fun _ h => h

/-- l grows to l' (kept apart from the frozen part's own rows) -/
def Grow (l l' : Led) : Prop := ∀ p ∈ l, p ∈ l'
theorem Grow.of {l z l' z' : Led} (g : Ex l z l' z') : Grow l l' := g.ll
theorem mem_grow {q : Addr × Obj} {l l' : Led} (g : Grow l l') (k : q ∈ l) : q ∈ l' := g q k

/-- a stop for the walk: what is in it is walked by hand -/
def Stop (P : Prop) : Prop := P
theorem Stop.out {P : Prop} (h : Stop P) : P := h
theorem Stop.in {P : Prop} (h : P) : Stop P := h
theorem len_ints {prog : Program} {w : World} {A : Around} {E : Value → Shared → Prop} {s : Shared} {l : Addr} {vs : List Value} {ns : List Int} {Q : Value → Shared → Prop} (hl : s.heap.IsList l vs.toArray) (hi : IntsAre vs ns) (hf : ns.length < 2 ^ 62)
    (h : Q (.int ns.length (s.toks + 1)) { s with toks := s.toks + 1 + 1 }) : wpAny (model prog w) A (call (.builtin "len") [.ref l]) Q E s := by
  have e : vs.toArray.size = ns.length := by simp [hi.length]
  exact call_len_list hl (by rw [e]; omega) (by rw [e]; exact h)
local macro_rules | `(tactic| k_all) => `(tactic| assumption)
local macro_rules | `(tactic| k_room) => `(tactic| ktr_room)
local macro_rules | `(tactic| k_units) => `(tactic| first | ktr_units | (have hcL9 := cLine_is; (simp only [units_under_make, units_in1, units_deeper, Around.mark_units, units_caller]); (try dsimp only [ktrTop]); omega))
local macro_rules | `(tactic| kxt_pos) => `(tactic| first | with_reducible assumption | exact List.mem_cons_self | (refine List.mem_cons_of_mem _ ?_; kxt_pos) | (refine' mem_grow ?s8 ?m8; (case s8 => with_reducible assumption); (case m8 => kxt_pos)) | (refine' mem_up ?s9 ?m9; (case s9 => with_reducible assumption); (case m9 => kxt_pos)) | fail "M mem")
local macro_rules | `(tactic| k_mem) => `(tactic| kxt_pos)
local macro_rules | `(tactic| news_mem) => `(tactic| k_mem)
local macro_rules | `(tactic| walk_at "call builtin:len") => `(tactic| (k_here; (with_reducible show wpAny _ _ (call (Value.builtin "len") [Value.ref _]) _ _ _); k_dflt (refine' len_ints ?k1 ?k2 ?k3 ?_; (case k1 => exact News.isList (by k_asm) (by k_mem)); (case k2 => assumption); (case k3 => omega); k_whole)))
local macro_rules | `(tactic| kqd_sub) => `(tactic| (refine wpAny_call ?_; k_dflt ktr_enter; k_steps))
local macro_rules | `(tactic| kc_close) => `(tactic| (k_dflt (refine' call_cls ?k1 ?k2 ?k3 ?k4 ?k5 ?k6 ?_; (case k1 => k_asm); (case k2 => k_asm); (case k3 => k_asm); (case k4 => k_is); (case k5 => k_is); (case k6 => k_is); k_whole; intro x' d' h' F' N' l1 l2; (try k_lt l1); (try k_lt2 l2); (try k_sweep); ktr_enter); k_steps))
theorem draw_ok {w : World} {mean : ExcName → Option Value} {mg mb : Str → Option Value} {tape cells : Addr} {e1 e2 : Nat} {vs : List Value} {ns : List Int} {i : Int} {t1 : Tok} {lim : Int} {tl : Tok} {rest : Led}
    (ha : ∀ p ∈ rest, p.1 ≠ tape) (hI : IntsAre vs ns) (hc : (cells, W.listOf vs.toArray e2) ∈ rest) (hi : 0 ≤ i) (hi2 : i < 1000) (hn : 0 < (ns.length : Int)) (hl : ns.length ≤ 60) (hlim : 0 < lim) (hlim2 : lim < 100) :
    Fn w mean mg mb 773 3 [.ref tape, .int lim tl] ((tape, W.listOf #[.ref cells, .int i t1] e1) :: rest)
      (fun r news' => ∃ t r' tr, r = .int r' tr ∧ 0 ≤ r' ∧ r' < lim ∧ news' = (tape, W.listOf #[.ref cells, .int (i + 1) t] e1) :: rest) := by
  unfold Fn
  k_fill
  intro dp un gd cn cs a ccd cl outer A₀ base h₀ L m s Q E B F X N T hk hd hu hret
  kqd_sub
  exact hret _ _ _ _ (by assumption) (by assumption) ⟨_, _, _, rfl, fmod_lo _ hlim, fmod_hi _ hlim, rfl⟩

/-- a number object: class Decimal, its dict, its two ints -/
inductive IsD (news : Led) : Value → Nat → Prop
  | mk {x dx : Addr} {h1 h2 : Int} {k1 k2 t1 t2 : Tok} {ep n : Nat} {top pl : Int} (hx : (x, W.instObj 167 dx) ∈ news) (hdx : (dx, W.dictOf [⟨h1, .str (Str.ofString "top") k1, .int top t1⟩, ⟨h2, .str (Str.ofString "places") k2, .int pl t2⟩] ep) ∈ news)
      (hp : 0 ≤ pl) (hn : pl ≤ n) (hb : top.natAbs ≤ 10 ^ (n + pl.toNat)) : IsD news (.ref x) n
theorem IsD.mono {l l' : Led} {v : Value} {n : Nat} (h : IsD l v n) (s : ∀ p ∈ l, p ∈ l') : IsD l' v n := by
  cases h with
  | mk hx hdx hp hn hb => exact .mk (s _ hx) (s _ hdx) hp hn hb
theorem IsD.more {l : Led} {v : Value} {n n' : Nat} (h : IsD l v n) (s : n ≤ n') : IsD l v n' := by
  cases h with
  | mk hx hdx hp hn hb => exact .mk hx hdx hp (by omega) (Nat.le_trans hb (Nat.pow_le_pow_right (by decide) (by omega)))
/-- the frame of Decimal.__init__ within its loop -/
def decM (m : Str → Option Value) (top pl : Int) (t1 t2 : Tok) : Str → Option Value := fun y => if y = Str.ofString "places" then some (.int pl t2) else if y = Str.ofString "top" then some (.int top t1) else m y
def decJ (m : Str → Option Value) (l : Led) (n : Nat) (k : Nat) (m1 : Str → Option Value) (l1 : Led) : Prop :=
  l1 = l ∧ ∃ top pl t1 t2, m1 = decM m top pl t1 t2 ∧ 0 ≤ pl ∧ pl ≤ n ∧ top.natAbs ≤ 10 ^ (n + pl.toNat) ∧ k = pl.toNat
theorem decJ.start {m : Str → Option Value} {l : Led} {n : Nat} {top pl : Int} {t1 t2 : Tok} (hm : m = decM m top pl t1 t2) (hp : 0 ≤ pl) (hn : pl ≤ n) (hb : top.natAbs ≤ 10 ^ (n + pl.toNat)) : decJ m l n pl.toNat m l :=
  ⟨rfl, top, pl, t1, t2, hm, hp, hn, hb, rfl⟩
theorem decM_over {m : Str → Option Value} {top pl t p : Int} {t1 t2 u1 u2 : Tok} : (fun y => if y = Str.ofString "places" then some (.int p u2) else if y = Str.ofString "top" then some (.int t u1) else decM m top pl t1 t2 y) = decM m t p u1 u2 := by
  funext y
  unfold decM
  split
  · rfl
  · split
    · rfl
    · rename_i h1 h2
      simp only [if_neg h1, if_neg h2]
theorem decJ.turn {m : Str → Option Value} {l : Led} {n : Nat} {top pl : Int} {t1 t2 u1 u2 : Tok} (hp : 0 < pl) (hn : pl ≤ n) (hb : top.natAbs ≤ 10 ^ (n + pl.toNat)) (h0 : top.fmod 10 = 0) :
    decJ m l n (pl - 1).toNat (fun y => if y = Str.ofString "places" then some (.int (pl - 1) u2) else if y = Str.ofString "top" then some (.int (top.fdiv 10) u1) else decM m top pl t1 t2 y) l := by
  refine ⟨rfl, top.fdiv 10, pl - 1, u1, u2, decM_over, by omega, by omega, ?_, rfl⟩
  have e : n + pl.toNat = n + (pl - 1).toNat + 1 := by omega
  rw [e, Nat.pow_succ] at hb
  have h1 : top.fdiv 10 = top / 10 := Int.fdiv_eq_ediv_of_nonneg _ (by decide)
  have h2 : top.fmod 10 = top % 10 := Int.fmod_eq_emod_of_nonneg _ (by decide)
  rw [h2] at h0
  rw [h1]
  generalize 10 ^ (n + (pl - 1).toNat) = X at hb ⊢
  omega
local macro_rules | `(tactic| walk_at "exec While BoolOp") => `(tactic| (refine Stop.out ?_; walk_say "STOP"))
theorem decNew_ok {w : World} {mean : ExcName → Option Value} {mg mb : Str → Option Value} {l z : Led} {top pl : Int} {t1 t2 : Tok} {n : Nat} (hs : ∀ p ∈ z, p ∈ l) (hp : 0 ≤ pl) (hn : pl ≤ n) (hb : top.natAbs ≤ 10 ^ (n + pl.toNat)) :
    Fn w mean mg mb 167 4 [.int top t1, .int pl t2] l (fun r l' => ∃ z', Ex l z l' z' ∧ IsD z' r n) := by
  unfold Fn
  k_fill
  intro dp un gd cn cs a ccd cl outer A₀ base h₀ L m s Q E B F X N T hk hd hu hret
  kc_close
  refine Stop.in ?_
  rename Fr _ _ _ _ => lF
  rename News _ _ _ _ => lN
  refine While_inv (decJ _ _ n) lF lN (decJ.start (t1 := t1) (t2 := t2) ?_ hp hn hb) ?_ ?_
  · funext y
    unfold decM
    split
    · subst_vars; rfl
    · split
      · subst_vars; rfl
      · rfl
  · clear lF lN
    rintro k m1 l1 h1 tk1 F1 N1 ⟨rfl, top', pl', t1', t2', rfl, hp', hn', hb', rfl⟩
    k_steps
    · exact WhileStep.intro (by assumption) (by assumption) (n' := (pl' - 1).toNat) (by omega) (decJ.turn (by assumption) hn' hb' (by assumption))
    all_goals exact hret _ _ _ _ (by assumption) (by assumption) ⟨_, Ex.two (by assumption) (by assumption), IsD.mk (.head _) (.tail _ (.head _)) hp' hn' hb'⟩
  · passes_own

inductive IsNum (z : Led) : Value → Nat → Prop
  | dec {v : Value} {n : Nat} (h : IsD z v n) : IsNum z v n
  | int {i : Int} {t : Tok} {n : Nat} (h : i.natAbs ≤ 10 ^ n) : IsNum z (.int i t) n
theorem IsNum.mono {l l' : Led} {v : Value} {n : Nat} (h : IsNum l v n) (s : ∀ p ∈ l, p ∈ l') : IsNum l' v n := by
  cases h with
  | dec h => exact .dec (h.mono s)
  | int h => exact .int h
theorem IsD.isRef {l : Led} {v : Value} {n : Nat} (h : IsD l v n) : ∃ x, v = .ref x := by
  cases h; exact ⟨_, rfl⟩
theorem pow_le_one (n : Nat) : (1 : Int).natAbs ≤ 10 ^ n := Nat.one_le_pow _ _ (by decide)
theorem pow_le_nil (n : Nat) : (0 : Int).natAbs ≤ 10 ^ n := Nat.zero_le _
theorem IsNum.more {l : Led} {v : Value} {n n' : Nat} (h : IsNum l v n) (s : n ≤ n') : IsNum l v n' := by
  cases h with
  | dec h => exact .dec (h.more s)
  | int h => exact .int (Nat.le_trans h (Nat.pow_le_pow_right (by decide) s))
theorem sub_trans {a b c : Led} (h : ∀ p ∈ a, p ∈ b) (k : ∀ p ∈ b, p ∈ c) : ∀ p ∈ a, p ∈ c := fun p hp => k p (h p hp)
theorem IsD.at {l l' : Led} {v : Value} {n n' : Nat} (h : IsD l v n) (s : ∀ p ∈ l, p ∈ l') (e : n ≤ n') : IsD l' v n' := (h.mono s).more e
theorem IsNum.at {l l' : Led} {v : Value} {n n' : Nat} (h : IsNum l v n) (s : ∀ p ∈ l, p ∈ l') (e : n ≤ n') : IsNum l' v n' := (h.mono s).more e
theorem IsNum.atD {l l' : Led} {v : Value} {n n' : Nat} (h : IsD l v n) (s : ∀ p ∈ l, p ∈ l') (e : n ≤ n') : IsNum l' v n' := .dec (h.at s e)
local macro_rules | `(tactic| kpt_turns) => `(tactic| (first | with_reducible assumption | (refine' sub_cons ?a9; (case a9 => kpt_turns)) | fail "M sub"))
local macro_rules | `(tactic| kat_tups) => `(tactic| (first | assumption | (simpa using (by assumption))))
local macro_rules | `(tactic| kt_eqs) => `(tactic| (first | with_reducible assumption | exact sub_self | (refine' sub_trans ?a9 ?b9; (case b9 => with_reducible assumption); (case a9 => kt_eqs)) | fail "M zz"))
local macro_rules | `(tactic| kwd_inv) => `(tactic| (refine' IsD.at ?h9 ?s9 ?n9; (case h9 => with_reducible assumption); (case s9 => kt_eqs); (case n9 => first | exact Nat.le_refl _ | omega)))
local macro_rules | `(tactic| ktd_rel) => `(tactic| (first | exact IsNum.int (pow_le_nil _) | exact IsNum.int (pow_le_one _) | (refine' IsNum.atD ?h9 ?s9 ?n9; (case h9 => with_reducible assumption); (case s9 => kt_eqs); (case n9 => first | exact Nat.le_refl _ | omega)) | (refine' IsNum.at ?h9 ?s9 ?n9; (case h9 => with_reducible assumption); (case s9 => kt_eqs); (case n9 => first | exact Nat.le_refl _ | omega)) | fail "M isN"))
local macro_rules | `(tactic| kwd_rel) => `(tactic| (first | ktd_rel | kwd_inv | fail "M isd"))
local macro_rules | `(tactic| kas_types) => `(tactic| first | ktr_units | (have hcL9 := cLine_is; (simp only [units_under_make, units_in1, units_deeper, Around.mark_units, units_caller]); (try dsimp only [ktrTop]); omega))
local macro_rules | `(tactic| kaf_pre) => `(tactic| ((case B => k_asm); (case F => k_asm); (case X => k_asm); (case N => k_asm); (case T => k_asm); (case kK => first | exact rfl | assumption); (case kd => ktr_room); (case ku => kas_types)))
local macro_rules | `(tactic| walk_at "call ref") => `(tactic| (k_here; (with_reducible show wpAny _ _ (call (Value.ref 167) [Value.int _ _, Value.int _ _]) _ _ _); k_dflt (refine' Fn.use (decNew_ok (n := ?n) ?hs ?h1 ?h2 ?h3) ?B ?F ?X ?N ?T ?kK ?kd ?ku ?_); kaf_pre; (case hs => kpt_turns); (case h3 => kat_tups); (case h1 => first | assumption | decide | omega); (case h2 => first | assumption | exact Int.natCast_nonneg _ | omega);rintro r' l' h' tk' F' N' ⟨z', G', D'⟩; (have hz' := Ex.zz G'); (have hl' := Ex.zl G' (by kpt_turns)); (try dsimp only); (try k_fold)))
theorem decOf_ok {w : World} {mean : ExcName → Option Value} {mg mb : Str → Option Value} {l z : Led} {v : Value} {n : Nat} (hs : ∀ p ∈ z, p ∈ l) (hv : IsNum z v n) :
    Fn w mean mg mb 185 6 [v] l (fun r l' => ∃ z', Ex l z l' z' ∧ IsD z' r n) := by
  unfold Fn
  k_fill
  intro dp un gd cn cs a ccd cl outer A₀ base h₀ L m s Q E B F X N T hk hd hu hret
  cases hv with
  | dec h =>
    have h' := h
    cases h with
    | mk hx hdx hp hn hb =>
      kqd_sub
      exact hret _ _ _ _ (by assumption) (by assumption) ⟨_, Ex.refl, h'⟩
  | int h =>
    kqd_sub
    exact hret _ _ _ _ (by assumption) (by assumption) ⟨_, by assumption, by assumption⟩
theorem ten_lt (x : Nat) : 10 ^ x < 2 ^ (4 * x + 1) := by
  have h1 : 10 ^ x ≤ 16 ^ x := Nat.pow_le_pow_left (by decide) x
  have h2 : (16 : Nat) ^ x = 2 ^ (4 * x) := by rw [Nat.pow_mul]
  rw [h2] at h1
  exact Nat.lt_of_le_of_lt h1 (Nat.pow_lt_pow_right (by decide) (by omega))
theorem mulOk {a b : Int} {x y : Nat} (ha : a.natAbs ≤ 10 ^ x) (hb : b.natAbs ≤ 10 ^ y) (hx : x ≤ 100000) (hy : y ≤ 100000) : IntMulOk a b := by
  have h1 : Builtin.Int.intBits a ≤ 4 * x + 1 := intBits_le_iff.mpr (Nat.lt_of_le_of_lt ha (ten_lt x))
  have h2 : Builtin.Int.intBits b ≤ 4 * y + 1 := intBits_le_iff.mpr (Nat.lt_of_le_of_lt hb (ten_lt y))
  unfold IntMulOk Builtin.Int.intTooBig
  have h3 : bitsLine = 134217728 := by decide
  intro h
  rw [h3] at h
  simp only [Bool.and_eq_true, decide_eq_true_eq] at h
  omega
theorem mul_bound {a b : Int} {x y n p q r : Nat} (ha : a.natAbs ≤ 10 ^ (x + p)) (hb : b.natAbs ≤ 10 ^ (y + q)) (hn : x + y ≤ n) (hr : r = p + q) : (a * b).natAbs ≤ 10 ^ (n + r) := by
  rw [Int.natAbs_mul]
  refine Nat.le_trans (Nat.mul_le_mul ha hb) ?_
  rw [← Nat.pow_add]
  exact Nat.pow_le_pow_right (by decide) (by omega)
local macro_rules | `(tactic| walk_at "binaryOp Mult int int") => `(tactic| (refine PyProof.Rows.mul_int ?_ (mulOk (by assumption) (by assumption) (by omega) (by omega))))
local macro_rules | `(tactic| kat_tups) => `(tactic| (exact mul_bound (by assumption) (by assumption) (by assumption) (by omega)))
local macro_rules | `(tactic| walk_at "call ref") => `(tactic| (k_here; (with_reducible show wpAny _ _ (call (Value.ref 185) [_]) _ _ _); k_dflt (refine' Fn.use (decOf_ok ?hs ?h1) ?B ?F ?X ?N ?T ?kK ?kd ?ku ?_); kaf_pre; (case hs => kpt_turns); (case h1 => kwd_rel); rintro r' l' h' tk' F' N' ⟨z', G', D'⟩; (have D'' := D'); (rcases D' with ⟨hx', hdx', hp', hn', hb'⟩); (have hz' := Ex.zz G'); (have hl' := Ex.zl G' (by kpt_turns)); (try dsimp only); (try k_fold)))
theorem times_ok {w : World} {mean : ExcName → Option Value} {mg mb : Str → Option Value} {l z : Led} {a v : Value} {n1 n2 n : Nat} (hs : ∀ p ∈ z, p ∈ l) (ha : IsD z a n1) (hv : IsNum z v n2) (hn : n1 + n2 ≤ n) (hb : n ≤ 4000) :
    Fn w mean mg mb 108 12 [a, v] l (fun r l' => ∃ z', Ex l z l' z' ∧ IsD z' r n) := by
  unfold Fn
  k_fill
  intro dp un gd cn cs a ccd cl outer A₀ base h₀ L m s Q E B F X N T hk hd hu hret
  cases ha with
  | mk hx1 hdx1 hp1 hn1 hb1 =>
  kqd_sub
  exact hret _ _ _ _ (by assumption) (by assumption) ⟨_, Ex.trans (by assumption) (by assumption), by assumption⟩

theorem pow10_abs (k : Nat) : ((10 : Int) ^ k).natAbs ≤ 10 ^ k := by
  rw [Int.natAbs_pow]
  exact Nat.le_refl _
theorem scaled {t : Int} {n n1 : Nat} {p P : Int} (h : t.natAbs ≤ 10 ^ (n1 + p.toNat)) (hp : 0 ≤ p) (hP : p ≤ P) (hn : n1 ≤ n) : (t * 10 ^ (P - p).toNat).natAbs ≤ 10 ^ (n + P.toNat) := by
  rw [Int.natAbs_mul]
  refine Nat.le_trans (Nat.mul_le_mul h (pow10_abs _)) ?_
  rw [← Nat.pow_add]
  exact Nat.pow_le_pow_right (by decide) (by omega)
theorem add_bound {t1 t2 p1 p2 P : Int} {n1 n2 n : Nat} (h1 : t1.natAbs ≤ 10 ^ (n1 + p1.toNat)) (h2 : t2.natAbs ≤ 10 ^ (n2 + p2.toNat)) (hp1 : 0 ≤ p1) (hp2 : 0 ≤ p2) (hP1 : p1 ≤ P) (hP2 : p2 ≤ P) (hn1 : n1 + 1 ≤ n) (hn2 : n2 + 1 ≤ n) :
    (t1 * 10 ^ (P - p1).toNat + t2 * 10 ^ (P - p2).toNat).natAbs ≤ 10 ^ (n + P.toNat) := by
  obtain ⟨k, rfl⟩ : ∃ k, n = k + 1 := ⟨n - 1, by omega⟩
  have a := scaled (P := P) (n := k) h1 hp1 hP1 (by omega)
  have b := scaled (P := P) (n := k) h2 hp2 hP2 (by omega)
  have e : k + 1 + P.toNat = (k + P.toNat) + 1 := by omega
  rw [e, Nat.pow_succ]
  refine Nat.le_trans (Int.natAbs_add_le _ _) ?_
  omega
theorem maxI {prog : Program} {w : World} {A : Around} {E : Value → Shared → Prop} {s : Shared} {h₀ : Heap} {L : Addr} {m : Str → Option Value} {news : Led} {a b : Int} {t u : Tok} {Q : Value → Shared → Prop} (hh : A.handled = none) (F : Fr h₀ L s.heap m) (N : News h₀ L s.heap news)
    (h : ∀ c v h' tk, a ≤ c → b ≤ c → (c = a ∨ c = b) → Fr h₀ L h' m → News h₀ L h' news → Q (.int c v) { s with heap := h', toks := tk }) :
    wpAny (model prog w) A (call (.builtin "max") [.int a t, .int b u]) Q E s :=
  max_two_N hh F N fun h' tk F' N' => h _ _ h' tk (by split <;> omega) (by split <;> omega) (by split <;> simp) F' N'
local macro_rules | `(tactic| walk_at "binaryOp Pow int int") => `(tactic| (k_here; with_reducible refine pow_int_small (by omega) (by omega) (by decide) ?_))
local macro_rules | `(tactic| walk_at "call builtin:max") => `(tactic| (k_here; (with_reducible show wpAny _ _ (call (Value.builtin _) [Value.int _ _, Value.int _ _]) _ _ _); k_dflt (refine' maxI ?k1 ?k2 ?k3 ?_; (case k1 => exact rfl); (case k2 => k_asm); (case k3 => k_asm)); intro c' v' h' tk' hc1' hc2' hc3' F' N'; (try dsimp only); (try k_fold)))
local macro_rules | `(tactic| walk_at "binaryOp Mult int int") => `(tactic| (refine PyProof.Rows.mul_int ?_ (mulOk (by assumption) (pow10_abs _) (by omega) (by omega))))
local macro_rules | `(tactic| kat_tups) => `(tactic| (exact add_bound (by assumption) (by assumption) (by omega) (by omega) (by omega) (by omega) (by assumption) (by assumption)))
theorem plus_ok {w : World} {mean : ExcName → Option Value} {mg mb : Str → Option Value} {l z : Led} {a v : Value} {n1 n2 n : Nat} (hs : ∀ p ∈ z, p ∈ l) (ha : IsD z a n1) (hv : IsD z v n2) (hn1 : n1 + 1 ≤ n) (hn2 : n2 + 1 ≤ n) (hb : n ≤ 4000) :
    Fn w mean mg mb 94 16 [a, v] l (fun r l' => ∃ z', Ex l z l' z' ∧ IsD z' r n) := by
  unfold Fn
  k_fill
  intro dp un gd cn cs a ccd cl outer A₀ base h₀ L m s Q E B F X N T hk hd hu hret
  cases ha with
  | mk hx1 hdx1 hp1 hn1 hb1 =>
  cases hv with
  | mk hx2 hdx2 hp2 hn2 hb2 =>
  kqd_sub
  rename Ex (_ :: _) _ _ _ => G3
  obtain ⟨l₁, N₁, E₁⟩ := Ex.drop G3 (by assumption) (sub_cons sub_self)
  exact hret _ _ _ _ (by assumption) N₁ ⟨_, Ex.trans (Ex.trans (by assumption) (by assumption)) E₁, by assumption⟩
theorem negated_ok {w : World} {mean : ExcName → Option Value} {mg mb : Str → Option Value} {l z : Led} {a : Value} {n : Nat} (hs : ∀ p ∈ z, p ∈ l) (ha : IsD z a n) :
    Fn w mean mg mb 115 8 [a] l (fun r l' => ∃ z', Ex l z l' z' ∧ IsD z' r n) := by
  unfold Fn
  k_fill
  intro dp un gd cn cs a ccd cl outer A₀ base h₀ L m s Q E B F X N T hk hd hu hret
  cases ha with
  | mk hx1 hdx1 hp1 hn1 hb1 =>
  rw [← Int.natAbs_neg] at hb1
  kqd_sub
  exact hret _ _ _ _ (by assumption) (by assumption) ⟨_, by assumption, by assumption⟩

theorem decOfD_ok {w : World} {mean : ExcName → Option Value} {mg mb : Str → Option Value} {l z : Led} {v : Value} {n : Nat} (hs : ∀ p ∈ z, p ∈ l) (hv : IsD z v n) :
    Fn w mean mg mb 185 6 [v] l (fun r l' => r = v ∧ l' = l) := by
  unfold Fn
  k_fill
  intro dp un gd cn cs a ccd cl outer A₀ base h₀ L m s Q E B F X N T hk hd hu hret
  cases hv with
  | mk hx hdx hp hn hb =>
    kqd_sub
    exact hret _ _ _ _ (by assumption) (by assumption) ⟨rfl, rfl⟩
/-- a matrix: six numbers -/
inductive IsM (z : Led) : Value → Nat → Prop
  | mk {x dx : Addr} {h1 h2 h3 h4 h5 h6 : Int} {k1 k2 k3 k4 k5 k6 : Tok} {ep n : Nat} {a b c d e f : Addr} (hx : (x, W.instObj 350 dx) ∈ z)
      (hdx : (dx, W.dictOf [⟨h1, .str (Str.ofString "a") k1, .ref a⟩, ⟨h2, .str (Str.ofString "b") k2, .ref b⟩, ⟨h3, .str (Str.ofString "c") k3, .ref c⟩, ⟨h4, .str (Str.ofString "d") k4, .ref d⟩, ⟨h5, .str (Str.ofString "e") k5, .ref e⟩, ⟨h6, .str (Str.ofString "f") k6, .ref f⟩] ep) ∈ z)
      (ha : IsD z (.ref a) n) (hb : IsD z (.ref b) n) (hc : IsD z (.ref c) n) (hd : IsD z (.ref d) n) (he : IsD z (.ref e) n) (hf : IsD z (.ref f) n) : IsM z (.ref x) n
theorem IsM.mono {l l' : Led} {v : Value} {n : Nat} (h : IsM l v n) (s : ∀ p ∈ l, p ∈ l') : IsM l' v n := by
  cases h with
  | mk hx hdx ha hb hc hd he hf => exact .mk (s _ hx) (s _ hdx) (ha.mono s) (hb.mono s) (hc.mono s) (hd.mono s) (he.mono s) (hf.mono s)
theorem IsM.more {l : Led} {v : Value} {n n' : Nat} (h : IsM l v n) (s : n ≤ n') : IsM l v n' := by
  cases h with
  | mk hx hdx ha hb hc hd he hf => exact .mk hx hdx (ha.more s) (hb.more s) (hc.more s) (hd.more s) (he.more s) (hf.more s)
theorem IsM.isRef {l : Led} {v : Value} {n : Nat} (h : IsM l v n) : ∃ x, v = .ref x := by
  cases h; exact ⟨_, rfl⟩
theorem mem_sub {z : Led} {q : Addr × Obj} : ∀ p ∈ z, p ∈ q :: z := fun _ h => .tail _ h
/-- none of l lies at one of as -/
def Off (as : List Addr) (l : Led) : Prop := ∀ p ∈ l, p.1 ∉ as
theorem Off.nil {l : Led} : Off [] l := fun _ _ h => nomatch h
theorem Off.ne {as : List Addr} {l : Led} {a : Addr} (o : Off as l) (h : a ∈ as) : ∀ p ∈ l, p.1 ≠ a := fun p hp e => o p hp (e ▸ h)
theorem Off.one {l : Led} {a : Addr} (h : ∀ p ∈ l, p.1 ≠ a) : Off [a] l := fun p hp e => h p hp (List.mem_singleton.mp e)
theorem Off.cons {l : Led} {a : Addr} {as : List Addr} (h : ∀ p ∈ l, p.1 ≠ a) (o : Off as l) : Off (a :: as) l := fun p hp e => (List.mem_cons.mp e).elim (h p hp) (o p hp)
theorem Off.tail {l : Led} {a : Addr} {as : List Addr} (o : Off (a :: as) l) : Off as l := fun p hp e => o p hp (.tail _ e)
theorem Off.up {l : Led} {as : List Addr} {t : Led} (o : Off as l) (h : ∀ p ∈ t, p.1 ∉ as) : Off as (t ++ l) := fun p hp => (List.mem_append.mp hp).elim (h p) (o p)
theorem ne_of_ltAll {l : Led} {a : Addr} (h : ∀ p ∈ l, p.1 < a) : ∀ p ∈ l, p.1 ≠ a := fun p hp => Nat.ne_of_lt (h p hp)
theorem Off.cls {l : Led} {x d : Addr} (h : ∀ p ∈ l, p.1 < d) (k : d < x) : Off [x, d] l := .cons (fun p hp => Nat.ne_of_lt (Nat.lt_trans (h p hp) k)) (.one (ne_of_ltAll h))
theorem Ex.cls {l z l' z' : Led} {x d : Addr} {o o2 : Obj} (g : Ex l z l' z') (h : ∀ p ∈ l, p.1 < d) (k : d < x) : Ex l z ((x, o) :: (d, o2) :: l') ((x, o) :: (d, o2) :: z') := by
  obtain ⟨t, rfl, rfl, u⟩ := g
  refine ⟨(x, o) :: (d, o2) :: t, rfl, rfl, fun p hp q hq => ?_⟩
  rcases List.mem_cons.mp hp with rfl | hp
  · exact Nat.ne_of_lt (Nat.lt_trans (h q hq) k)
  · rcases List.mem_cons.mp hp with rfl | hp
    · exact Nat.ne_of_lt (h q hq)
    · exact u p hp q hq
theorem mem_sub2 {z : Led} {q q2 : Addr × Obj} : ∀ p ∈ z, p ∈ q :: q2 :: z := fun _ h => .tail _ (.tail _ h)
theorem sub_on {M z l : Led} (h : ∀ p ∈ z, p ∈ l) : ∀ p ∈ z, p ∈ M ++ l := fun p hp => List.mem_append_right _ (h p hp)
/-- a call over mutable cells M and the rest l, of which z is frozen -/
theorem Fn.useM {w : World} {mean : ExcName → Option Value} {mg mb : Str → Option Value} {f : Addr} {k : Nat} {vs : List Value} {M l z : Led} {P : Led → Value → Prop}
    {dp un : Nat} {gd : Option (List Code)} {cn : Str} {cs : Scope} {a : Addr} {ccd : Value} {cl : List (Str × Addr)} {outer : List Env} {A₀ : Around} {base h₀ : Heap} {L : Addr} {m : Str → Option Value} {s : Shared} {Q E : Value → Shared → Prop}
    (N : News h₀ L s.heap (M ++ l)) (hs : ∀ p ∈ z, p ∈ l)
    (C : Fn w mean mg mb f k vs (M ++ l) (fun r l' => ∃ z', Ex (M ++ l) z l' z' ∧ P z' r))
    (B : Below A₀ base outer h₀) (F : Fr h₀ L s.heap m) (X : (hd.heap_39 w.params).In h₀) (T : Top hd.view_39 (looseW hd.view_39 [Str.ofString "PaperError", Str.ofString "OTHER_CODES"]) mean mg mb h₀) (hk : cs.kind = .function) (hd : dp + k < recursionLimit) (hu : un + 8 * k < cLine)
    (O : Off (M.map (·.1)) l)
    (ret : ∀ r l₂ z₂ h' tk', Fr h₀ L h' m → News h₀ L h' (M ++ l₂) → Ex l z l₂ z₂ → (∀ p ∈ z, p ∈ z₂) → (∀ p ∈ z₂, p ∈ l₂) → Off (M.map (·.1)) l₂ → P z₂ r → Q r { s with heap := h', toks := tk' }) :
    wpAny (model PySem.Challenge.rw_og0194_01.row.prog w) (ktrTop dp un gd cn cs L a ccd cl outer) (call (.ref f) vs) Q E s := by
  refine Fn.use C B F X N T hk hd hu ?_
  rintro r l' h' tk' F' N' ⟨z', ⟨t, rfl, rfl, u⟩, p⟩
  refine ret r (t ++ l) (t ++ z) h' tk' F' (News.sub N' fun p h => ?_) ⟨t, rfl, rfl, u.sub fun p h => List.mem_append_right _ h⟩ (fun p h => List.mem_append_right _ h) (fun p h => (List.mem_append.mp h).elim (List.mem_append_left _) fun h => List.mem_append_right _ (hs p h)) (O.up fun p hp e => ?_) p
  · simp only [List.mem_append] at h ⊢
    rcases h with h | h | h <;> simp [h]
  · obtain ⟨q, hq, e⟩ := List.mem_map.mp e
    exact u p hp q (List.mem_append_left _ hq) e
local macro_rules | `(tactic| k_all) => `(tactic| exact Off.ne (by with_reducible assumption) (by repeat (first | exact List.Mem.head _ | refine List.Mem.tail _ ?_)))
local macro_rules | `(tactic| kba_ints) => `(tactic| (k_dflt (refine' call_cls ?k1 ?k2 ?k3 ?k4 ?k5 ?k6 ?_; (case k1 => k_asm); (case k2 => k_asm); (case k3 => k_asm); (case k4 => k_is); (case k5 => k_is); (case k6 => k_is); k_whole; intro x' d' h' F' N' l1 l2; (have o' := Off.cls l1 l2); (try k_lt l1); (try k_lt2 l2); (try k_sweep); ktr_enter); k_steps))
local macro_rules | `(tactic| ktu_off1L) => `(tactic| (first | with_reducible assumption | exact Ex.refl | (refine Ex.trans ?_ (by with_reducible assumption); ktu_off1L) | fail "M ex"))
local macro_rules | `(tactic| kaf_suf) => `(tactic| ((case B => k_asm); (case F => k_asm); (case X => k_asm); (case T => k_asm); (case kK => first | exact rfl | with_reducible assumption); (case kd => ktr_room); (case ku => kas_types); (case O => first | exact Off.nil | assumption)))
local macro_rules | `(tactic| walk_at "M got") => `(tactic| (rintro r' l' z' h' tk' F' N' G' hz' hl' O' D'; (try simp only [List.cons_append, List.nil_append, List.map_cons, List.map_nil] at N' O')))
section
local macro_rules | `(tactic| walk_at "call ref") => `(tactic| (k_here; (with_reducible show wpAny _ _ (call (Value.ref _) _) _ _ _); (refine Stop.out ?_; walk_say "STOP")))
local macro_rules | `(tactic| walk_at "call ref") => `(tactic| (k_here; (with_reducible show wpAny _ _ (call (Value.ref 185) _) _ _ _); k_dflt ((refine' Fn.useM (M := [_, _]) ?N ?hs (decOf_ok (sub_on ?hs) ?h1) ?B ?F ?X ?T ?kK ?kd ?ku ?O ?_); (case N => k_asm); (case hs => with_reducible assumption); kaf_suf; (case h1 => kwd_rel); rintro r' l' z' h' tk' F' N' G' hz' hl' O' D'; (have hG' := Grow.of G')); (try simp only [List.cons_append, List.nil_append, List.map_cons, List.map_nil] at N' O'); (obtain ⟨x', er'⟩ := IsD.isRef D'); subst er'; (try dsimp only); (try k_fold)))
theorem matNew_ok {w : World} {mean : ExcName → Option Value} {mg mb : Str → Option Value} {l z : Led} {a b c d e f : Value} {n : Nat} (hs : ∀ p ∈ z, p ∈ l)
    (ha : IsNum z a n) (hb : IsNum z b n) (hc : IsNum z c n) (hd : IsNum z d n) (he : IsNum z e n) (hf : IsNum z f n) :
    Fn w mean mg mb 350 12 [a, b, c, d, e, f] l (fun r l' => ∃ z', Ex l z l' z' ∧ IsM z' r n) := by
  unfold Fn
  k_fill
  intro dp un gd cn cs aa ccd cl outer A₀ base h₀ L m s Q E B F X N T hk hdd hu hret
  kba_ints
  refine hret _ _ _ _ (by assumption) (by assumption) ⟨_, Ex.cls (by ktu_off1L) (by assumption) (by assumption), ?_⟩
  refine IsM.mk (.head _) (.tail _ (.head _)) ?_ ?_ ?_ ?_ ?_ ?_
  all_goals exact IsD.mono (by kwd_rel) mem_sub2
end
local macro_rules | `(tactic| walk_at "pad") => `(tactic| skip)
local macro_rules | `(tactic| walk_at "pad") => `(tactic| skip)
local macro_rules | `(tactic| walk_at "pad") => `(tactic| skip)

/-- a pair of numbers -/
inductive IsP (z : Led) : Value → Nat → Prop
  | mk {t a b : Addr} {n : Nat} (ht : (t, ({ cls := .type "tuple", data := .seq #[.ref a, .ref b] } : Obj)) ∈ z) (ha : IsD z (.ref a) n) (hb : IsD z (.ref b) n) : IsP z (.ref t) n
theorem IsP.get {z : Led} {v : Value} {n : Nat} (h : IsP z v n) : ∃ t a b, v = .ref t ∧ (t, ({ cls := .type "tuple", data := .seq #[.ref a, .ref b] } : Obj)) ∈ z ∧ IsD z (.ref a) n ∧ IsD z (.ref b) n := by
  cases h with
  | mk ht ha hb => exact ⟨_, _, _, rfl, ht, ha, hb⟩
theorem Ex.one {l z l' z' : Led} {t : Addr} {o : Obj} (g : Ex l z l' z') (h : ∀ p ∈ l', p.1 < t) : Ex l z ((t, o) :: l') ((t, o) :: z') := by
  refine g.trans ⟨[(t, o)], rfl, rfl, fun p hp q hq => ?_⟩
  rw [List.mem_singleton.mp hp]
  exact Nat.ne_of_lt (h q hq)
theorem Ex.off {l z l' z' : Led} {t : Addr} {o : Obj} (g : Ex l z l' z') (h : ∀ p ∈ l', p.1 ≠ t) : Ex l z ((t, o) :: l') ((t, o) :: z') := by
  refine g.trans ⟨[(t, o)], rfl, rfl, fun p hp q hq => ?_⟩
  rw [List.mem_singleton.mp hp]
  exact h q hq
theorem IsM.at {l l' : Led} {v : Value} {n n' : Nat} (h : IsM l v n) (s : ∀ p ∈ l, p ∈ l') (e : n ≤ n') : IsM l' v n' := (h.mono s).more e
theorem mem_sub1 {z : Led} {q : Addr × Obj} : ∀ p ∈ z, p ∈ q :: z := fun _ h => .tail _ h
theorem method_D {prog : Program} {w : World} {A : Around} {E : Value → Shared → Prop} {s : Shared} {K : Frag} {h₀ : Heap} {L x f : Addr} {m : Str → Option Value} {l z : Led} {n : Nat} {name : Str} {pl : Sem Bool} {Q : Value × List Value → Shared → Prop}
    (F : Fr h₀ L s.heap m) (X : K.In h₀) (N : News h₀ L s.heap l) (hs : ∀ p ∈ z, p ∈ l) (hD : IsD z (.ref x) n) (hg : plainGet K 167 name = true)
    (hf : findIn K (.ref 167) name = some (some (.ref f))) (ht : isFn K (.ref f) = true) (hl : ∀ h1 k1 v1 h2 k2 v2, getL name [⟨h1, .str (Str.ofString "top") k1, v1⟩, ⟨h2, .str (Str.ofString "places") k2, v2⟩] = some none) (h : Q (.ref f, [.ref x]) s) :
    wpAny (model prog w) A (getMethod (.ref x) name pl) Q E s := by
  cases hD with
  | mk hx hdx => exact method_inst F X (InstAt.of_news N (hs _ hx) (hs _ hdx)) hg hf ht (hl _ _ _ _ _ _) h
local macro_rules | `(tactic| kfm_turns) => `(tactic| (refine' IsM.at ?h9 ?s9 ?n9; (case h9 => with_reducible assumption); (case s9 => kt_eqs); (case n9 => first | exact Nat.le_refl _ | omega)))
local macro_rules | `(tactic| walk_at "getMethod ref") => `(tactic| (k_here; (with_reducible show wpAny _ _ (getMethod (Value.ref _) _ _) _ _ _); k_dflt ((refine' method_D ?F ?X ?N ?hs ?hD ?hg ?hf ?ht ?hl ?_); (case F => k_asm); (case X => k_asm); (case N => k_asm); (case hs => kpt_turns); (case hD => kwd_rel); (case hg => k_is); (case hf => k_is); (case ht => k_is); (case hl => (intro h1 k1 v1 h2 k2 v2; k_get)))))
section
local macro_rules | `(tactic| walk_at "call ref") => `(tactic| (k_here; (with_reducible show wpAny _ _ (call (Value.ref _) _) _ _ _); (refine Stop.out ?_; walk_say "STOP")))
local macro_rules | `(tactic| walk_at "call ref") => `(tactic| (k_here; (with_reducible show wpAny _ _ (call (Value.ref 108) _) _ _ _); k_dflt ((refine' Fn.useM (M := []) ?N ?hs (times_ok (sub_on ?hs) ?h1 ?h2 ?h3 ?h4) ?B ?F ?X ?T ?kK ?kd ?ku ?O ?_); (case N => k_asm); (case hs => with_reducible assumption); kaf_suf; (case h1 => kwd_rel); (case h2 => kwd_rel); (case h3 => exact Nat.le_refl _); (case h4 => omega); rintro r' l' z' h' tk' F' N' G' hz' hl' O' D'; (have hG' := Grow.of G')); (try simp only [List.cons_append, List.nil_append, List.map_cons, List.map_nil] at N' O'); (obtain ⟨x', er'⟩ := IsD.isRef D'); subst er'; (try clear O'); (try dsimp only); (try k_fold)))
local macro_rules | `(tactic| walk_at "call ref") => `(tactic| (k_here; (with_reducible show wpAny _ _ (call (Value.ref 94) _) _ _ _); k_dflt ((refine' Fn.useM (M := []) ?N ?hs (plus_ok (sub_on ?hs) ?h1 ?h2 ?h3 ?h4 ?h5) ?B ?F ?X ?T ?kK ?kd ?ku ?O ?_); (case N => k_asm); (case hs => with_reducible assumption); kaf_suf; (case h1 => kwd_rel); (case h2 => kwd_rel); (first | ((case h3 => exact Nat.le_refl _); (case h4 => omega)) | ((case h4 => exact Nat.le_refl _); (case h3 => omega))); (case h5 => omega); rintro r' l' z' h' tk' F' N' G' hz' hl' O' D'; (have hG' := Grow.of G')); (try simp only [List.cons_append, List.nil_append, List.map_cons, List.map_nil] at N' O'); (obtain ⟨x', er'⟩ := IsD.isRef D'); subst er'; (try clear O'); (try dsimp only); (try k_fold)))
theorem shifted_ok {w : World} {mean : ExcName → Option Value} {mg mb : Str → Option Value} {l z : Led} {a x y : Value} {n1 n2 : Nat} (hs : ∀ p ∈ z, p ∈ l) (ha : IsM z a n1) (hx : IsNum z x n2) (hy : IsNum z y n2) (hb : n1 + n2 + 1 ≤ 4000) :
    Fn w mean mg mb 333 20 [a, x, y] l (fun r l' => ∃ z', Ex l z l' z' ∧ IsP z' r (n1 + n2 + 1)) := by
  unfold Fn
  k_fill
  intro dp un gd cn cs aa ccd cl outer A₀ base h₀ L m s Q E B F X N T hk hdd hu hret
  cases ha with
  | mk hx1 hdx1 ha1 hb1 hc1 hd1 he1 hf1 =>
  kqd_sub
  exact hret _ _ _ _ (by assumption) (by assumption) ⟨_, Ex.one (by ktu_off1L) (by assumption), IsP.mk (.head _) (IsD.mono (by kwd_rel) mem_sub1) (IsD.mono (by kwd_rel) mem_sub1)⟩
theorem applied_ok {w : World} {mean : ExcName → Option Value} {mg mb : Str → Option Value} {l z : Led} {a x y : Value} {n1 n2 : Nat} (hs : ∀ p ∈ z, p ∈ l) (ha : IsM z a n1) (hx : IsNum z x n2) (hy : IsNum z y n2) (hb : n1 + n2 + 2 ≤ 4000) :
    Fn w mean mg mb 326 20 [a, x, y] l (fun r l' => ∃ z', Ex l z l' z' ∧ IsP z' r (n1 + n2 + 2)) := by
  unfold Fn
  k_fill
  intro dp un gd cn cs aa ccd cl outer A₀ base h₀ L m s Q E B F X N T hk hdd hu hret
  cases ha with
  | mk hx1 hdx1 ha1 hb1 hc1 hd1 he1 hf1 =>
  kqd_sub
  exact hret _ _ _ _ (by assumption) (by assumption) ⟨_, Ex.one (by ktu_off1L) (by assumption), IsP.mk (.head _) (IsD.mono (by kwd_rel) mem_sub1) (IsD.mono (by kwd_rel) mem_sub1)⟩
end
local macro_rules | `(tactic| walk_at "pad") => `(tactic| skip)
local macro_rules | `(tactic| walk_at "pad") => `(tactic| skip)
local macro_rules | `(tactic| walk_at "pad") => `(tactic| skip)
local macro_rules | `(tactic| walk_at "pad") => `(tactic| skip)
section
local macro_rules | `(tactic| walk_at "call ref") => `(tactic| (k_here; (with_reducible show wpAny _ _ (call (Value.ref _) _) _ _ _); (refine Stop.out ?_; walk_say "STOP")))
local macro_rules | `(tactic| walk_at "call ref") => `(tactic| (k_here; (with_reducible show wpAny _ _ (call (Value.ref 350) _) _ _ _); k_dflt ((refine' Fn.useM (M := []) ?N ?hs (matNew_ok (n := 0) (sub_on ?hs) ?h1 ?h2 ?h3 ?h4 ?h5 ?h6) ?B ?F ?X ?T ?kK ?kd ?ku ?O ?_); (case N => k_asm); (case hs => with_reducible assumption); kaf_suf; (case h5 => kwd_rel); (case h6 => kwd_rel); (case h1 => kwd_rel); (case h2 => kwd_rel); (case h3 => kwd_rel); (case h4 => kwd_rel); rintro r' l' z' h' tk' F' N' G' hz' hl' O' D'; (have hG' := Grow.of G')); (try simp only [List.cons_append, List.nil_append, List.map_cons, List.map_nil] at N' O'); (obtain ⟨x', er'⟩ := IsM.isRef D'); subst er'; (try clear O'); (try dsimp only); (try k_fold)))
theorem identity_ok {w : World} {mean : ExcName → Option Value} {mg mb : Str → Option Value} {l z : Led} {n : Nat} (hs : ∀ p ∈ z, p ∈ l) :
    Fn w mean mg mb 361 14 [] l (fun r l' => ∃ z', Ex l z l' z' ∧ IsM z' r n) := by
  unfold Fn
  k_fill
  intro dp un gd cn cs aa ccd cl outer A₀ base h₀ L m s Q E B F X N T hk hdd hu hret
  kqd_sub
  exact hret _ _ _ _ (by assumption) (by assumption) ⟨_, (by ktu_off1L), IsM.more (by assumption) (Nat.zero_le _)⟩
end
local macro_rules | `(tactic| walk_at "pad") => `(tactic| skip)
local macro_rules | `(tactic| walk_at "pad") => `(tactic| skip)
local macro_rules | `(tactic| walk_at "pad") => `(tactic| skip)

section
local macro_rules | `(tactic| walk_at "call ref") => `(tactic| (k_here; (with_reducible show wpAny _ _ (call (Value.ref _) _) _ _ _); (refine Stop.out ?_; walk_say "STOP")))
local macro_rules | `(tactic| walk_at "call ref") => `(tactic| (k_here; (with_reducible show wpAny _ _ (call (Value.ref 350) _) _ _ _); k_dflt ((refine' Fn.useM (M := []) ?N ?hs (matNew_ok (sub_on ?hs) ?h1 ?h2 ?h3 ?h4 ?h5 ?h6) ?B ?F ?X ?T ?kK ?kd ?ku ?O ?_); (case N => k_asm); (case hs => with_reducible assumption); kaf_suf; (case h5 => kwd_rel); (case h6 => kwd_rel); (case h1 => kwd_rel); (case h2 => kwd_rel); (case h3 => kwd_rel); (case h4 => kwd_rel); rintro r' l' z' h' tk' F' N' G' hz' hl' O' D'; (have hG' := Grow.of G')); (try simp only [List.cons_append, List.nil_append, List.map_cons, List.map_nil] at N' O'); (obtain ⟨x', er'⟩ := IsM.isRef D'); subst er'; (try clear O'); (try dsimp only); (try k_fold)))
theorem translation_ok {w : World} {mean : ExcName → Option Value} {mg mb : Str → Option Value} {l z : Led} {x y : Value} {n : Nat} (hs : ∀ p ∈ z, p ∈ l) (hx : IsNum z x n) (hy : IsNum z y n) :
    Fn w mean mg mb 368 14 [x, y] l (fun r l' => ∃ z', Ex l z l' z' ∧ IsM z' r n) := by
  unfold Fn
  k_fill
  intro dp un gd cn cs aa ccd cl outer A₀ base h₀ L m s Q E B F X N T hk hdd hu hret
  kqd_sub
  refine' hret _ _ _ _ ?eF ?eN ⟨_, ?eX, ?eD⟩
  case eF => with_reducible assumption
  case eN => with_reducible assumption
  case eX => ktu_off1L
  case eD => with_reducible assumption
theorem from_array_ok {w : World} {mean : ExcName → Option Value} {mg mb : Str → Option Value} {l z : Led} {x : Addr} {e : Nat} {v1 v2 v3 v4 v5 v6 : Value} {n : Nat} (hs : ∀ p ∈ z, p ∈ l) (hl : (x, W.listOf #[v1, v2, v3, v4, v5, v6] e) ∈ l)
    (h1 : IsNum z v1 n) (h2 : IsNum z v2 n) (h3 : IsNum z v3 n) (h4 : IsNum z v4 n) (h5 : IsNum z v5 n) (h6 : IsNum z v6 n) :
    Fn w mean mg mb 375 14 [.ref x] l (fun r l' => ∃ z', Ex l z l' z' ∧ IsM z' r n) := by
  unfold Fn
  k_fill
  intro dp un gd cn cs aa ccd cl outer A₀ base h₀ L m s Q E B F X N T hk hdd hu hret
  kqd_sub
  refine' hret _ _ _ _ ?eF ?eN ⟨_, ?eX, ?eD⟩
  case eF => with_reducible assumption
  case eN => with_reducible assumption
  case eX => ktu_off1L
  case eD => with_reducible assumption
end
local macro_rules | `(tactic| walk_at "pad") => `(tactic| skip)
local macro_rules | `(tactic| walk_at "pad") => `(tactic| skip)
local macro_rules | `(tactic| walk_at "pad") => `(tactic| skip)
section
local macro_rules | `(tactic| walk_at "call ref") => `(tactic| (k_here; (with_reducible show wpAny _ _ (call (Value.ref _) _) _ _ _); (refine Stop.out ?_; walk_say "STOP")))
local macro_rules | `(tactic| walk_at "call ref") => `(tactic| (k_here; (with_reducible show wpAny _ _ (call (Value.ref 350) _) _ _ _); k_dflt ((refine' Fn.useM (M := []) ?N ?hs (matNew_ok (sub_on ?hs) ?h1 ?h2 ?h3 ?h4 ?h5 ?h6) ?B ?F ?X ?T ?kK ?kd ?ku ?O ?_); (case N => k_asm); (case hs => with_reducible assumption); kaf_suf; (case h5 => kwd_rel); (case h6 => kwd_rel); (case h1 => kwd_rel); (case h2 => kwd_rel); (case h3 => kwd_rel); (case h4 => kwd_rel); rintro r' l' z' h' tk' F' N' G' hz' hl' O' D'; (have hG' := Grow.of G')); (try simp only [List.cons_append, List.nil_append, List.map_cons, List.map_nil] at N' O'); (obtain ⟨x', er'⟩ := IsM.isRef D'); subst er'; (try clear O'); (try dsimp only); (try k_fold)))
local macro_rules | `(tactic| walk_at "call ref") => `(tactic| (k_here; (with_reducible show wpAny _ _ (call (Value.ref 108) _) _ _ _); k_dflt ((refine' Fn.useM (M := []) ?N ?hs (times_ok (sub_on ?hs) ?h1 ?h2 ?h3 ?h4) ?B ?F ?X ?T ?kK ?kd ?ku ?O ?_); (case N => k_asm); (case hs => with_reducible assumption); kaf_suf; (case h1 => kwd_rel); (case h2 => kwd_rel); (case h3 => exact Nat.le_refl _); (case h4 => omega); rintro r' l' z' h' tk' F' N' G' hz' hl' O' D'; (have hG' := Grow.of G')); (try simp only [List.cons_append, List.nil_append, List.map_cons, List.map_nil] at N' O'); (obtain ⟨x', er'⟩ := IsD.isRef D'); subst er'; (try clear O'); (try dsimp only); (try k_fold)))
local macro_rules | `(tactic| walk_at "call ref") => `(tactic| (k_here; (with_reducible show wpAny _ _ (call (Value.ref 94) _) _ _ _); k_dflt ((refine' Fn.useM (M := []) ?N ?hs (plus_ok (sub_on ?hs) ?h1 ?h2 ?h3 ?h4 ?h5) ?B ?F ?X ?T ?kK ?kd ?ku ?O ?_); (case N => k_asm); (case hs => with_reducible assumption); kaf_suf; (case h1 => kwd_rel); (case h2 => kwd_rel); (first | ((case h3 => exact Nat.le_refl _); (case h4 => omega)) | ((case h4 => exact Nat.le_refl _); (case h3 => omega))); (case h5 => omega); rintro r' l' z' h' tk' F' N' G' hz' hl' O' D'; (have hG' := Grow.of G')); (try simp only [List.cons_append, List.nil_append, List.map_cons, List.map_nil] at N' O'); (obtain ⟨x', er'⟩ := IsD.isRef D'); subst er'; (try clear O'); (try dsimp only); (try k_fold)))
local macro_rules | `(tactic| walk_at "call ref") => `(tactic| (k_here; (with_reducible show wpAny _ _ (call (Value.ref 326) _) _ _ _); k_dflt ((refine' Fn.useM (M := []) ?N ?hs (applied_ok (sub_on ?hs) ?h1 ?h2 ?h3 ?h4) ?B ?F ?X ?T ?kK ?kd ?ku ?O ?_); (case N => k_asm); (case hs => with_reducible assumption); kaf_suf; (case h1 => kfm_turns); (case h2 => kwd_rel); (case h3 => kwd_rel); (case h4 => omega); rintro r' l' z' h' tk' F' N' G' hz' hl' O' D'; (have hG' := Grow.of G')); (try simp only [List.cons_append, List.nil_append, List.map_cons, List.map_nil] at N' O'); (obtain ⟨x', ax', bx', er', hp', ha', hb'⟩ := IsP.get D'); subst er'; (try clear O'); (try dsimp only); (try k_fold)))
theorem mtimes_ok {w : World} {mean : ExcName → Option Value} {mg mb : Str → Option Value} {l z : Led} {a b : Value} {n1 n2 : Nat} (hs : ∀ p ∈ z, p ∈ l) (ha : IsM z a n1) (hb : IsM z b n2) (hn : n1 + n2 + 2 ≤ 4000) :
    Fn w mean mg mb 319 24 [a, b] l (fun r l' => ∃ z', Ex l z l' z' ∧ IsM z' r (n1 + n2 + 2)) := by
  unfold Fn
  k_fill
  intro dp un gd cn cs aa ccd cl outer A₀ base h₀ L m s Q E B F X N T hk hdd hu hret
  have hb' := hb
  cases ha with
  | mk hx1 hdx1 ha1 hb1 hc1 hd1 he1 hf1 =>
  cases hb with
  | mk hx2 hdx2 ha2 hb2 hc2 hd2 he2 hf2 =>
  kqd_sub
  refine' hret _ _ _ _ ?eF ?eN ⟨_, ?eX, ?eD⟩
  case eF => with_reducible assumption
  case eN => with_reducible assumption
  case eX => ktu_off1L
  case eD => exact IsM.more (by with_reducible assumption) (by omega)
end
local macro_rules | `(tactic| walk_at "pad") => `(tactic| skip)
local macro_rules | `(tactic| walk_at "pad") => `(tactic| skip)
local macro_rules | `(tactic| walk_at "pad") => `(tactic| skip)
local macro_rules | `(tactic| walk_at "pad") => `(tactic| skip)
local macro_rules | `(tactic| walk_at "pad") => `(tactic| skip)
local macro_rules | `(tactic| walk_at "pad") => `(tactic| skip)
section
local macro_rules | `(tactic| walk_at "call ref") => `(tactic| (k_here; (with_reducible show wpAny _ _ (call (Value.ref _) _) _ _ _); (refine Stop.out ?_; walk_say "STOP")))
local macro_rules | `(tactic| walk_at "call ref") => `(tactic| (k_here; (with_reducible show wpAny _ _ (call (Value.ref 350) _) _ _ _); k_dflt ((refine' Fn.useM (M := []) ?N ?hs (matNew_ok (sub_on ?hs) ?h1 ?h2 ?h3 ?h4 ?h5 ?h6) ?B ?F ?X ?T ?kK ?kd ?ku ?O ?_); (case N => k_asm); (case hs => with_reducible assumption); kaf_suf; (case h5 => kwd_rel); (case h6 => kwd_rel); (case h1 => kwd_rel); (case h2 => kwd_rel); (case h3 => kwd_rel); (case h4 => kwd_rel); rintro r' l' z' h' tk' F' N' G' hz' hl' O' D'; (have hG' := Grow.of G')); (try simp only [List.cons_append, List.nil_append, List.map_cons, List.map_nil] at N' O'); (obtain ⟨x', er'⟩ := IsM.isRef D'); subst er'; (try clear O'); (try dsimp only); (try k_fold)))
local macro_rules | `(tactic| walk_at "call ref") => `(tactic| (k_here; (with_reducible show wpAny _ _ (call (Value.ref 94) _) _ _ _); k_dflt ((refine' Fn.useM (M := []) ?N ?hs (plus_ok (sub_on ?hs) ?h1 ?h2 ?h3 ?h4 ?h5) ?B ?F ?X ?T ?kK ?kd ?ku ?O ?_); (case N => k_asm); (case hs => with_reducible assumption); kaf_suf; (case h1 => kwd_rel); (case h2 => kwd_rel); (first | ((case h3 => exact Nat.le_refl _); (case h4 => omega)) | ((case h4 => exact Nat.le_refl _); (case h3 => omega))); (case h5 => omega); rintro r' l' z' h' tk' F' N' G' hz' hl' O' D'; (have hG' := Grow.of G')); (try simp only [List.cons_append, List.nil_append, List.map_cons, List.map_nil] at N' O'); (obtain ⟨x', er'⟩ := IsD.isRef D'); subst er'; (try clear O'); (try dsimp only); (try k_fold)))
local macro_rules | `(tactic| walk_at "call ref") => `(tactic| (k_here; (with_reducible show wpAny _ _ (call (Value.ref 333) _) _ _ _); k_dflt ((refine' Fn.useM (M := []) ?N ?hs (shifted_ok (sub_on ?hs) ?h1 ?h2 ?h3 ?h4) ?B ?F ?X ?T ?kK ?kd ?ku ?O ?_); (case N => k_asm); (case hs => with_reducible assumption); kaf_suf; (case h1 => kfm_turns); (case h2 => kwd_rel); (case h3 => kwd_rel); (case h4 => omega); rintro r' l' z' h' tk' F' N' G' hz' hl' O' D'; (have hG' := Grow.of G')); (try simp only [List.cons_append, List.nil_append, List.map_cons, List.map_nil] at N' O'); (obtain ⟨x', ax', bx', er', hp', ha', hb'⟩ := IsP.get D'); subst er'; (try clear O'); (try dsimp only); (try k_fold)))
theorem along_ok {w : World} {mean : ExcName → Option Value} {mg mb : Str → Option Value} {l z : Led} {a x : Value} {n1 n2 : Nat} (hs : ∀ p ∈ z, p ∈ l) (ha : IsM z a n1) (hx : IsNum z x n2) (hn : n1 + n2 + 2 ≤ 4000) :
    Fn w mean mg mb 515 24 [a, x] l (fun r l' => ∃ z', Ex l z l' z' ∧ IsM z' r (n1 + n2 + 2)) := by
  unfold Fn
  k_fill
  intro dp un gd cn cs aa ccd cl outer A₀ base h₀ L m s Q E B F X N T hk hdd hu hret
  have ha' := ha
  cases ha with
  | mk hx1 hdx1 ha1 hb1 hc1 hd1 he1 hf1 =>
  kqd_sub
  refine' hret _ _ _ _ ?eF ?eN ⟨_, ?eX, ?eD⟩
  case eF => with_reducible assumption
  case eN => with_reducible assumption
  case eX => ktu_off1L
  case eD => exact IsM.more (by with_reducible assumption) (by omega)
end
local macro_rules | `(tactic| walk_at "pad") => `(tactic| skip)
local macro_rules | `(tactic| walk_at "pad") => `(tactic| skip)
local macro_rules | `(tactic| walk_at "pad") => `(tactic| skip)
local macro_rules | `(tactic| walk_at "pad") => `(tactic| skip)
local macro_rules | `(tactic| walk_at "pad") => `(tactic| skip)

abbrev faultObj (C t : Addr) (dd : Option Addr) : Obj := { cls := .ref C, dict := dd, data := .fields #[.ref t, .none, .none, .none, .bool false, .none] }
abbrev tupO (vs : List Value) : Obj := { cls := .type "tuple", data := .seq vs.toArray }
/-- what the written class of a fault says -/
def faultIn (K : Frag) (C : Addr) : Bool := match K.lookup C with
  | some ⟨.type "type", _, .cls cd, sl⟩ => cd.mro == [.ref C, .ref 46, .type "Exception", .type "BaseException", .type "object"] && !cd.hasDel && cd.hasDict && (match sl.toList with | [_, _, _, _, some (.builtin n), _] => n == "Exception.__new__" | _ => false)
  | _ => false
structure FaultCls (h : Heap) (C : Addr) : Prop where
  obj : ∃ nm q N bs sub sn ab col dd k0 k1 k2 k3 k5, h.get? C = some (excClassObj nm q C N bs [.ref 46, .type "Exception", .type "BaseException", .type "object"] true sn sub ab col dd k0 k1 k2 k3 k5 "Exception.__new__")
theorem faultCls_of {K : Frag} {h : Heap} {C : Addr} (X : K.In h) (e : faultIn K C = true) : FaultCls h C := by
  unfold faultIn at e
  split at e
  · rename_i dd cd sl ho
    simp only [Bool.and_eq_true, beq_iff_eq, Bool.not_eq_true'] at e
    obtain ⟨⟨⟨hm, hdel⟩, hd⟩, hs⟩ := e
    split at hs
    · rename_i k0 k1 k2 k3 n k5 hsl
      have hn := beq_iff_eq.mp hs
      subst hn
      obtain ⟨nm, bs, mro, ns, qn, hdd, sn, sub, ab, col, del⟩ := cd
      dsimp only at hm hdel hd
      subst hm hdel hd
      obtain ⟨l⟩ := sl
      simp only at hsl
      subst hsl
      exact ⟨⟨_, _, _, _, _, _, _, _, _, _, _, _, _, _, X _ _ ho⟩⟩
    · cases hs
  · cases e
theorem FaultCls.push {h : Heap} {C : Addr} (f : FaultCls h C) (o : Obj) : FaultCls (h.push o) C := by
  obtain ⟨nm, q, N, bs, sub, sn, ab, col, dd, k0, k1, k2, k3, k5, e⟩ := f.obj
  exact ⟨⟨nm, q, N, bs, sub, sn, ab, col, dd, k0, k1, k2, k3, k5, Heap.get?_push_of_some _ e⟩⟩
structure FaultOf (K : Frag) (C : Addr) : Prop where
  cls : faultIn K C = true
  call : specialIn K (.ref C) "__call__" = some (some (.builtin "type.__call__"))
  typ : instIn K (.ref C) (.type "type") = some true
  init : findIn K (.ref C) "__init__" = some (some (.ref 36))
  fn : typeIn K (.ref 36) = some (.type "function")
  seta : findIn K (.ref C) "__setattr__" = some (some (.builtin "object.__setattr__"))
  self : subIn K (.ref C) (.ref C) = some true
  top : subIn K (.ref C) (.type "object") = some true
  att : ∀ n : Str, n = Str.ofString "what" ∨ n = Str.ofString "at" → findIn K (.ref C) n = some none
  exc : subIn K (.ref C) (.type "Exception") = some true
theorem fault59 {w : World} : FaultOf (hd.heap_39 w.params) 59 := by
  refine ⟨?_, ?_, ?_, ?_, ?_, ?_, ?_, ?_, fun n h => ?_, ?_⟩ <;> first | (rcases h with rfl | rfl <;> kernel_rfl) | kernel_rfl
theorem fault71 {w : World} : FaultOf (hd.heap_39 w.params) 71 := by
  refine ⟨?_, ?_, ?_, ?_, ?_, ?_, ?_, ?_, fun n h => ?_, ?_⟩ <;> first | (rcases h with rfl | rfl <;> kernel_rfl) | kernel_rfl
section
variable {prog : Program} {w : World} {A : Around} {R : Result → Shared → Prop} {h : Heap} {g : Array GenState} {d : Drawn} {t : Nat} {os : OsState} {C : Addr} {K : Frag}
theorem fault_new {rest : List Value} (f : FaultCls h C)
    (hq : R (.ok (.ret (.ref (h.objs.size + 1)))) ⟨(h.push (tupO rest)).push (faultObj C h.objs.size none), g, d, t, os⟩) (hrest : rest.length ≤ sizeLine) :
    codeAny (model prog w) A (.call (.builtin "Exception.__new__") ⟨.ref C :: rest, []⟩) R ⟨h, g, d, t, os⟩ := by
  obtain ⟨nm, q, N, bs, sub, sn, ab, col, dd, k0, k1, k2, k3, k5, hC⟩ := f.obj
  have Fn := PySem.F.excBase_Exception
  have hcont : (Value.ref C :: ([.ref 46, .type "Exception", .type "BaseException", .type "object"] : List Value)).contains (.type "Exception") = true := by simp
  have hcA : (Value.ref C :: ([.ref 46, .type "Exception", .type "BaseException", .type "object"] : List Value)).contains (.type "AttributeError") = false := by simp
  have hcN : (Value.ref C :: ([.ref 46, .type "Exception", .type "BaseException", .type "object"] : List Value)).contains (.type "NameError") = false := by simp
  refine codeAny_call_builtin_code (Code.quiet_builtin _ Fn.quiet) ?_
  have hstar := Fn.noStar
  simp only [checkBuiltinCall, Fn.newKind, Fn.newSplit, Fn.newRow]
  repeat (first | refine wpAny_loadPart_at hC ?_ | (refine wpAny_isSubtype_exc hC ?_; rw [hcont]) | refine wpAny_staticBase_exc hC ?_ | refine wpAny_madeBy_exc hC ?_ | simp only [bne_self_eq_false, Bool.false_eq_true, if_false] | wp_step)
  have hends := Fn.ends
  refine codeAny_builtinAt Fn.entry ?_
  unfold Builtin.«BaseException.__new__»
  refine PySem.wpAt_bind ?_
  show PySem.wpAt _ _ _ (stack >>= _) _ _ _
  refine PySem.wpAt_bind (PySem.wpAt_stack fun p below => PySem.wpAt_of_wpAny ?_)
  wp_walk
  refine PySem.wpAt_of_wpAny ?_
  rw [Fn.owner]
  repeat (first | with_reducible refine wpAny_madeHere_exc Fn.canon hC ?_ | with_reducible refine wpAny_loadPart_at hC ?_ | (with_reducible refine wpAny_isSubtype_exc hC ?_; first | rw [hcont] | rw [hcA] | rw [hcN]) | wp_step)
  show R _ _
  rw [Heap.size_push]
  exact hq
theorem fault_core {rest : List Value} (f : FaultCls h C) (call : Looks (model prog w) h (specialOf (.ref C) "__call__") (some (.builtin "type.__call__"))) (typ : Looks (model prog w) h (isInstance (.ref C) (.type "type")) true)
    (hi : Looks (model prog w) h (typeLookup (.ref C) "__init__") (some (.ref 36))) (self : Looks (model prog w) h (isSubtype (.ref C) (.ref C)) true)
    (hb : ∀ self, Looks (model prog w) h (bindSpecial (.ref 36) self) (.ref 36, [self])) (hrest : rest.length ≤ sizeLine)
    (hq : codeAny (model prog w) (A.under (.builtin "type.__call__" ⟨.ref C :: rest, []⟩)) (.call (.ref 36) ⟨.ref (h.objs.size + 1) :: rest, []⟩) (InitBack (h.objs.size + 1) R) ⟨(h.push (tupO rest)).push (faultObj C h.objs.size none), g, d, t, os⟩) :
    codeAny (model prog w) A (.call (.ref C) ⟨rest, []⟩) R ⟨h, g, d, t, os⟩ := by
  have f' := f
  obtain ⟨nm, q, N, bs, sub, sn, ab, col, dd, k0, k1, k2, k3, k5, hC⟩ := f.obj
  refine codeAny_of_tree ?_
  show wpAny _ _ (callAny (.ref C) _) _ _ _
  refine nd_load hC ?_
  show wpAny _ _ (callAny.viaDunder (.ref C) _) _ _ _
  unfold callAny.viaDunder
  refine wpAny_bind (call.at ?_)
  dsimp only
  rw [tc_bind]
  refine wpAny_bind (wpAny_pure (wpAny_bind (wpAny_pure ?_)))
  refine wpAny_pure (a := Fin.again (.call (.builtin "type.__call__") ⟨.ref C :: rest, []⟩)) (And.intro rfl ?_)
  refine codeAny_call_builtin_at (Code.quiet_builtin _ (by decide +kernel)) entry_typeCall (check_slot tc_kind tc_split typ (tc_args _ _ _) ?_)
  unfold Builtin.«type.__call__»
  have hm : Looks (model prog w) h (mroOf (.ref C)) (.ref C :: [.ref 46, .type "Exception", .type "BaseException", .type "object"]) := ((Looks.ld (part := none) hC).andThen .now).andThen .now
  have made : Looks (model prog w) h (Bind.madeBy (.ref C)) (some "Exception.__new__") := by
    intro A Q E s k q
    obtain ⟨hp, g, d, tk, os⟩ := s
    exact wpAny_madeBy_exc (k _ _ hC) q
  have ne : (Value.ref C :: ([.ref 46, .type "Exception", .type "BaseException", .type "object"] : List Value)).isEmpty = false := rfl
  repeat (first | simp only [ne, Bool.false_eq_true, if_false] | with_reducible refine wpAny_call ?_ | lk)
  refine fault_new f' ?_ hrest
  have k : ∀ b o, h.get? b = some o → ((h.push (tupO rest)).push (faultObj C h.objs.size none)).get? b = some o := fun b o e => Heap.get?_push_of_some _ (Heap.get?_push_of_some _ e)
  have hx : ((h.push (tupO rest)).push (faultObj C h.objs.size none)).get? (h.objs.size + 1) = some (faultObj C h.objs.size none) := by heap_get
  have t1 : Looks (model prog w) ((h.push (tupO rest)).push (faultObj C h.objs.size none)) (typeOf (.ref (h.objs.size + 1))) (.ref C) := (Looks.ld hx).andThen .now
  have s1 := self.keeps k
  have i1 := hi.keeps k
  have b1 := (hb (.ref (h.objs.size + 1))).keeps k
  unfold isInstance callSpecial? specialOf
  repeat (first | with_reducible refine wpAny_call ?_ | lk)
  refine codeAny_mono hq fun r s' z => ?_
  rcases r with e | (v | _ | _ | _) <;> first | exact z | exact z.elim | skip
  obtain ⟨rfl, z⟩ := z
  exact wpAny_pure (wpAny_pure z)
end
section
variable {prog : Program} {w : World} {A : Around} {K : Frag} {C x : Addr} {s : Shared} {h₀ : Heap} {L : Addr} {m : Str → Option Value} {news : List (Addr × Obj)} {E Q : Value → Shared → Prop}
theorem call_fault {rest : List Value} (F : Fr h₀ L s.heap m) (X₀ : K.In h₀) (N : News h₀ L s.heap news) (O : FaultOf K C) (hr : rest.length ≤ sizeLine)
    (h : ∀ e t h', Fr h₀ L h' m → News h₀ L h' ((e, faultObj C t none) :: (t, tupO rest) :: news) → (∀ p ∈ news, p.1 < t) → t < e →
      codeAny (model prog w) (A.under (.builtin "type.__call__" ⟨.ref C :: rest, []⟩)) (.call (.ref 36) ⟨.ref e :: rest, []⟩) (InitBack e fun r s' => match r with | .ok (.ret v) => Q v s' | .ok _ => False | .error e => E e s') { s with heap := h' }) :
    wpAny (model prog w) A (call (.ref C) rest []) Q E s := by
  refine wpAny_call ?_
  have X := X₀.keeps F.keep
  obtain ⟨hh, g, d, t, os⟩ := s
  refine fault_core (faultCls_of X O.cls) (looks_specialIn X O.call) (looks_instIn X O.typ) (looks_findIn X O.init) (looks_subIn X O.self) (fun self => bind_fn X self O.fn) hr (h _ hh.objs.size _ ((F.push _).push _) ?_ (fun p hp => Heap.lt_size (N p hp).1) (Nat.lt_succ_self _))
  have := (N.push F (tupO rest)).push (F.push _) (faultObj C hh.objs.size none)
  rwa [Heap.size_push] at this
end

open Builtin Builtin.ObjectAttr in
theorem exc_init {prog : Program} {w : World} {A : Around} {K : Frag} {C e t : Addr} {s : Shared} {h₀ : Heap} {L : Addr} {m : Str → Option Value} {news : List (Addr × Obj)} {E Q : Value → Shared → Prop} {rest : List Value} {dd : Option Addr}
    (F : Fr h₀ L s.heap m) (X₀ : K.In h₀) (O : FaultOf K C) (N : News h₀ L s.heap ((e, faultObj C t dd) :: news)) (hr : rest.length ≤ sizeLine) (ne : ∀ p ∈ news, p.1 ≠ e)
    (h : ∀ t' h', Fr h₀ L h' m → News h₀ L h' ((e, faultObj C t' dd) :: (t', tupO rest) :: news) → (∀ p ∈ news, p.1 < t') → e < t' → Q .none { s with heap := h' }) :
    wpAny (model prog w) A (call (.builtin "Exception.__init__") (.ref e :: rest)) Q E s := by
  have X := X₀.keeps F.keep
  have FB := PySem.F.excBase_Exception
  obtain ⟨nm, q, N0, bs, sub, sn, ab, col, d0, k0, k1, k2, k3, k5, hC⟩ := (faultCls_of X O.cls).obj
  have he := (N (e, faultObj C t dd) (.head _)).1
  have hlt : e < s.heap.objs.size := Heap.lt_size he
  have U := news_upd (f := Obj.mapFields (·.setIfInBounds 0 (Value.ref s.heap.objs.size))) (pre := [(s.heap.objs.size, tupO rest)]) (post := news) (o := faultObj C t dd) (o' := faultObj C s.heap.objs.size dd) (F.push (tupO rest))
    (N := by
      have := N.push F (tupO rest)
      exact this) (fun p hp => by rw [List.mem_singleton.mp hp]; exact Nat.ne_of_gt hlt) ne rfl rfl
  have fin := h s.heap.objs.size _ U.1 (fun p hp => U.2 p (by
    rcases List.mem_cons.mp hp with rfl | hp
    · exact .tail _ (.head _)
    · rcases List.mem_cons.mp hp with rfl | hp
      · exact .head _
      · exact .tail _ (.tail _ hp))) (fun p hp => Heap.lt_size (N p (.tail _ hp)).1) hlt
  obtain ⟨hh, g, d, tk, os⟩ := s
  have hcB : (Value.ref C :: ([.ref 46, .type "Exception", .type "BaseException", .type "object"] : List Value)).contains (.type "Exception") = true := by simp
  refine wpAny_call (codeAny_call_builtin FB.init.plain FB.initEntry ?_)
  have hshort := FB.noStar
  simp only [checkBuiltinCall, FB.initKind, FB.initSplit, FB.initRow]
  have hcls : (faultObj C t dd).cls = .ref C := rfl
  repeat (first | (with_reducible refine wpAny_loadPart_at he ?_; rw [hcls]) | with_reducible refine wpAny_loadPart_at hC ?_ | (with_reducible refine wpAny_isSubtype_exc hC ?_; rw [hcB]) | wp_step)
  refine wpAny_onRaise ?_
  rw [show ∀ (a b : String) (n : Nat), Bind.check ⟨.positional, "*", "Exception", .self, [⟨"args", .varPos, false⟩]⟩ a b n (List.map (fun x => x.fst) ({ pos := Value.ref e :: rest } : Args).kw) = pure () from
    fun a b n => check_star_args _ _ _ _ _ _]
  refine wpAny_pure ?_
  unfold Builtin.«BaseException.__init__»
  wp_walk
  exact fin
theorem faultK {K : Frag} {C : Addr} (e : faultIn K C = true) : ∃ cd, clsIn K C = some cd ∧ cd.mro = [.ref C, .ref 46, .type "Exception", .type "BaseException", .type "object"] ∧ cd.hasDict = true := by
  unfold faultIn at e
  split at e
  · rename_i dd cd sl ho
    simp only [Bool.and_eq_true, beq_iff_eq, Bool.not_eq_true'] at e
    exact ⟨cd, by unfold clsIn; rw [ho], e.1.1.1, e.1.2⟩
  · cases e
open Builtin Builtin.ObjectAttr in
theorem seta_open {prog : Program} {w : World} {A : Around} {K : Frag} {C x : Addr} {s : Shared} {R : Result → Shared → Prop} {ox : Obj} {od : Option Obj} {name : Str} {tk : Tok} {v : Value} (X : K.In s.heap) (I : InstAt s.heap x ox C od) (O : FaultOf K C) (ha : findIn K (.ref C) name = some none)
    (h : wpAny (model prog w) A.in1 (storeInOwnDict (.ref x) (.ref C) (.str name tk) name v false)
      (fun fin s' => match fin with | .done f => R (.ok f) s' | .again c' => c'.quiet = true ∧ codeAny (model prog w) A c' R s') (fun e s' => R (.error e) s') s) :
    codeAny (model prog w) A (.call (.builtin "object.__setattr__") ⟨[.ref x, .str name tk, v], []⟩) R s := by
  have SF := PySem.F.store_object
  obtain ⟨cd, hc, hm', -⟩ := faultK O.cls
  have sub : Looks (model prog w) s.heap (isInstance (.ref x) (.type "object")) true := I.type.andThen (looks_subIn X O.top)
  refine codeAny_call_builtin SF.slot.plain SF.entry (@check_slot (model prog w) _ _ s "object.__setattr__" "object" "__setattr__" (.ref x) [.str name tk, v] [] _ SF.kind SF.split sub (SF.args (.ref x) (.str name tk) v) ?_)
  have hm : Looks (model prog w) s.heap (mroOf (.ref C)) cd.mro := (looks_clsIn X hc).andThen .now
  rw [osa_eq, refuse_eq]
  refine wpAny_bind (wpAny_bind (I.type.here (wpAny_bind (hm.here ?_))))
  rw [hm', refuseLoop_ref, refuseLoop_ref, PySem.F.store_Exception.passes]
  exact wpAny_pure (wpAny_bind (I.type.here (wpAny_bind ((looks_findIn X ha).here (wpAny_bind (wpAny_pure h))))))
open Builtin Builtin.ObjectAttr in
theorem seta_new {prog : Program} {w : World} {A : Around} {K : Frag} {C x t : Addr} {s : Shared} {h₀ : Heap} {L : Addr} {m : Str → Option Value} {news : List (Addr × Obj)} {E : Value → Shared → Prop} {Q : Unit → Shared → Prop} {name : Str} {v : Value} {od' : Obj} {es : List DictEntry} {n : Nat}
    (F : Fr h₀ L s.heap m) (X₀ : K.In h₀) (O : FaultOf K C) (N : News h₀ L s.heap ((x, faultObj C t none) :: news)) (ne : ∀ p ∈ news, p.1 ≠ x) (ha : findIn K (.ref C) name = some none)
    (e : Obj.putName name (PyData.keyHash w.params name) (.str name (s.toks + 1)) v (dictOf [] 0) = od') (e' : od'.data = .dict es.toArray n) (hz : es.length ≤ 1000)
    (h : ∀ d h', Fr h₀ L h' m → News h₀ L h' ((x, faultObj C t (some d)) :: (d, od') :: news) → (∀ p ∈ news, p.1 < d) → x < d → Q () { s with heap := h', toks := s.toks + 1 + 1 }) :
    wpAny (model prog w) A (setAttr (.ref x) name v) Q E s := by
  have hx := (N _ (.head _)).1
  have hlt : x < s.heap.objs.size := Heap.lt_size hx
  have X := X₀.keeps F.keep
  have I : InstAt s.heap x (faultObj C t none) C none := ⟨hx, rfl, rfl, trivial⟩
  refine set_plain X I O.seta ?_
  refine seta_open (s := { s with toks := s.toks + 1 }) X I O ha ?_
  obtain ⟨cd, hc, -, hd'⟩ := faultK O.cls
  have N1 := (N.push F (dictOf [] 0))
  have F1 := F.push (dictOf [] 0)
  obtain ⟨F2, N2⟩ := news_upd (f := fun o => { o with dict := some s.heap.objs.size }) (pre := [(s.heap.objs.size, dictOf [] 0)]) (post := news) (o := faultObj C t none) (o' := faultObj C t (some s.heap.objs.size)) F1 N1 (fun p hp => by rw [List.mem_singleton.mp hp]; exact Nat.ne_of_gt hlt) ne rfl rfl
  obtain ⟨F3, N3⟩ := news_upd (f := Obj.putName name (PyData.keyHash w.params name) (.str name (s.toks + 1)) v) (pre := []) (post := (x, faultObj C t (some s.heap.objs.size)) :: news) F2 N2 (fun _ hp => nomatch hp) (fun p hp => by
    rcases List.mem_cons.mp hp with rfl | hp
    · exact Nat.ne_of_lt hlt
    · exact Nat.ne_of_lt (Heap.lt_size (N p (.tail _ hp)).1)) e (by obtain ⟨_, _, dd, _⟩ := od'; cases e'; rfl)
  have D2 := (N2 _ (.head _)).1
  have D3 := (N3 _ (.head _)).1
  refine wpAny_bind (wpAny_pure (wpAny_bind (wpAny_bind (wpAny_loadPart hx (wpAny_bind (looks_clsIn X hc _ _ _ _ (fun _ _ e => e) ?_))))))
  rw [hd']
  refine wpAny_bind (wpAny_alloc ?_)
  have hx1 : (s.heap.push (dictOf [] 0)).get? x = some (faultObj C t none) := Heap.get?_push_of_some _ hx
  refine wpAny_bind (wpAny_update hx1 ?_)
  refine wpAny_pure (a := some s.heap.objs.size) (wpAny_bind (wpAny_pure (wpAny_bind ?_)))
  unfold nsSet
  refine wpAny_bind (wpAny_bind (wpAny_askSetting (wpAny_pure (wpAny_bind (wpAny_mkText (wpAny_bind (wpAny_loadPart D2 ?_)))))))
  refine wpAny_updatePart D2 ?_
  refine wpAny_bind (wpAny_lookBehind D3 (by rw [e']; exact pastItsLine_dict (by rw [List.size_toArray, sizeLine_eq]; omega)) ?_)
  refine wpAny_pure (h _ _ F3 (fun p hp => N3 p ?_) (fun p hp => Heap.lt_size (N p (.tail _ hp)).1) hlt)
  rcases List.mem_cons.mp hp with rfl | hp
  · exact .tail _ (.head _)
  · rcases List.mem_cons.mp hp with rfl | hp
    · exact .head _
    · exact .tail _ (.tail _ hp)
open Builtin Builtin.ObjectAttr in
theorem seta_old {prog : Program} {w : World} {A : Around} {K : Frag} {C x t dx : Addr} {s : Shared} {h₀ : Heap} {L : Addr} {m : Str → Option Value} {news : List (Addr × Obj)} {E : Value → Shared → Prop} {Q : Unit → Shared → Prop} {name : Str} {v : Value} {od od' : Obj} {es : List DictEntry} {n : Nat}
    (F : Fr h₀ L s.heap m) (X₀ : K.In h₀) (O : FaultOf K C) (N : News h₀ L s.heap ((x, faultObj C t (some dx)) :: (dx, od) :: news)) (hxd : x < dx) (ne : ∀ p ∈ news, p.1 ≠ dx) (ha : findIn K (.ref C) name = some none)
    (hl : (lookIn name od).isSome = true)
    (e : Obj.putName name (PyData.keyHash w.params name) (.str name (s.toks + 1)) v od = od') (e' : od'.data = .dict es.toArray n) (hz : es.length ≤ 1000)
    (h : ∀ h', Fr h₀ L h' m → News h₀ L h' ((x, faultObj C t (some dx)) :: (dx, od') :: news) → Q () { s with heap := h', toks := s.toks + 1 + 1 }) :
    wpAny (model prog w) A (setAttr (.ref x) name v) Q E s := by
  have hx := (N _ (.head _)).1
  have X := X₀.keeps F.keep
  have I : InstAt s.heap x (faultObj C t (some dx)) C (some od) := ⟨hx, rfl, rfl, (N _ (.tail _ (.head _))).1⟩
  refine set_plain X I O.seta ?_
  refine seta_open (s := { s with toks := s.toks + 1 }) X I O ha ?_
  obtain ⟨cd, hc, -, hd'⟩ := faultK O.cls
  obtain ⟨U1, U2⟩ := news_upd (f := Obj.putName name (PyData.keyHash w.params name) (.str name (s.toks + 1)) v) (pre := [(x, faultObj C t (some dx))]) (post := news) F N (fun p hp => by rw [List.mem_singleton.mp hp]; exact Nat.ne_of_lt hxd) ne e (by obtain ⟨_, _, dd, _⟩ := od'; cases e'; rfl)
  have D := (N (dx, od) (.tail _ (.head _))).1
  have D' := (U2 (dx, od') (.tail _ (.head _))).1
  refine wpAny_bind (wpAny_pure (wpAny_bind (wpAny_bind (wpAny_loadPart hx (wpAny_bind (looks_clsIn X hc _ _ _ _ (fun _ _ e => e) ?_))))))
  rw [hd']
  refine wpAny_pure (a := some dx) (wpAny_bind (wpAny_pure (wpAny_bind ?_)))
  unfold nsSet
  refine wpAny_bind (wpAny_bind (wpAny_askSetting (wpAny_pure (wpAny_bind (wpAny_mkText (wpAny_bind (wpAny_loadPart D ?_)))))))
  unfold lookIn at hl
  split at hl
  · rename_i es₀ n₀ q
    rw [q]
    dsimp only
    have c : (!es₀.any (·.key.isStr name) && es₀.any (·.refKey)) = false := by
      rw [← Array.any_toList, ← Array.any_toList]
      split at hl
      · rename_i en he
        rw [List.any_eq_true.mpr ⟨en, List.mem_of_find?_eq_some he, List.find?_some he⟩]; rfl
      · split at hl
        · cases hl
        · rename_i z; rw [Bool.not_eq_true] at z; rw [z, Bool.and_false]
    rw [aRefKeyMayBeTheName_at, c]
    refine wpAny_updatePart D ?_
    refine wpAny_bind (wpAny_lookBehind D' (by rw [e']; exact pastItsLine_dict (by rw [List.size_toArray, sizeLine_eq]; omega)) ?_)
    exact wpAny_pure (h _ U1 U2)
  · cases hl
local macro_rules | `(tactic| walk_at "getMethod type:Exception") => `(tactic| (k_here; refine' method_type ?F ?X ?m (by decide +kernel) ?e ?h ?_; (case F => k_asm); (case X => k_asm); (case m => kernel_rfl); (case e => k_dflt k_is); (case h => k_handed)))
section
local macro_rules | `(tactic| walk_at "call ref") => `(tactic| (k_here; (with_reducible show wpAny _ _ (call (Value.ref _) _) _ _ _); (refine Stop.out ?_; walk_say "STOP")))
theorem fault_ok {w : World} {mean : ExcName → Option Value} {mg mb : Str → Option Value} {l : Led} {C : Addr} {what : Str} {tkw : Tok} (O : FaultOf (hd.heap_39 w.params) C) :
    Fn w mean mg mb C 4 [.str what tkw] l (fun r l' => ∃ e t d vs dd, r = .ref e ∧ l' = (e, faultObj C t (some d)) :: (d, dd) :: (t, tupO vs) :: l ∧ (∀ p ∈ l, p.1 ≠ e) ∧ (∀ p ∈ l, p.1 ≠ t) ∧ t ≠ e) := by
  unfold Fn
  k_fill
  intro dp un gd cn cs aa ccd cl outer A₀ base h₀ L m s Q E B F X N T hk hdd hu hret
  refine call_fault F X N O (by simp [sizeLine_eq]) ?_
  intro e t h' F' N' l1 l2
  (try k_lt l1); (try k_lt2 l2)
  (refine' code_def (binds := [(Str.ofString "self", Value.ref e), (Str.ofString "what", Value.str what tkw), (Str.ofString "at", Value.int (-1) 209)]) ?k1 ?k2 ?k3 ?k4 ?k5 ?kA ?kF ?kK ?k6 ?k7 ?k8 ?k9 ?kB ?_ ?c2 ?c3 ?c4 ?c5; (case kA => exact rfl); (case kF => exact rfl); (case kK => assumption); (case k1 => k_asm); (case k2 => k_asm); (case k3 => k_asm); (case k4 => k_asm); (case k5 => k_asm); (case k6 => k_is); (case k7 => k_is); (case k8 => ktr_room); (case k9 => exact binds_K (by k_in) rfl (by k_is) rfl rfl (by kernel_rfl)); (case c5 => decide); (case kB => exact locs rfl); (case c2 => exact rfl); (case c3 => exact rfl); (case c4 => exact rfl); k_whole; intro g' L' h' FG' F' N' B' X' T'; (try dsimp only); (try k_fold))
  k_steps
  have n1 : ∀ p ∈ l, p.1 ≠ e := fun p hp => Nat.ne_of_lt (Nat.lt_trans (l1 p hp) l2)
  refine exc_init F' X' O (News.sub (l' := (e, faultObj C t none) :: l) N' (fun p hp => (List.mem_cons.mp hp).elim (fun q => q ▸ .head _) fun q => .tail _ (.tail _ q))) (by simp [sizeLine_eq]) n1 ?_
  clear F' N'
  intro t2 h2 F2 N2 l3 l4
  (try dsimp only); (try k_fold)
  k_steps
  have n2 : ∀ p ∈ (t2, tupO [Value.str what tkw]) :: l, p.1 ≠ e := fun p hp => (List.mem_cons.mp hp).elim (fun q => q ▸ Nat.ne_of_gt l4) (n1 p)
  refine seta_new F2 X' O N2 n2 (O.att _ (.inl rfl)) rfl rfl (Nat.le_of_ble_eq_true rfl) ?_
  clear F2 N2
  intro d3 h3 F3 N3 l5 l6
  (try dsimp only); (try k_fold)
  k_steps
  refine seta_old F3 X' O N3 l6 (fun p hp => Nat.ne_of_lt (l5 p hp)) (O.att _ (.inr rfl)) rfl rfl rfl (Nat.le_of_ble_eq_true rfl) ?_
  clear F3 N3
  intro h4 F4 N4
  (try dsimp only); (try k_fold)
  k_steps
  exact hret _ _ _ _ (by with_reducible assumption) (by with_reducible assumption) ⟨_, _, _, _, _, rfl, rfl, n1, fun p hp => Nat.ne_of_lt (l3 p hp), Nat.ne_of_gt l4⟩
end
local macro_rules | `(tactic| walk_at "pad") => `(tactic| skip)
local macro_rules | `(tactic| walk_at "pad") => `(tactic| skip)

section
variable {M : Model} {A : Around} {E : Value → Shared → Prop} {s' : Shared} {base g : Heap} {outer : List Env} {L a e t C : Addr} {m : Str → Option Value} {name : Str} {scope : Scope} {cd : Value} {Q : Unit → Shared → Prop} {news : List (Addr × Obj)} {dd : Option Addr} {vs : List Value}
theorem leave_fault (K : Below A base outer g) (F : Fr g L s'.heap m) (N : News g L s'.heap ((e, faultObj C t dd) :: (t, tupO vs) :: news)) (ne : ∀ p ∈ news, p.1 ≠ e) (nt : ∀ p ∈ news, p.1 ≠ t)
    (hQ : ∀ h', RaisedK base outer e (.ref C) t vs news h' → g.UpToSlots h' → Q () { s' with heap := h' }) (hk : scope.kind = .function := by rfl) :
    wpAny M (A.deeper (envOf name scope L a cd)) (leaving (envOf name scope L a cd) (.ref e)) Q E s' := by
  have K' := K.push (name := name) (a := a) (cd := cd) F hk
  have hin : ∀ env ∈ (envOf name scope L a cd :: outer), ∀ b, env.frame = some b → b ∈ e :: t :: (envOf name scope L a cd :: outer).filterMap (·.frame) := fun env he b hb => .tail _ (.tail _ (List.mem_filterMap.mpr ⟨env, he, hb⟩))
  have He := N _ (.head _)
  have Ht := N _ (.tail _ (.head _))
  have Nn : News g L s'.heap news := fun p hp => N p (.tail _ (.tail _ hp))
  have nob : ∀ b, g.get? b = none → base.get? b = none := fun b hb => fresh_of_stays K.stays hb
  have st : base.StaysIn (hideAll s'.heap (e :: t :: (envOf name scope L a cd :: outer).filterMap (·.frame))) := fun b o q => hideAll_get _ (K'.stays b o q) fun hm => by
    rcases List.mem_cons.mp hm with rfl | hm
    · rw [nob _ He.2.2] at q; cases q
    · rcases List.mem_cons.mp hm with rfl | hm
      · rw [nob _ Ht.2.2] at q; cases q
      · rw [(K'.frames.mem hm).1] at q; cases q
  have hl : ∀ q ∈ news, (hideAll s'.heap (e :: t :: (envOf name scope L a cd :: outer).filterMap (·.frame))).get? q.1 = some q.2 ∧ base.get? q.1 = none := fun q hq => by
    refine ⟨hideAll_get _ (Nn q hq).1 fun hm => ?_, nob _ (Nn q hq).2.2⟩
    rcases List.mem_cons.mp hm with z | hm
    · exact ne q hq z
    rcases List.mem_cons.mp hm with z | hm
    · exact nt q hq z
    obtain ⟨env, he, hf⟩ := List.mem_filterMap.mp hm
    rcases List.mem_cons.mp he with rfl | he
    · exact (Nn q hq).2.1 (Option.some.inj hf).symm
    · obtain ⟨o, ho, _⟩ := (K.frames.mem (List.mem_filterMap.mpr ⟨env, he, hf⟩)).2
      rw [(Nn q hq).2.2] at ho; cases ho
  refine wpAny_leaving_firstW (base := hideAll s'.heap (e :: t :: (envOf name scope L a cd :: outer).filterMap (·.frame))) (a0 := .ref t) K'.stack (funFrames_hide K'.frames hin) rfl He.1 (fun b o q => of_hideAll _ q) (hideAll_none _ (.head _)) rfl rfl rfl fun h' hL => ?_
  obtain ⟨k1, ⟨_, _, k2⟩, k3, k4⟩ := hL
  exact hQ h' ⟨⟨_, st, hl, ⟨k1, hideAll_none _ (.head _), k2, k3⟩, hideAll_none _ (.tail _ (.head _))⟩, Heap.TupAt.of_slots ⟨_, _, Ht.1, rfl, rfl⟩ k4⟩ ((Heap.UpToSlots.of_keeps F.keep).trans k4)
theorem raiseStmt_fault {s : Shared} {x : Sem Value} {env : Env} {Q : Flow → Shared → Prop} (hh : A.handled = none)
    (h : wpAny M A x (fun v s₁ => ∃ e t dd, v = .ref e ∧ FaultCls s₁.heap C ∧ s₁.heap.get? e = some (faultObj C t dd) ∧ E (.ref e) s₁) E s) :
    wpAny M A (raiseStmt env (some x) none) Q E s := by
  have hcB : (Value.ref C :: ([.ref 46, .type "Exception", .type "BaseException", .type "object"] : List Value)).contains (.type "BaseException") = true := by simp
  unfold raiseStmt
  refine wpAny_bind (wpAny_mono h (fun v s₁ h₁ => ?_) fun _ _ x => x)
  obtain ⟨e, t, dd, rfl, f, he, hE⟩ := h₁
  obtain ⟨nm, q, N, bs, sub, sn, ab, col, d0, k0, k1, k2, k3, k5, hC⟩ := f.obj
  obtain ⟨hp, g, d, tk, os⟩ := s₁
  repeat (first | with_reducible refine wpAny_loadPart_at he ?_ | with_reducible refine wpAny_loadPart_at hC ?_ | (with_reducible refine wpAny_isSubtype_exc hC ?_; rw [hcB]) | wp_step)
  exact wpAny_raiseNew_none hh hE
end
def Thrown (C : Addr) (h₀ : Heap) (E : Value → Shared → Prop) (v : Value) (s₃ : Shared) : Prop :=
  ∃ e t dd, v = .ref e ∧ (∀ b o, h₀.get? b = some o → s₃.heap.get? b = some o) ∧ s₃.heap.get? e = some (faultObj C t dd) ∧ E (.ref e) s₃
section
variable {prog : Program} {w : World} {A : Around} {E : Value → Shared → Prop} {s : Shared} {h₀ : Heap} {L a C : Addr} {m : Str → Option Value} {name : Str} {scope : Scope} {cd : Value} {K : Frag} {p : Program} {loose : List Str} {mean : ExcName → Option Value} {mg mb : Str → Option Value} {x : Str} {np cpos pos : Pos} {Q : Flow → Shared → Prop}
theorem raise_fault {e₀ : Expr} {rest : List Expr} (F : Fr h₀ L s.heap m) (X : K.In h₀) (T : TopRead p loose mg mb h₀) (ex : nsIn K mainGlobals x = some (some (.ref C))) (O : FaultOf K C) (hh : A.handled = none)
    (h : wpAny (model prog w) A (spliced (backTo cpos (starEach (e₀ :: rest) (envOf name scope L a cd)))) (fun vs s₂ => (∀ b o, h₀.get? b = some o → s₂.heap.get? b = some o) ∧ wpAny (model prog w) A (call (.ref C) vs) (Thrown C h₀ E) E s₂) E s)
    (he : starEach (e₀ :: rest) (envOf name scope L a cd) = (false, eval e₀ (envOf name scope L a cd)) :: starEach rest (envOf name scope L a cd))
    (hplain : (backTo cpos (starEach rest (envOf name scope L a cd))).any (·.1) = false)
    (hk : scope.kind = .function := by rfl) (hx : (envOf name scope L a cd).kindOf x = some .globalImplicit := by rfl) (hd : (x == ("__debug__" : Str)) = false := by decide) :
    wpAny (model prog w) A (exec (.Raise (some (.Call (.Name x np) (e₀ :: rest) [] cpos)) none pos) (envOf name scope L a cd)) Q E s := by
  have hpl : (backTo cpos (starEach (e₀ :: rest) (envOf name scope L a cd))).any (·.1) = false := by rw [he]; show (false || (backTo cpos (starEach rest (envOf name scope L a cd))).any (·.1)) = false; rw [hplain]; rfl
  rw [arm_exec_Raise]
  refine wpAny_bind (wpAny_standAt (raiseStmt_fault (C := C) hh ?_))
  refine wpAny_bind (wpAny_mono (wpAny_Call_ofName (name_K F X T ex ?_ hk hx hd)) (fun v s₃ h₃ => wpAny_bind (wpAny_standAt (wpAny_pure h₃))) fun _ _ x => x)
  unfold callWith
  rw [he] at h
  refine wpAny_bind (wpAny_holding ?_)
  rw [he]
  refine Calls.evalArgs_plain (wpAny_mono h (fun vs s₂ h₂ => wpAny_bind (wpAny_standAt ?_)) fun _ _ y => y)
  obtain ⟨hkeep, h₂⟩ := h₂
  rw [he] at hpl
  obtain ⟨nm, q, N, bs, sub, sn, ab, col, d0, k0, k1, k2, k3, k5, hC⟩ := (faultCls_of (X.keeps hkeep) O.cls).obj
  obtain ⟨hp, g, d, tk, os⟩ := s₂
  simp only [hpl]
  refine wpAny_bind (wpAny_keeperOf_exc hC ?_)
  refine wpAny_bind (wpAny_mono h₂ (fun v s₃ h₃ => ?_) fun _ _ y => y)
  obtain ⟨e, t, dd, rfl, k3', he3, hE⟩ := h₃
  exact wpAny_bind (wpAny_holding (wpAny_point (wpAny_pure ⟨e, t, dd, rfl, faultCls_of (X.keeps k3') O.cls, he3, hE⟩)))
end

local macro_rules | `(tactic| walk_at "subscriptTail") => `(tactic| (k_here; (with_reducible show wpAny _ _ (subscriptTail _ _ (Value.ref _) (Value.str _ _)) _ _ _); k_dflt (refine' kda_item (knd := PySem.strKind _ _) ?N ?hp ?hd (strKind_is _ _ _ _) ?hl ?_; (case N => k_asm); (case hp => k_mem); (case hd => with_reducible assumption); (case hl => rfl))))
/-- the dict of the spacing -/
abbrev spD (w : World) (o : Obj) (tc tw tz tl ts : Value) : Prop := o.IsDictOf (PySem.strKind PySem.Challenge.rw_og0194_01.row.prog w) [(Str.ofString "Tc", tc), (Str.ofString "Tw", tw), (Str.ofString "Tz", tz), (Str.ofString "TL", tl), (Str.ofString "Ts", ts)]
section
local macro_rules | `(tactic| walk_at "call ref") => `(tactic| (k_here; (with_reducible show wpAny _ _ (call (Value.ref _) _) _ _ _); (refine Stop.out ?_; walk_say "STOP")))
local macro_rules | `(tactic| walk_at "call ref") => `(tactic| (k_here; (with_reducible show wpAny _ _ (call (Value.ref 108) _) _ _ _); k_dflt ((refine' Fn.useM (M := []) ?N ?hs (times_ok (sub_on ?hs) ?h1 ?h2 ?h3 ?h4) ?B ?F ?X ?T ?kK ?kd ?ku ?O ?_); (case N => k_asm); (case hs => with_reducible assumption); kaf_suf; (case h1 => kwd_rel); (case h2 => kwd_rel); (case h3 => exact Nat.le_refl _); (case h4 => omega); rintro r' l' z' h' tk' F' N' G' hz' hl' O' D'; (have hG' := Grow.of G')); (try simp only [List.cons_append, List.nil_append, List.map_cons, List.map_nil] at N' O'); (obtain ⟨x', er'⟩ := IsD.isRef D'); subst er'; (try clear O'); (try dsimp only); (try k_fold)))
local macro_rules | `(tactic| walk_at "call ref") => `(tactic| (k_here; (with_reducible show wpAny _ _ (call (Value.ref 167) _) _ _ _); k_dflt ((refine' Fn.useM (M := []) ?N ?hs (decNew_ok (n := 2) (sub_on ?hs) ?h1 ?h2 ?h3) ?B ?F ?X ?T ?kK ?kd ?ku ?O ?_); (case N => k_asm); (case hs => with_reducible assumption); kaf_suf; (case h1 => decide); (case h2 => decide); (case h3 => decide); rintro r' l' z' h' tk' F' N' G' hz' hl' O' D'; (have hG' := Grow.of G')); (try simp only [List.cons_append, List.nil_append, List.map_cons, List.map_nil] at N' O'); (obtain ⟨x', er'⟩ := IsD.isRef D'); subst er'; (try clear O'); (try dsimp only); (try k_fold)))
theorem stretched_ok {w : World} {mean : ExcName → Option Value} {mg mb : Str → Option Value} {l z : Led} {x ds sp : Addr} {osp : Obj} {hst0 hst1 hst2 hst3 : Int} {kst0 kst1 kst2 kst3 : Tok} {c f s5 tc tw tl ts way : Value} {tz : Value} {n1 n2 n : Nat} (hs : ∀ p ∈ z, p ∈ l)
    (hx : (x, W.instObj 497 ds) ∈ l) (hds : (ds, W.dictOf [⟨hst0, .str (Str.ofString "ctm") kst0, c⟩, ⟨hst1, .str (Str.ofString "font") kst1, f⟩, ⟨hst2, .str (Str.ofString "size") kst2, s5⟩, ⟨hst3, .str (Str.ofString "spacing") kst3, .ref sp⟩] 4) ∈ l) (hsp : (sp, osp) ∈ l) (hosp : spD w osp tc tw tz tl ts) (hw : IsD z way n1) (hz : IsD z tz n2) (hn : n1 + n2 + 2 ≤ n) (hb : n ≤ 4000) :
    Fn w mean mg mb 494 16 [.ref x, way] l (fun r l' => ∃ z', Ex l z l' z' ∧ IsD z' r n) := by
  unfold Fn
  k_fill
  intro dp un gd cn cs aa ccd cl outer A₀ base h₀ L m s Q E B F X N T hk hdd hu hret
  obtain ⟨aw, rfl⟩ := hw.isRef
  obtain ⟨az, rfl⟩ := hz.isRef
  kqd_sub
  refine' hret _ _ _ _ ?eF ?eN ⟨_, ?eX, ?eD⟩
  case eF => with_reducible assumption
  case eN => with_reducible assumption
  case eX => ktu_off1L
  case eD => kwd_rel
end
local macro_rules | `(tactic| walk_at "pad") => `(tactic| skip)
local macro_rules | `(tactic| walk_at "pad") => `(tactic| skip)
local macro_rules | `(tactic| walk_at "pad") => `(tactic| skip)
local macro_rules | `(tactic| walk_at "pad") => `(tactic| skip)

open LCg (SrcAt)
theorem go_name {x : Str} {p : Pos} {I : Addr} {v : Value} {M : Model} {A : Around} {E : Value → Shared → Prop} {s : Shared} {Q : Unit → Shared → Prop} (_ : ∃ ax j, s.heap.IsListIter I ax j) (h : Q () s) : wpAny M A (letOwnedTupleGo (.Name x p) (.ref I) v) Q E s := wpAny_pure h
theorem go_tuple {es : List Expr} {k} {p : Pos} {I : Addr} {v : Value} {M : Model} {A : Around} {E : Value → Shared → Prop} {s : Shared} {Q : Unit → Shared → Prop} (hI : ∃ ax j, s.heap.IsListIter I ax j) (h : Q () s) : wpAny M A (letOwnedTupleGo (.Tuple es k p) (.ref I) v) Q E s := by
  obtain ⟨ax, j, o, ho, hc, hd⟩ := hI
  unfold letOwnedTupleGo
  cases v with
  | ref a =>
    dsimp only
    refine wpAny_bind (wpAny_load ho ?_)
    rw [hc, hd]
    exact wpAny_pure h
  | _ => exact wpAny_pure h
/-- the end of a turn -/
def TurnQ (h₀ : Heap) (L : Addr) (s₁ : Shared) (I : Addr) (oI : Obj) (ax : Addr) (its : Array Value) (J : (Str → Option Value) → Led → Prop) (Q : Flow → Shared → Prop) (f : Flow) (s₃ : Shared) : Prop := match f with
  | .next | .cont => ∃ h' tk m' news', s₃ = { s₁ with heap := h', toks := tk } ∧ Fr h₀ L h' m' ∧ News h₀ L h' ((I, oI) :: news') ∧ (∀ p ∈ news', p.1 ≠ I) ∧ SrcAt h₀ ax its news' ∧ J m' news'
  | .brk => Q .next s₃
  | .ret v => Q (.ret v) s₃
theorem TurnQ.nxt {h₀ : Heap} {L : Addr} {s₁ : Shared} {I : Addr} {oI : Obj} {ax : Addr} {its : Array Value} {J : (Str → Option Value) → Led → Prop} {Q : Flow → Shared → Prop} {h' : Heap} {tk : Nat} {m' : Str → Option Value} {all : Led} (news' : Led)
    (F : Fr h₀ L h' m') (N : News h₀ L h' all) (sub : ∀ p ∈ (I, oI) :: news', p ∈ all) (off : ∀ p ∈ news', p.1 ≠ I) (hS : SrcAt h₀ ax its news') (hJ : J m' news') : TurnQ h₀ L s₁ I oI ax its J Q .next { s₁ with heap := h', toks := tk } :=
  ⟨h', tk, m', news', rfl, F, fun p hp => N p (sub p hp), off, hS, hJ⟩
def ForSrc (prog : Program) (w : World) (A : Around) (E : Value → Shared → Prop) (env : Env) (h₀ : Heap) (Q : Flow → Shared → Prop) (target : Expr) (body : List Stmt) (xv : Value) (s₁ : Shared) : Prop :=
  ∃ (ax : Addr) (its : Array Value) (news : Led) (m : Str → Option Value) (J : Nat → (Str → Option Value) → Led → Prop), xv = .ref ax ∧ A.handled = none ∧ Fr h₀ env.locals s₁.heap m ∧ News h₀ env.locals s₁.heap news ∧ SrcAt h₀ ax its news ∧ J 0 m news ∧
      (∀ i v I oI m₁ news₁ h tk, i < its.size → its[i]? = some v → J i m₁ news₁ → Fr h₀ env.locals h m₁ → News h₀ env.locals h ((I, oI) :: news₁) → (∀ p ∈ news₁, p.1 ≠ I) → SrcAt h₀ ax its news₁ →
        wpAny (model prog w) A (assign target env v) (fun _ s₂ => wpAny (model prog w) A (execs body env) (TurnQ h₀ env.locals { s₁ with heap := h, toks := tk } I oI ax its (J (i + 1)) Q) E s₂) E { s₁ with heap := h, toks := tk }) ∧
      (∀ h tk m' news', Fr h₀ env.locals h m' → News h₀ env.locals h news' → J its.size m' news' → Q .next { s₁ with heap := h, toks := tk })
theorem For_led {prog : Program} {w : World} {A : Around} {E : Value → Shared → Prop} {s : Shared} {env : Env} {h₀ : Heap} {Q : Flow → Shared → Prop} {target iter : Expr} {pos : Pos} {body : List Stmt} {m₀ : Str → Option Value} (F₀ : Fr h₀ env.locals s.heap m₀)
    (hgo : ∀ (I : Addr) (v : Value) (s' : Shared) (Q' : Unit → Shared → Prop) (E' : Value → Shared → Prop), (∃ ax j, s'.heap.IsListIter I ax j) → Q' () s' → wpAny (model prog w) A (letOwnedTupleGo target (.ref I) v) Q' E' s')
    (h : wpAny (model prog w) A (eval iter env) (ForSrc prog w A E env h₀ Q target body) E s)
    (hs : ∀ x, foldedSetIterable iter env x = pure x := by intro _; rfl) (hE : PassesOwn (model prog w) A env E := by passes_own) :
    wpAny (model prog w) A (exec (.For target iter body [] pos) env) Q E s := by
  refine wpAny_For (wpAny_mono h (fun xv s₁ h₁ => ?_) fun _ _ e => e) hs
  obtain ⟨ax, its, news, m, J, rfl, hh, F, N, S, h0, step, done⟩ := h₁
  have hl := S.list F.keep N
  have hlt : ax < s₁.heap.objs.size := by obtain ⟨_, e, _⟩ := hl; exact Heap.lt_size e
  refine wpAny_pyIter_list hl ?_
  generalize hI : s₁.heap.objs.size = I
  have up : ∀ b o, s₁.heap.get? b = some o → (s₁.heap.push { cls := .type "list_iterator", data := .fields #[.ref ax, .int 0 0] }).get? b = some o := fun b o e => Heap.get?_push_of_some _ e
  have hLI : env.locals ≠ I := hI ▸ Nat.ne_of_lt F.ns.lt
  have hI₀ : h₀.get? I = none := hI ▸ next_is_new F
  have hax : ax ≠ I := hI ▸ Nat.ne_of_lt hlt
  have W : Walks prog w A I [I, ax] [I] its.size (fun i v => its[i]? = some v) (fun i h => h.IsListIter I ax i ∧ h.IsList ax its) := Walks.list hh I ax hax its
  refine codeAny_forLoop_any (fun k s' => ∃ h' tk m' news' i, s' = { s₁ with heap := h', toks := tk } ∧ (h'.IsListIter I ax i ∧ h'.IsList ax its) ∧ Fr h₀ env.locals h' m' ∧ News h₀ env.locals h' news' ∧ (∀ p ∈ news', p.1 ≠ I) ∧ SrcAt h₀ ax its news' ∧ J i m' news' ∧ i ≤ its.size ∧ k = its.size + 1 - i) ?_ (its.size + 1)
    ⟨_, s₁.toks, m, news, 0, rfl, ⟨⟨_, hI ▸ Heap.get?_push_size _ rfl, rfl, rfl⟩, hl.push _⟩, F.keeps up, N.grown up, fun p hp => hI ▸ Nat.ne_of_lt (Heap.lt_size (N p hp).1), S, h0, Nat.zero_le _, rfl⟩
  rintro k s' ⟨h', tk, m', news', i, rfl, hst', F', N', off', S', hJ, hi, rfl⟩
  by_cases hlt' : i < its.size
  · refine W.item i _ _ _ hlt' hst' fun v h₁ tk₁ hP hst₁ hk₁ => ?_
    refine hgo I v _ _ _ ⟨ax, _, hst₁.1⟩ ?_
    obtain ⟨oI, heI, r⟩ := hst₁.1
    have F₁ : Fr h₀ env.locals h₁ m' := LCg.fr_but F' hk₁ hLI hI₀
    have N₁ : News h₀ env.locals h₁ news' := LCg.news_but N' hk₁ off'
    refine wpAny_mono (step i v I oI m' news' h₁ tk₁ hlt' hP hJ F₁ (fun p hp => (List.mem_cons.mp hp).elim (fun q => q ▸ ⟨heI, Ne.symm hLI, hI₀⟩) (N₁ p)) off' S') (fun _ s₂ h₂ => wpAny_passesOwn hE (wpAny_mono h₂ (fun f s₃ h₃ => ?_) fun _ _ e => e)) hE
    have nxt : (∃ h' tk m' news', s₃ = { s₁ with heap := h', toks := tk } ∧ Fr h₀ env.locals h' m' ∧ News h₀ env.locals h' ((I, oI) :: news') ∧ (∀ p ∈ news', p.1 ≠ I) ∧ SrcAt h₀ ax its news' ∧ J (i + 1) m' news') →
        ∃ m, m < its.size + 1 - i ∧ ∃ h' tk m' news' i, s₃ = { s₁ with heap := h', toks := tk } ∧ (h'.IsListIter I ax i ∧ h'.IsList ax its) ∧ Fr h₀ env.locals h' m' ∧ News h₀ env.locals h' news' ∧ (∀ p ∈ news', p.1 ≠ I) ∧ SrcAt h₀ ax its news' ∧ J i m' news' ∧ i ≤ its.size ∧ m = its.size + 1 - i := by
      rintro ⟨h₄, tk₄, m₄, news₄, rfl, F₄, N₄, off₄, S₄, J₄⟩
      have N₄' : News h₀ env.locals h₄ news₄ := fun p hp => N₄ p (.tail _ hp)
      exact ⟨its.size + 1 - (i + 1), by omega, h₄, tk₄, m₄, news₄, i + 1, rfl, ⟨⟨oI, (N₄ _ (.head _)).1, r⟩, S₄.list F₄.keep N₄'⟩, F₄, N₄', off₄, S₄, J₄, hlt', rfl⟩
    cases f with
    | next => exact nxt h₃
    | cont => exact nxt h₃
    | brk => exact h₃
    | ret v => exact h₃
  · obtain rfl : i = its.size := by omega
    refine W.done _ _ _ hst' fun h₁ tk₁ hk₁ => wpAny_execs_nil ?_
    exact done h₁ tk₁ m' news' (LCg.fr_but F' hk₁ hLI hI₀) (LCg.news_but N' hk₁ off') hJ
def NilSrc (A : Around) (env : Env) (h₀ : Heap) (Q : Flow → Shared → Prop) (xv : Value) (s₁ : Shared) : Prop :=
  ∃ (ax : Addr) (news : Led) (m : Str → Option Value) (e : Nat), xv = .ref ax ∧ A.handled = none ∧ Fr h₀ env.locals s₁.heap m ∧ News h₀ env.locals s₁.heap news ∧ (ax, W.listOf #[] e) ∈ news ∧
      (∀ h tk, Fr h₀ env.locals h m → News h₀ env.locals h news → Q .next { s₁ with heap := h, toks := tk })
theorem For_nil {prog : Program} {w : World} {A : Around} {E : Value → Shared → Prop} {s : Shared} {env : Env} {h₀ : Heap} {Q : Flow → Shared → Prop} {target iter : Expr} {pos : Pos} {body : List Stmt} {m₀ : Str → Option Value} (F₀ : Fr h₀ env.locals s.heap m₀)
    (hgo : ∀ (I : Addr) (v : Value) (s' : Shared) (Q' : Unit → Shared → Prop) (E' : Value → Shared → Prop), (∃ ax j, s'.heap.IsListIter I ax j) → Q' () s' → wpAny (model prog w) A (letOwnedTupleGo target (.ref I) v) Q' E' s')
    (h : wpAny (model prog w) A (eval iter env) (NilSrc A env h₀ Q) E s)
    (hs : ∀ x, foldedSetIterable iter env x = pure x := by intro _; rfl) (hE : PassesOwn (model prog w) A env E := by passes_own) :
    wpAny (model prog w) A (exec (.For target iter body [] pos) env) Q E s :=
  For_led F₀ hgo (wpAny_mono h (fun xv s₁ ⟨ax, news, m, e, hx, hh, F, N, hm, d⟩ => ⟨ax, #[], news, m, fun _ m' n' => m' = m ∧ n' = news, hx, hh, F, N, .inr ⟨_, hm, rfl, _, rfl⟩, ⟨rfl, rfl⟩, fun i v I oI m₁ news₁ h tk hi => absurd hi (Nat.not_lt_zero i), fun h tk m' news' F' N' ⟨em, en⟩ => by subst em en; exact d h tk F' N'⟩) fun _ _ e => e) hs hE

/-- the font of the law -/
inductive IsFont (z : Led) : Value → Prop
  | mk {x df nl rl u st : Addr} {hfo0 hfo1 hfo2 hfo3 hfo4 hfo5 hfo6 : Int} {kfo0 kfo1 kfo2 kfo3 kfo4 kfo5 kfo6 : Tok} {arr : Array Value} {en er : Nat} {td : Tok} (hx : (x, W.instObj 753 df) ∈ z) (hdf : (df, W.dictOf [⟨hfo0, .str (Str.ofString "names") kfo0, .ref nl⟩, ⟨hfo1, .str (Str.ofString "cutting") kfo1, .none⟩, ⟨hfo2, .str (Str.ofString "unicode") kfo2, .none⟩, ⟨hfo3, .str (Str.ofString "rows") kfo3, .ref rl⟩, ⟨hfo4, .str (Str.ofString "default") kfo4, .int 500 td⟩, ⟨hfo5, .str (Str.ofString "unit") kfo5, .ref u⟩, ⟨hfo6, .str (Str.ofString "standard") kfo6, .ref st⟩] 7) ∈ z)
      (hn : (nl, W.listOf arr en) ∈ z) (hs : arr.size = 256) (ha : ∀ i < 256, ∃ t, arr[i]? = some (.str (Str.ofString "") t)) (hr : (rl, W.listOf #[] er) ∈ z) (ht : (st, ({ cls := .type "tuple", data := .seq #[] } : Obj)) ∈ z) (hu : IsD z (.ref u) 3) : IsFont z (.ref x)
theorem IsFont.mono {l l' : Led} {v : Value} (h : IsFont l v) (s : ∀ p ∈ l, p ∈ l') : IsFont l' v := by
  cases h with
  | mk hx hdf hn hs ha hr ht hu => exact .mk (s _ hx) (s _ hdf) (s _ hn) hs ha (s _ hr) (s _ ht) (hu.mono s)
theorem IsFont.isRef {l : Led} {v : Value} (h : IsFont l v) : ∃ x, v = .ref x := by
  cases h; exact ⟨_, rfl⟩
abbrev tup2 (a b : Value) : Obj := { cls := .type "tuple", data := .seq #[a, b] }
open LCg in
def BytesSrc (prog : Program) (w : World) (A : Around) (env : Env) (h₀ : Heap) (L : Addr) (m : Str → Option Value) (elt : Expr) (x : Str) (scope : Scope) (cl : List (Str × Addr)) (Q : Value → Shared → Prop) (xv : Value) (s₁ : Shared) : Prop :=
  ∃ b t news, xv = .bytes b t ∧ A.handled = none ∧ Fr h₀ L s₁.heap m ∧ News h₀ L s₁.heap news ∧ b.size ≤ sizeLine ∧
      ∀ g, CompRest prog w A h₀ L m env elt x scope cl { s₁ with heap := g } (fun _ => True) (fun i v => ∃ c u, b[i]? = some c ∧ v = .int (c.toNat : Int) u) (FinE h₀ L m { s₁ with heap := g } Q) b.size 0 [] news
open LCg in
theorem ListComp_B {prog : Program} {w : World} {A : Around} {E : Value → Shared → Prop} {s : Shared} {h₀ : Heap} {L : Addr} {m : Str → Option Value} {env : Env} {elt iter : Expr} {x : Str} {px : Pos} {scope : Scope} {cl : List (Str × Addr)} {pos : Pos} {Q : Value → Shared → Prop} (F₀ : Fr h₀ L s.heap m)
    (hclos : closureFor scope env = pure cl) (hcell : ∀ y ∈ scope.names, y.2 ≠ .cell) (hkind : scope.kind = .function)
    (hnames : ∀ y ∈ scope.names, y.2 = .local → scope.names.lookup y.1 = some .local) (hx : scope.names.lookup x = some .local)
    (h : wpAny (model prog w) A (eval iter env) (BytesSrc prog w A env h₀ L m elt x scope cl Q) E s)
    (hs : ∀ x, foldedSetIterable iter env x = pure x := by intro _; rfl) :
    wpAny (model prog w) A (eval (.ListComp elt [⟨.Name x px, iter, [], 0⟩] scope pos) env) Q E s := by
  rw [eval_ListComp]
  refine wpAny_comprehension_free (use := none) rfl hs hclos hkind hnames (wpAny_mono h (fun xv s₁ h₁ => ?_) fun _ _ e => e)
  obtain ⟨b, t, news, rfl, hh, F, N, hsz, R⟩ := h₁
  refine KBw.pyIter_bytes ?_
  have up : ∀ a o, s₁.heap.get? a = some o → (s₁.heap.push { cls := .type "bytes_iterator", data := .fields #[.bytes b t, .int 0 0] }).get? a = some o := fun a o e => Heap.get?_push_of_some _ e
  refine block_U (KBw.walks hh s₁.heap.objs.size b t) hsz (fun i h st => by obtain ⟨o, e, _⟩ := st; exact ⟨o, e⟩) (fun i h h' o nw st e e' _ _ _ => by obtain ⟨o', q, r⟩ := st; rw [e] at q; cases q; exact ⟨o, e', r⟩) hcell hkind hx ⟨_, Heap.get?_push_size _ rfl, rfl, rfl⟩ (fun a ha => ?_)
    (F.keeps up) (N.grown up) (Nat.ne_of_lt F.ns.lt) (next_is_new F) (fun p hp => Nat.ne_of_lt (Heap.lt_size (N p hp).1)) trivial (R _) ?_
  · show a < (s₁.heap.push _).objs.size
    rw [Heap.size_push, List.mem_singleton.mp ha]
    exact Nat.lt_succ_self _
  · intro D C h tk m' ys news' F' N' o1 hn hC₀ hD₀ hCL hDL hCD offC fin
    refine ⟨m', hn, fun h'' hs'' => fin D h'' tk (F'.change hs'' hCL hC₀) (fun p hp => ?_) o1⟩
    refine ⟨hs''.extBut _ _ ?_ (N' p hp).1, (N' p hp).2⟩
    rcases List.mem_cons.mp hp with rfl | hp
    · exact Ne.symm hCD
    · exact offC p hp
open LCg in
theorem comp_ind {prog : Program} {w : World} {A : Around} {h₀ : Heap} {L : Addr} {m : Str → Option Value} {env : Env} {elt : Expr} {x : Str} {scope : Scope} {cl : List (Str × Addr)} {s : Shared} {S : Led → Prop} {P : Nat → Value → Prop} {Fin : List Value → Led → Prop} {n : Nat} {news : Led}
    (J : Nat → List Value → Led → Prop) (h0 : J 0 [] news)
    (step : ∀ i ys news, J i ys news → i < n → ∀ v I oI C oC D m₂ h tk (E' : Value → Shared → Prop), P i v → NsObj oC m₂ → m₂ x = some v → Fr h₀ L h m → News h₀ L h ((I, oI) :: (C, oC) :: (D, lst ys) :: news) → Off3 I C D news → ((@Ne Nat I C) ∧ (@Ne Nat I D) ∧ (@Ne Nat C D)) →
      wpAny (model prog w) A (eval elt (compEnvC scope cl C env)) (CompEnd h₀ L m { s with heap := h, toks := tk } I oI C oC D (lst ys) S (fun y news' => J (i + 1) (ys ++ [y]) news')) E' { s with heap := h, toks := tk })
    (fin : ∀ ys news, J n ys news → Fin ys news) : CompRest prog w A h₀ L m env elt x scope cl s S P Fin n 0 [] news := by
  have go : ∀ k i ys news, i + k = n → J i ys news → CompRest prog w A h₀ L m env elt x scope cl s S P Fin k i ys news := by
    intro k
    induction k with
    | zero => intro i ys news e j; obtain rfl : i = n := e; exact fin ys news j
    | succ k ih =>
      intro i ys news e j
      refine CompRest.succ fun v I oI C oC D m₂ h tk E' a b c d f g ne => wpAny_mono (step i ys news j (by omega) v I oI C oC D m₂ h tk E' a b c d f g ne) (fun y s' z => ?_) fun _ _ z => z
      obtain ⟨h', tk', news', r1, r2, r3, r4, r5, r6⟩ := z
      exact ⟨h', tk', news', r1, r2, r3, r4, r5, ih (i + 1) _ _ (by omega) r6⟩
  exact go n 0 [] news (Nat.zero_add n) h0
theorem off3_cons {I C D : Addr} {p : Addr × Obj} {l : Led} (h : p.1 ≠ I ∧ p.1 ≠ C ∧ p.1 ≠ D) (o : LCg.Off3 I C D l) : LCg.Off3 I C D (p :: l) := ⟨h, o⟩
theorem lt3 {a I C D : Addr} {oI oC oD : Obj} {l : Led} (h : ∀ p ∈ (I, oI) :: (C, oC) :: (D, oD) :: l, p.1 < a) : (a ≠ I ∧ a ≠ C ∧ a ≠ D) ∧ ∀ p ∈ l, p.1 < a :=
  ⟨⟨Nat.ne_of_gt (h _ (.head _)), Nat.ne_of_gt (h _ (.tail _ (.head _))), Nat.ne_of_gt (h _ (.tail _ (.tail _ (.head _))))⟩, fun p hp => h p (.tail _ (.tail _ (.tail _ hp)))⟩
theorem allLt_mem {d : Nat} : ∀ {l : Led}, AllLt d l → ∀ p ∈ l, p.1 < d
  | [], _, _, h => nomatch h
  | _ :: _, a, p, h => by
    rcases List.mem_cons.mp h with rfl | h
    · exact a.1
    · exact allLt_mem a.2 p h
theorem off1_mem {d : Addr} : ∀ {l : Led}, LCg.Off1 d l → ∀ p ∈ l, p.1 ≠ d
  | [], _, _, h => nomatch h
  | _ :: _, a, p, h => by
    rcases List.mem_cons.mp h with rfl | h
    · exact a.1
    · exact off1_mem a.2 p h
theorem compEnd_new {h₀ : Heap} {L : Addr} {m : Str → Option Value} {I C D D2 : Addr} {oI oC ob oD : Obj} {S : Led → Prop} {J : Value → Led → Prop} {y : Value} {h2 : Heap} {tk : Nat} {news : Led} {s₁ : Shared}
    (F2 : Fr h₀ L h2 m) (N2 : News h₀ L h2 ((D2, ob) :: (I, oI) :: (C, oC) :: (D, oD) :: news)) (l2 : AllLt D2 ((I, oI) :: (C, oC) :: (D, oD) :: news)) (off : LCg.Off3 I C D news) (hS : S ((D2, ob) :: news))
    (hJ : (∀ p ∈ news, p.1 < D2) → J y ((D2, ob) :: news)) : LCg.CompEnd h₀ L m s₁ I oI C oC D oD S J y { s₁ with heap := h2, toks := tk } := by
  obtain ⟨a1, a2, a3, a4⟩ := l2
  refine LCg.CompEnd.intro F2 N2 ((D2, ob) :: news) ?_ (off3_cons ⟨Nat.ne_of_gt a1, Nat.ne_of_gt a2, Nat.ne_of_gt a3⟩ off) hS (hJ (allLt_mem a4))
  intro p hp
  rcases List.mem_cons.mp hp with rfl | hp
  · exact .tail _ (.head _)
  rcases List.mem_cons.mp hp with rfl | hp
  · exact .tail _ (.tail _ (.head _))
  rcases List.mem_cons.mp hp with rfl | hp
  · exact .tail _ (.tail _ (.tail _ (.head _)))
  rcases List.mem_cons.mp hp with rfl | hp
  · exact .head _
  · exact .tail _ (.tail _ (.tail _ (.tail _ hp)))
/-- a code: (1, octet) -/
def CodeAt (z : Led) (y : Value) : Prop := ∃ p o t1 t2, y = .ref p ∧ (p, tup2 (.int 1 t1) (.int o t2)) ∈ z ∧ 0 ≤ o ∧ o < 256
theorem CodeAt.mono {z z' : Led} {y : Value} (h : CodeAt z y) (s : ∀ p ∈ z, p ∈ z') : CodeAt z' y := by
  obtain ⟨p, o, t1, t2, e, hp, a, b⟩ := h
  exact ⟨p, o, t1, t2, e, s _ hp, a, b⟩
/-- a list of n codes -/
def IsCodes (z : Led) (r : Value) (n : Nat) : Prop := ∃ (d : Addr) (ys : List Value) (e : Nat), r = .ref d ∧ (d, W.listOf ys.toArray e) ∈ z ∧ ys.length = n ∧ ∀ y ∈ ys, CodeAt z y
theorem IsCodes.get {z : Led} {r : Value} {n : Nat} (h : IsCodes z r n) : ∃ (d : Addr) (ys : List Value) (e : Nat), r = .ref d ∧ (d, W.listOf ys.toArray e) ∈ z ∧ ys.length = n ∧ ∀ y ∈ ys, CodeAt z y := h
section
local macro_rules | `(tactic| walk_at "call ref") => `(tactic| (k_here; (with_reducible show wpAny _ _ (call (Value.ref 108) _) _ _ _); k_dflt ((refine' Fn.useM (M := []) ?N ?hs (times_ok (sub_on ?hs) ?h1 ?h2 ?h3 ?h4) ?B ?F ?X ?T ?kK ?kd ?ku ?O ?_); (case N => k_asm); (case hs => with_reducible assumption); kaf_suf; (case h1 => kwd_rel); (case h2 => kwd_rel); (case h3 => exact Nat.le_refl _); (case h4 => omega); rintro r' l' z' h' tk' F' N' G' hz' hl' O' D'; (have hG' := Grow.of G')); (try simp only [List.cons_append, List.nil_append, List.map_cons, List.map_nil] at N' O'); (obtain ⟨x', er'⟩ := IsD.isRef D'); subst er'; (try clear O'); (try dsimp only); (try k_fold)))
local macro_rules | `(tactic| walk_at "call ref") => `(tactic| (k_here; (with_reducible show wpAny _ _ (call (Value.ref 185) _) _ _ _); k_dflt ((refine' Fn.useM (M := []) ?N ?hs (decOf_ok (sub_on ?hs) ?h1) ?B ?F ?X ?T ?kK ?kd ?ku ?O ?_); (case N => k_asm); (case hs => with_reducible assumption); kaf_suf; (case h1 => kwd_rel); rintro r' l' z' h' tk' F' N' G' hz' hl' O' D'; (have hG' := Grow.of G')); (try simp only [List.cons_append, List.nil_append, List.map_cons, List.map_nil] at N' O'); (obtain ⟨x', er'⟩ := IsD.isRef D'); subst er'; (try clear O'); (try dsimp only); (try k_fold)))
local macro_rules | `(tactic| walk_at "exec For Tuple Name cons nil") => `(tactic| (k_here; refine Stop.out ?_; walk_say "STOP FOR"))
theorem width_ok {w : World} {mean : ExcName → Option Value} {mg mb : Str → Option Value} {l z : Led} {f : Value} {p : Addr} {o : Int} {t1 t2 : Tok} (hs : ∀ p ∈ z, p ∈ l) (hf : IsFont z f)
    (hp : (p, tup2 (.int 1 t1) (.int o t2)) ∈ l) (h1 : 0 ≤ o) (h2 : o < 256) :
    Fn w mean mg mb 743 16 [f, .ref p] l (fun r l' => ∃ z', Ex l z l' z' ∧ IsD z' r 6) := by
  unfold Fn
  k_fill
  intro dp un gd cn cs aa ccd cl outer A₀ base h₀ L m s Q E B F X N T hk hdd hu hret
  cases hf with
  | mk hx hdf hn hsz ha hr ht hu =>
  rename_i td
  have h500 : IsNum z (.int 500 td) 3 := .int (by decide)
  kqd_sub
  refine Stop.in ?_
  refine For_nil (by k_asm) (fun _ _ _ _ _ a b => go_tuple a b) ?_
  k_steps
  refine ⟨_, _, _, _, rfl, rfl, by k_asm, by k_asm, by k_mem, ?_⟩
  intro h' tk' F' N'
  k_steps
  refine' hret _ _ _ _ ?eF ?eN ⟨_, ?eX, ?eD⟩
  case eF => with_reducible assumption
  case eN => with_reducible assumption
  case eX => ktu_off1L
  case eD => kwd_rel
end
local macro_rules | `(tactic| walk_at "pad") => `(tactic| skip)
local macro_rules | `(tactic| walk_at "pad") => `(tactic| skip)
local macro_rules | `(tactic| walk_at "pad") => `(tactic| skip)
local macro_rules | `(tactic| walk_at "pad") => `(tactic| skip)
section
local macro_rules | `(tactic| walk_at "call ref") => `(tactic| (k_here; (with_reducible show wpAny _ _ (call (Value.ref _) _) _ _ _); (refine Stop.out ?_; walk_say "STOP")))
local macro_rules | `(tactic| walk_at "eval ListComp") => `(tactic| (k_here; refine Stop.out ?_; walk_say "STOP COMP"))
theorem codes_ok {w : World} {mean : ExcName → Option Value} {mg mb : Str → Option Value} {l z : Led} {f : Value} {b : Array UInt8} {t : Tok} (hs : ∀ p ∈ z, p ∈ l) (hf : IsFont z f) (hb : b.size ≤ 2) :
    Fn w mean mg mb 736 8 [f, .bytes b t] l (fun r l' => ∃ z', Ex l z l' z' ∧ IsCodes z' r b.size) := by
  unfold Fn
  k_fill
  intro dp un gd cn cs aa ccd cl outer A₀ base h₀ L m s Q E B F X N T hk hdd hu hret
  cases hf with
  | mk hx hdf hn hsz ha hr ht hu =>
  kqd_sub
  refine Stop.in ?_
  rename Fr _ _ _ _ => lF
  refine ListComp_B (by k_asm) (by rfl) (by decide) (by rfl) (by decide) (by rfl) ?_
  k_steps
  refine ⟨b, _, _, rfl, rfl, by k_asm, by k_asm, Nat.le_trans hb (by rw [sizeLine_eq]; decide), fun g => ?_⟩
  refine comp_ind (fun i ys news => ys.length = i ∧ ∃ z', Ex l z news z' ∧ ∀ y ∈ ys, CodeAt z' y) ⟨rfl, z, Ex.refl, fun _ h => nomatch h⟩ ?_ ?_
  · rintro i ys news ⟨hl, z', G, hy⟩ hi v I oI C oC D m₂ h tk E' ⟨c, u, hc, rfl⟩ hC hx F N off ne
    k_steps
    rename_i D2 h2 F2 N2 l2
    refine compEnd_new F2 N2 l2 off trivial fun l3 => ⟨by simp [hl], _, Ex.one G l3, ?_⟩
    intro y hy'
    rcases List.mem_append.mp hy' with hy' | hy'
    · exact (hy y hy').mono mem_sub1
    · rw [List.mem_singleton.mp hy']
      exact ⟨_, _, _, _, rfl, .head _, Int.natCast_nonneg _, by have := c.toNat_lt; omega⟩
  · rintro ys news ⟨hl, z', G, hy⟩ D h tk F' N' o1
    (try dsimp only); (try k_fold)
    k_steps
    exact hret _ _ _ _ (by with_reducible assumption) (by k_asm) ⟨_, Ex.off G (off1_mem o1), D, ys, _, rfl, .head _, hl, fun y hy' => (hy y hy').mono mem_sub1⟩
end
local macro_rules | `(tactic| walk_at "pad") => `(tactic| skip)
local macro_rules | `(tactic| walk_at "pad") => `(tactic| skip)
local macro_rules | `(tactic| walk_at "pad") => `(tactic| skip)

/-- strs, none of them empty -/
def NE (n : Nat) (vs : List Value) : Prop := ∃ ys, StrsAre vs ys ∧ (∀ y ∈ ys, y ≠ Str.ofString "") ∧ vs.length ≤ n
/-- a list of such strs -/
def IsNE (z : Led) (r : Value) : Prop := ∃ (d : Addr) (ys : List Value) (e : Nat), r = .ref d ∧ (d, W.listOf ys.toArray e) ∈ z ∧ NE 400 ys
theorem IsNE.get {z : Led} {r : Value} (h : IsNE z r) : ∃ (d : Addr) (ys : List Value) (e : Nat), r = .ref d ∧ (d, W.listOf ys.toArray e) ∈ z ∧ NE 400 ys := h
theorem StrsAre.len : ∀ {vs : List Value} {ys : List Str}, StrsAre vs ys → vs.length = ys.length
  | _, _, .nil => rfl
  | _, _, .cons _ _ h => congrArg (· + 1) (StrsAre.len h)
theorem StrsAre.app : ∀ {vs ws : List Value} {ys zs : List Str}, StrsAre vs ys → StrsAre ws zs → StrsAre (vs ++ ws) (ys ++ zs)
  | _, _, _, _, .nil, h => h
  | _, _, _, _, .cons y t g, h => .cons y t (StrsAre.app g h)
theorem NE.app {n m : Nat} {vs ws : List Value} (h : NE n vs) (g : NE m ws) : NE (n + m) (vs ++ ws) := by
  obtain ⟨ys, a, b, c⟩ := h
  obtain ⟨zs, a', b', c'⟩ := g
  exact ⟨ys ++ zs, StrsAre.app a a', fun y hy => (List.mem_append.mp hy).elim (b y) (b' y), by rw [List.length_append]; omega⟩
theorem NE.of {vs : List Value} {n : Nat} {x : List Str} (a : StrsAre vs x) (h : (x.all (· != Str.ofString "") && decide (x.length ≤ n)) = true) : NE n vs := by
  rw [Bool.and_eq_true, decide_eq_true_eq] at h
  refine ⟨x, a, fun y hy => ?_, ?_⟩
  · have := List.all_eq_true.mp h.1 y hy
    intro q
    subst q
    exact absurd this (by decide)
  · rw [StrsAre.len a]; exact h.2
theorem NE.more {vs : List Value} {n k : Nat} (h : NE n vs) (e : n ≤ k) : NE k vs := by
  obtain ⟨ys, a, b, c⟩ := h
  exact ⟨ys, a, b, Nat.le_trans c e⟩
theorem end_one {h₀ h : Heap} {L D : Addr} {o : Obj} {all l z : Led} (N : News h₀ L h ((D, o) :: all)) (lt : ∀ p ∈ all, p.1 < D) (sub : ∀ p ∈ l, p ∈ all) : News h₀ L h ((D, o) :: l) ∧ Ex l z ((D, o) :: l) ((D, o) :: z) :=
  ⟨News.sub N fun p hp => (List.mem_cons.mp hp).elim (fun q => q ▸ .head _) fun q => .tail _ (sub p q), Ex.one Ex.refl fun p hp => lt p (sub p hp)⟩
theorem lookup_in {p : List Nat → Bool} : ∀ (l : List (Nat × List Nat)) (c : Nat) (cs : List Nat), l.all (fun q => p q.2) = true → l.lookup c = some cs → p cs = true := StrLaws.lookup_all
theorem lowerOf_ge1 (c : Nat) : 1 ≤ (Unicode.lowerOf c).length := by
  unfold Unicode.lowerOf Unicode.image
  split
  · rename_i cs hl
    exact of_decide_eq_true (StrLaws.lookup_all (p := fun l => decide (1 ≤ l.length)) _ c cs (by decide) hl)
  · simp
theorem lowerAt_ge1 (s : Array Nat) (i : Nat) (h : i < s.size) : 1 ≤ (Unicode.lowerAt s i).length := by
  unfold Unicode.lowerAt
  split
  · rename_i q
    rw [Array.getElem?_eq_getElem h] at q
    cases q
  · split
    · simp
    · exact lowerOf_ge1 _
theorem foldl_ge1 : ∀ (l : List (Array Nat)) (acc : Array Nat), (∀ a ∈ l, 1 ≤ a.size) → acc.size + l.length ≤ (l.foldl (fun acc xs => acc ++ xs) acc).size
  | [], acc, _ => by simp
  | a :: r, acc, h => by
    have h1 := foldl_ge1 r (acc ++ a) (fun b hb => h b (List.mem_cons_of_mem _ hb))
    have h2 := h a (List.mem_cons_self ..)
    rw [Array.size_append] at h1
    simp only [List.foldl_cons, List.length_cons]
    omega
theorem flatten_ge1 (xs : Array (Array Nat)) (h : ∀ a ∈ xs, 1 ≤ a.size) : xs.size ≤ xs.flatten.size := by
  have key := foldl_ge1 xs.toList #[] (fun a ha => h a (by simpa using ha))
  have e : xs.flatten = xs.toList.foldl (fun acc xs => acc ++ xs) #[] := by
    first
      | (unfold Array.flatten; rw [← Array.foldl_toList]; rfl)
      | (unfold Array.flatten; simp [Array.foldl_toList])
      | simp [Array.flatten, ← Array.foldl_toList]
  rw [e]
  simpa using key
theorem lower_ne {x : Str} (h : x ≠ Str.ofString "") : Txt.lower x ≠ Str.ofString "" := by
  intro q
  have h1 : x.cps.size ≤ (Txt.lower x).cps.size := by
    have key := flatten_ge1 (x.cps.mapIdx fun i _ => (Unicode.lowerAt x.cps i).toArray) (fun a ha => by
      obtain ⟨i, hi, rfl⟩ := Array.mem_iff_getElem.mp ha
      rw [Array.size_mapIdx] at hi
      simpa using lowerAt_ge1 _ _ hi)
    rw [Array.size_mapIdx] at key
    exact key
  rw [q, show (Str.ofString "").cps.size = 0 from by decide +kernel] at h1
  refine h ?_
  obtain ⟨c⟩ := x
  have : c = #[] := Array.eq_empty_of_size_eq_zero (Nat.le_zero.mp h1)
  subst this
  decide +kernel
def goodWords : Nat → List Str → Bool
  | 0, [] => true
  | n + 1, y :: r => (y != Str.ofString "" && decide (y.length ≤ 100)) && goodWords n r
  | _, _ => false
theorem goodWords_spec : ∀ {n : Nat} {W : List Str}, goodWords n W = true → W.length = n ∧ ∀ y ∈ W, y ≠ Str.ofString "" ∧ y.length ≤ 100
  | 0, [], _ => ⟨rfl, fun _ h => nomatch h⟩
  | n + 1, y :: r, h => by
    unfold goodWords at h
    rw [Bool.and_eq_true, Bool.and_eq_true, decide_eq_true_eq, bne_iff_ne] at h
    obtain ⟨a, b⟩ := goodWords_spec h.2
    refine ⟨congrArg (· + 1) a, fun x hx => ?_⟩
    rcases List.mem_cons.mp hx with rfl | hx
    · exact h.1
    · exact b x hx
  | 0, _ :: _, h => by cases h
  | _ + 1, [], h => by cases h
theorem latin_words : goodWords 63 (Txt.words (Str.ofString "exclamdown cent sterling currency yen brokenbar section dieresis copyright ordfeminine guillemotleft logicalnot hyphen registered macron degree plusminus twosuperior threesuperior acute mu paragraph periodcentered cedilla onesuperior ordmasculine guillemotright onequarter onehalf threequarters questiondown Agrave Aacute Acircumflex Atilde Adieresis Aring AE Ccedilla Egrave Eacute Ecircumflex Edieresis Igrave Iacute Icircumflex Idieresis Eth Ntilde Ograve Oacute Ocircumflex Otilde Odieresis multiply Oslash Ugrave Uacute Ucircumflex Udieresis Yacute Thorn germandbls")) = true := by decide +kernel
theorem latin_slice {l : List (Str × Tok)} {W : List Str} (e : l.map (·.1) = W) (a : StrsAre (strValues l) (l.map (·.1))) (hW : W.length = 63) : ∃ sl : List Value, slicePick (strValues l).toArray (some 31) (some 62) none = sl.toArray ∧ StrsAre sl ((W.drop 31).take 31) := by
  refine ⟨_, kmk_pick_nat (a := 31) (b := 62) _ ?_, ?_⟩
  · rw [List.size_toArray, StrsAre.len a, e, hW]; rfl
  · rw [← e]
    exact StrsAre.take' (StrsAre.drop' a 31) 31
open LCg in
theorem comp_read {prog : Program} {w : World} {A : Around} {h₀ : Heap} {L : Addr} {m : Str → Option Value} {env : Env} {elt : Expr} {x : Str} {scope : Scope} {cl : List (Str × Addr)} {s : Shared} {S : Led → Prop} {P : Nat → Value → Prop} {Fin : List Value → Led → Prop} {n : Nat} {news : Led}
    (J : Nat → List Value → Prop) (h0 : J 0 [])
    (step : ∀ i ys, J i ys → i < n → ∀ v I oI C oC D m₂ h tk (E' : Value → Shared → Prop), P i v → NsObj oC m₂ → m₂ x = some v → Fr h₀ L h m → News h₀ L h ((I, oI) :: (C, oC) :: (D, lst ys) :: news) → Off3 I C D news → ((@Ne Nat I C) ∧ (@Ne Nat I D) ∧ (@Ne Nat C D)) →
      wpAny (model prog w) A (eval elt (compEnvC scope cl C env)) (CompEnd h₀ L m { s with heap := h, toks := tk } I oI C oC D (lst ys) S (fun y news' => news' = news ∧ J (i + 1) (ys ++ [y]))) E' { s with heap := h, toks := tk })
    (fin : ∀ ys, J n ys → Fin ys news) : CompRest prog w A h₀ L m env elt x scope cl s S P Fin n 0 [] news :=
  comp_ind (fun i ys nw => nw = news ∧ J i ys) ⟨rfl, h0⟩ (fun i ys nw ⟨e, j⟩ => by subst e; exact step i ys j) (fun ys nw ⟨e, j⟩ => by subst e; exact fin ys j)
theorem compEnd_keep {h₀ : Heap} {L : Addr} {m : Str → Option Value} {I C D : Addr} {oI oC oD : Obj} {S : Led → Prop} {J : Value → Led → Prop} {y : Value} {h2 : Heap} {tk : Nat} {news : Led} {s₁ : Shared}
    (F2 : Fr h₀ L h2 m) (N2 : News h₀ L h2 ((I, oI) :: (C, oC) :: (D, oD) :: news)) (off : LCg.Off3 I C D news) (hS : S news) (hJ : J y news) : LCg.CompEnd h₀ L m s₁ I oI C oC D oD S J y { s₁ with heap := h2, toks := tk } :=
  LCg.CompEnd.intro F2 N2 news (fun _ h => h) off hS hJ
theorem NE.words {l : List (Str × Tok)} {n : Nat} {x : List Str} (e : l.map (·.1) = x) (a : StrsAre (strValues l) (l.map (·.1))) (h : (x.all (· != Str.ofString "") && decide (x.length ≤ n)) = true) : NE n (strValues l) := by
  rw [Bool.and_eq_true, decide_eq_true_eq] at h
  refine ⟨x, e ▸ a, fun y hy => ?_, ?_⟩
  · have := List.all_eq_true.mp h.1 y hy
    intro q
    subst q
    exact absurd this (by decide)
  · rw [StrsAre.len a, e]; exact h.2
theorem add_ne {prog : Program} {w : World} {A : Around} {E : Value → Shared → Prop} {s : Shared} {h₀ : Heap} {L a b : Addr} {m : Str → Option Value} {news : Led} {vs ws : List Value} {k k2 n n2 : Nat} {Q : Value → Shared → Prop} (F : Fr h₀ L s.heap m) (N : News h₀ L s.heap news)
    (ha : (a, W.listOf vs.toArray k) ∈ news) (hb : (b, W.listOf ws.toArray k2) ∈ news) (hv : NE n vs) (hw : NE n2 ws) (hn : n ≤ 1000) (hn2 : n2 ≤ 1000)
    (h : ∀ D us h', Fr h₀ L h' m → News h₀ L h' ((D, W.listOf (List.toArray us) 0) :: news) → (∀ p ∈ news, p.1 < D) → NE (n + n2) us → Q (.ref D) { s with heap := h' }) :
    wpAny (model prog w) A (binaryOp .Add (.ref a) (.ref b)) Q E s := by
  have c1 := hv
  have c2 := hw
  obtain ⟨_, _, _, l1⟩ := c1
  obtain ⟨_, _, _, l2⟩ := c2
  refine add_lists F N (News.isList N ha) (News.isList N hb) (fun h' F' N' => h _ _ h' F' N' (fun p hp => Heap.lt_size (N p hp).1) (hv.app hw)) (by rw [sizeLine_eq]; omega)
theorem strs_set {x : Str} {u : Tok} : ∀ {vs : List Value} {ns : List Str}, StrsAre vs ns → ∀ j : Nat, StrsAre (vs.set j (.str x u)) (ns.set j x)
  | _, _, .nil, _ => .nil
  | _, _, .cons _ _ h, 0 => .cons x u h
  | _, _, .cons i t h, j + 1 => .cons i t (strs_set h j)
theorem set_ne {prog : Program} {w : World} {A : Around} {E : Value → Shared → Prop} {s : Shared} {h₀ : Heap} {L D : Addr} {m : Str → Option Value} {news news' : Led} {vs : List Value} {k : Int} {n c : Nat} {x : Str} {t u : Tok} {Q : Unit → Shared → Prop} (F : Fr h₀ L s.heap m) (N : News h₀ L s.heap news)
    (U : Upd D (W.listOf vs.toArray c) (W.listOf (vs.set k.toNat (.str x u)).toArray c) news news') (hv : NE n vs) (h0 : 0 ≤ k) (h1 : k < vs.length) (hfit : k < 2 ^ 63) (hx : x ≠ Str.ofString "")
    (h : ∀ h', Fr h₀ L h' m → News h₀ L h' news' → NE n (vs.set k.toNat (.str x u)) → (vs.set k.toNat (.str x u)).length = vs.length → Q () { s with heap := h' }) :
    wpAny (model prog w) A (setItem (.ref D) (.int k t) (.str x u)) Q E s := by
  obtain ⟨pre, post, rfl, rfl, a, b⟩ := U.split
  have z := N (D, W.listOf vs.toArray c) (List.mem_append.mpr (.inr (.head _)))
  have hs : vs.toArray.size = vs.length := List.size_toArray ..
  have hj : k.toNat < vs.length := by omega
  obtain ⟨ys, q1, q2, q3⟩ := hv
  refine ki_setAt z.1 h0 hfit (by omega) (h _ (F.change (Heap.SameBut.update ..) z.2.1 z.2.2) (ki_turn _ N a b ?_ ?_) ⟨_, strs_set q1 _, fun y hy => ?_, by rw [List.length_set]; exact q3⟩ (List.length_set ..))
  · show vs.toArray.setIfInBounds k.toNat (.str x u) = (vs.set k.toNat (.str x u)).toArray
    apply Array.toList_inj.mp
    simp
  · simp
  · rcases List.mem_or_eq_of_mem_set hy with hy | rfl
    · exact q2 y hy
    · exact hx
theorem in_ne {prog : Program} {w : World} {A : Around} {E : Value → Shared → Prop} {s : Shared} {h₀ : Heap} {L a : Addr} {news : Led} {vs : List Value} {k n : Nat} {t : Tok} {Q : Value → Shared → Prop} (N : News h₀ L s.heap news)
    (ha : (a, W.listOf vs.toArray k) ∈ news) (hv : NE n vs) (h : Q (.bool false) s) : wpAny (model prog w) A (compareOp .In (.str (Str.ofString "") t) (.ref a)) Q E s := by
  obtain ⟨ys, a', b, _⟩ := hv
  refine in_list_strs (News.isList N ha) a' ?_
  rw [show (ys.any (· == Str.ofString "")) = false from ?_]
  · exact h
  · rw [List.any_eq_false]
    intro y hy q
    exact b y hy (by simpa using q)
theorem ne_of_size {y : Str} {n : Nat} (h : y.cps.size = n + 1) : y ≠ Str.ofString "" := fun q => by
  rw [q, show (Str.ofString "").cps.size = 0 from by decide +kernel] at h
  exact absurd h.symm (Nat.succ_ne_zero n)
theorem ne_snoc {zs : List Str} {y : Str} (h : ∀ y ∈ zs, y ≠ Str.ofString "") (hy : y ≠ Str.ofString "") : ∀ x ∈ zs ++ [y], x ≠ Str.ofString "" := fun x hx => (List.mem_append.mp hx).elim (h x) fun q => by rw [List.mem_singleton.mp q]; exact hy
local macro_rules | `(tactic| keq_rows) => `(tactic| (intro p9 hp9; repeat (first | exact hp9 | refine List.mem_cons_of_mem _ ?_)))
local macro_rules | `(tactic| kqd_in) => `(tactic| (first | with_reducible assumption | exact NE.words (n := 100) (by with_reducible assumption) (by with_reducible assumption) (by decide +kernel) | exact NE.of (n := 100) (by with_reducible assumption) (by decide +kernel) | exact NE.of (n := 100) (.cons _ _ .nil) (by decide +kernel) | fail "N ne"))
local macro_rules | `(tactic| walk_at "binaryOp Add ref ref") => `(tactic| (k_here; (with_reducible show wpAny _ _ (binaryOp _ (Value.ref _) (Value.ref _)) _ _ _); k_dflt (refine' add_ne ?F ?N ?a ?b ?v ?w ?n ?n2 ?_; (case F => k_asm); (case N => k_asm); (case a => k_mem); (case b => k_mem); (case v => kqd_in); (case w => kqd_in); (case n => decide); (case n2 => decide); k_whole); intro D' u' h' F' N' l1 hne'; (try dsimp only)))
section
local macro_rules | `(tactic| walk_at "exec Assign cons ListComp") => `(tactic| (k_here; refine Stop.out ?_; walk_say "STOP COMP"))
local macro_rules | `(tactic| walk_at "CompSrc") => `(tactic| (k_here; refine Stop.out ?_; walk_say "STOP SRC"))
theorem ascii_ok {w : World} {mean : ExcName → Option Value} {mg mb : Str → Option Value} {l z : Led} (hs : ∀ p ∈ z, p ∈ l)  :
    Fn w mean mg mb 660 12 [] l (fun r l' => ∃ z', Ex l z l' z' ∧ IsNE z' r) := by
  unfold Fn
  k_fill
  intro dp un gd cn cs aa ccd cl outer A₀ base h₀ L m s Q E B F X N T hk hdd hu hret
  kqd_sub
  refine Stop.in ?_
  refine LCg.Assign_ListComp_U (by k_asm) rfl (by rfl) (by rfl) (by decide) (by rfl) (by decide) (by rfl) (by rfl) (by rfl) ?_
  k_steps
  refine Stop.in ?_
  refine LCg.CompSrc.range (n := 26) rfl (by k_asm) (by k_asm) (by assumption) (by rfl) (by rfl) (by decide) fun g => ?_
  refine comp_ind (fun i ys news => news = l ∧ ys.length = i ∧ ∃ zs, StrsAre ys zs ∧ ∀ y ∈ zs, y ≠ Str.ofString "") ⟨rfl, rfl, [], .nil, fun _ h => nomatch h⟩ ?_ ?_
  · rintro i ys news ⟨hnews, hl, zs, hz, hne⟩ hi v I oI C oC D m₂ h tk E' ⟨u, rfl⟩ hC hx F N off ne
    k_steps
    exact LCg.CompEnd.intro (by k_asm) (by k_asm) _ (fun _ h => h) off trivial ⟨hnews, by simp [hl], _, StrsAre.app hz (.cons _ _ .nil), ne_snoc hne (ne_of_size (n := 0) rfl)⟩
  rintro ys1 news ⟨hnews, hl1, zs1, hz1, hne1⟩ D1 h tk F' N' o1
  rw [hnews] at N' o1
  clear hnews
  (try dsimp only); (try k_fold)
  have hne1 : NE 26 ys1 := ⟨zs1, hz1, hne1, Nat.le_of_eq hl1⟩
  k_steps
  refine Stop.in ?_
  refine LCg.Assign_ListComp_U (by k_asm) rfl (by rfl) (by rfl) (by decide) (by rfl) (by decide) (by rfl) (by rfl) (by rfl) ?_
  k_steps
  refine Stop.in ?_
  refine LCg.CompSrc.range (n := 26) rfl (by k_asm) (by k_asm) (by assumption) (by rfl) (by rfl) (by decide) fun g => ?_
  refine comp_ind (fun i ys news => news = (D1, LCg.lst ys1) :: l ∧ ys.length = i ∧ ∃ zs, StrsAre ys zs ∧ ∀ y ∈ zs, y ≠ Str.ofString "") ⟨rfl, rfl, [], .nil, fun _ h => nomatch h⟩ ?_ ?_
  · rintro i ys news ⟨hnews, hl, zs, hz, hne⟩ hi v I oI C oC D m₂ h tk E' ⟨u, rfl⟩ hC hx F N off ne
    k_steps
    exact LCg.CompEnd.intro (by k_asm) (by k_asm) _ (fun _ h => h) off trivial ⟨hnews, by simp [hl], _, StrsAre.app hz (.cons _ _ .nil), ne_snoc hne (ne_of_size (n := 0) rfl)⟩
  rintro ys2 news ⟨hnews, hl2, zs2, hz2, hne2⟩ D2 h tk F' N' o1
  rw [hnews] at N' o1
  clear hnews
  (try dsimp only); (try k_fold)
  have hne2 : NE 26 ys2 := ⟨zs2, hz2, hne2, Nat.le_of_eq hl2⟩
  k_steps
  obtain ⟨N₂, G₂⟩ := end_one (z := z) (l := l) (by k_asm) (by with_reducible assumption) (by keq_rows)
  exact hret _ _ _ _ (by k_asm) N₂ ⟨_, G₂, _, _, _, rfl, .head _, NE.more (by with_reducible assumption) (by decide)⟩
local macro_rules | `(tactic| walk_at "setItem ref int") => `(tactic| (k_here; (with_reducible show wpAny _ _ (setItem (Value.ref _) (Value.int _ _) (Value.str _ _)) _ _ _); k_dflt (refine' set_ne ?F ?N ?U ?v ?h0 ?h1 ?h2 ?h3 ?_; (case F => k_asm); (case N => k_asm); (case U => exact Upd.head (off1_mem (by with_reducible assumption))); (case v => with_reducible assumption); (case h0 => decide); (case h1 => omega); (case h2 => decide); (case h3 => exact ne_of_size (n := 5) (by decide +kernel)); k_whole); intro h' F' N' hne' hl'; (try dsimp only at N')))
local macro_rules | `(tactic| walk_at "call builtin:str.lower") => `(tactic| (k_here; refine Stop.out ?_; walk_say "STOP LOWER"))
theorem latin_ok {w : World} {mean : ExcName → Option Value} {mg mb : Str → Option Value} {l z : Led} (hs : ∀ p ∈ z, p ∈ l)  :
    Fn w mean mg mb 665 12 [] l (fun r l' => ∃ z', Ex l z l' z' ∧ IsNE z' r) := by
  unfold Fn
  k_fill
  intro dp un gd cn cs aa ccd cl outer A₀ base h₀ L m s Q E B F X N T hk hdd hu hret
  kqd_sub
  refine Stop.in ?_
  refine LCg.Assign_ListComp_U (by k_asm) rfl (by rfl) (by rfl) (by decide) (by rfl) (by decide) (by rfl) (by rfl) (by rfl) ?_
  k_steps
  refine Stop.in ?_
  rename (List.map _ _ = Txt.words _) => eW
  rename (StrsAre _ _) => aW
  obtain ⟨hWl, hWg⟩ := goodWords_spec latin_words
  have hNE : NE 63 (strValues _) := ⟨_, eW ▸ aW, fun y hy => (hWg y hy).1, Nat.le_of_eq ((StrsAre.len (eW ▸ aW)).trans hWl)⟩
  obtain ⟨sl, esl, asl⟩ := latin_slice eW aW hWl
  rename News _ _ _ _ => lN
  rw [esl] at lN
  have hsl : sl.length = 31 := by rw [StrsAre.len asl, List.length_take, List.length_drop, hWl]; rfl
  refine LCg.CompSrc.ledger (its := sl.toArray) (k := 0) rfl (by k_asm) (by k_asm) (.head _) (by rw [List.size_toArray, hsl, sizeLine_eq]; decide) fun g => ?_
  refine comp_read (fun i ys => ys.length = i ∧ ∃ zs, StrsAre ys zs ∧ ∀ y ∈ zs, y ≠ Str.ofString "") ⟨rfl, [], .nil, fun _ h => nomatch h⟩ ?_ ?_
  · rintro i ys ⟨hl, zs, hz, hne⟩ hi v I oI C oC D m₂ h tk E' hv hC hx F N off ne
    obtain ⟨y, t, rfl, hy⟩ := StrsAre.item asl i v (by simpa using hv)
    have hy := hWg y (List.mem_of_mem_drop (List.mem_of_mem_take (List.mem_of_getElem? hy)))
    k_steps
    refine Stop.in ?_
    refine SCL.lower (by omega) fun _ => ?_
    refine compEnd_keep F N off (.inr ⟨_, .head _, rfl, _, rfl⟩) ⟨rfl, by simp [hl], _, StrsAre.app hz (.cons _ _ .nil), ne_snoc hne (lower_ne hy.1)⟩
  rintro ys ⟨hl, zs, hz, hne⟩ D h tk F' N' o1
  (try dsimp only); (try k_fold)
  have hne2 : NE 40 ys := ⟨zs, hz, hne, by rw [hl, List.size_toArray, hsl]; decide⟩
  have hl2 : ys.length = 31 := by rw [hl, List.size_toArray, hsl]
  k_steps
  obtain ⟨N₂, G₂⟩ := end_one (z := z) (l := l) (by k_asm) (by with_reducible assumption) (by keq_rows)
  exact hret _ _ _ _ (by k_asm) N₂ ⟨_, G₂, _, _, _, rfl, .head _, NE.more (by with_reducible assumption) (by decide)⟩
end
local macro_rules | `(tactic| walk_at "pad") => `(tactic| skip)
local macro_rules | `(tactic| walk_at "pad") => `(tactic| skip)
local macro_rules | `(tactic| walk_at "pad") => `(tactic| skip)
local macro_rules | `(tactic| walk_at "pad") => `(tactic| skip)
local macro_rules | `(tactic| walk_at "pad") => `(tactic| skip)

theorem News.tl {h₀ h : Heap} {L : Addr} {q : Addr × Obj} {l : Led} (N : News h₀ L h (q :: l)) : News h₀ L h l := fun p hp => N p (.tail _ hp)
theorem off_cell {l : Led} {L : Addr} (h : ∀ p ∈ l, p.1 < L) : Off [L + 1] l := Off.one fun p hp => Nat.ne_of_lt (Nat.lt_succ_of_lt (h p hp))
local macro_rules | `(tactic| krn_off) => `(tactic| (refine wpAny_call ?_; k_dflt (refine' code_defC ?k1 ?k2 ?k3 ?k4 ?k5 ?kA ?kF ?kK ?k6 ?k7 ?k8 ?k9 ?kB ?kD ?_ ?c2 ?c3 ?c4; (case kA => exact rfl); (case kF => exact rfl); (case kK => assumption); (case k1 => k_asm); (case k2 => k_asm); (case k3 => k_asm); (case k4 => k_asm); (case k5 => k_asm); (case k6 => k_is); (case k7 => k_is); (case k8 => ktr_room); (case k9 => exact BindsTo.of_eq rfl); (case kB => exact rfl); (case kD => decide +kernel); (case c2 => exact rfl); (case c3 => exact rfl); (case c4 => exact rfl); k_whole; intro g' L' h' tk' cells' FG' F' N' Y' B' X' T' l1; (have o' := off_cell l1); (try k_lt l1); k_cells Y'; (try simp only [List.cons_append, List.nil_append] at N'); (try dsimp only); (try k_fold)); k_steps))
theorem off3_off {I C D : Addr} : ∀ {l : Led}, LCg.Off3 I C D l → Off [I, C, D] l
  | [], _ => fun _ hp => nomatch hp
  | q :: l, ⟨⟨a, b, c⟩, r⟩ => by
    intro p hp
    rcases List.mem_cons.mp hp with rfl | hp
    · intro h
      simp only [List.mem_cons, List.not_mem_nil, or_false] at h
      rcases h with h | h | h
      · exact a h
      · exact b h
      · exact c h
    · exact off3_off r p hp
theorem off_off3 {I C D : Addr} : ∀ {l : Led}, Off [I, C, D] l → LCg.Off3 I C D l
  | [], _ => trivial
  | q :: l, o => ⟨⟨fun e => o q (.head _) (e ▸ .head _), fun e => o q (.head _) (e ▸ .tail _ (.head _)), fun e => o q (.head _) (e ▸ .tail _ (.tail _ (.head _)))⟩, off_off3 fun p hp => o p (.tail _ hp)⟩
def GrowEnd (h₀ : Heap) (L : Addr) (m : Str → Option Value) (s : Shared) (I : Addr) (oI : Obj) (C : Addr) (oC : Obj) (D : Addr) (oD : Obj) (S : Led → Prop) (J : Value → Led → Prop) (l' z' : Led) (y : Value) (s₃ : Shared) : Prop :=
  ∃ h' tk' l'' z'', s₃ = { s with heap := h', toks := tk' } ∧ Fr h₀ L h' m ∧ News h₀ L h' ((I, oI) :: (C, oC) :: (D, oD) :: l'') ∧ Off [I, C, D] l'' ∧ S l'' ∧ Ex l' z' l'' z'' ∧ J y z''
theorem GrowEnd.intro {h₀ : Heap} {L : Addr} {m : Str → Option Value} {s : Shared} {I : Addr} {oI : Obj} {C : Addr} {oC : Obj} {D : Addr} {oD : Obj} {S : Led → Prop} {J : Value → Led → Prop} {l' z' l'' z'' : Led} {y : Value} {h' : Heap} {tk' : Nat}
    (F : Fr h₀ L h' m) (N : News h₀ L h' ((I, oI) :: (C, oC) :: (D, oD) :: l'')) (O : Off [I, C, D] l'') (G : Ex l' z' l'' z'') (hS : S l'') (hJ : J y z'') : GrowEnd h₀ L m s I oI C oC D oD S J l' z' y { s with heap := h', toks := tk' } :=
  ⟨h', tk', l'', z'', rfl, F, N, O, hS, G, hJ⟩
open LCg in
/-- a comprehension whose elements grow the ledger -/
theorem comp_grow {prog : Program} {w : World} {A : Around} {h₀ : Heap} {L : Addr} {m : Str → Option Value} {env : Env} {elt : Expr} {x : Str} {scope : Scope} {cl : List (Str × Addr)} {s : Shared} {S : Led → Prop} {P : Nat → Value → Prop} {Fin : List Value → Led → Prop} {n : Nat} {news z : Led}
    (hs : ∀ p ∈ z, p ∈ news) (J : Nat → List Value → Led → Prop) (h0 : J 0 [] z)
    (step : ∀ i ys l' z', J i ys z' → Ex news z l' z' → (∀ p ∈ z, p ∈ z') → (∀ p ∈ z', p ∈ l') → Grow news l' → i < n → ∀ v I oI C oC D m₂ h tk (E' : Value → Shared → Prop), P i v → NsObj oC m₂ → m₂ x = some v → Fr h₀ L h m → News h₀ L h ((I, oI) :: (C, oC) :: (D, lst ys) :: l') → Off [I, C, D] l' → (@Ne Nat I C) → (@Ne Nat I D) → (@Ne Nat C D) →
      wpAny (model prog w) A (eval elt (compEnvC scope cl C env)) (GrowEnd h₀ L m s I oI C oC D (lst ys) S (fun y z'' => J (i + 1) (ys ++ [y]) z'') l' z') E' { s with heap := h, toks := tk })
    (fin : ∀ ys l' z', J n ys z' → Ex news z l' z' → (∀ p ∈ z, p ∈ z') → (∀ p ∈ z', p ∈ l') → Grow news l' → Fin ys l') : CompRest prog w A h₀ L m env elt x scope cl s S P Fin n 0 [] news :=
  comp_ind (fun i ys nw => ∃ z', Ex news z nw z' ∧ J i ys z') ⟨z, Ex.refl, h0⟩
    (fun i ys nw ⟨z', G, j⟩ hi v I oI C oC D m₂ h tk E' hP hN hx F N o ne => wpAny_mono (step i ys nw z' j G G.zz (G.zl hs) G.ll hi v I oI C oC D m₂ h tk E' hP hN hx F N (off3_off o) ne.1 ne.2.1 ne.2.2)
      (fun y s₃ ⟨h', tk', l'', z'', e, F', N', O', S', G', J'⟩ => by subst e; exact LCg.CompEnd.intro F' N' l'' (fun _ h => h) (off_off3 O') S' ⟨z'', G.trans G', J'⟩) fun _ _ e => e)
    (fun ys nw ⟨z', G, j⟩ => fin ys nw z' j G G.zz (G.zl hs) G.ll)
section
local macro_rules | `(tactic| walk_at "call ref") => `(tactic| (k_here; (with_reducible show wpAny _ _ (call (Value.ref _) _) _ _ _); (refine Stop.out ?_; walk_say "STOP")))
local macro_rules | `(tactic| walk_at "call ref") => `(tactic| (k_here; (with_reducible show wpAny _ _ (call (Value.ref 660) _) _ _ _); k_dflt ((refine' Fn.useM (M := []) ?N ?hs (ascii_ok (sub_on ?hs)) ?B ?F ?X ?T ?kK ?kd ?ku ?O ?_); (case N => k_asm); (case hs => with_reducible assumption); kaf_suf; skip; rintro r' l' z' h' tk' F' N' G' hz' hl' O' D'; (have hG' := Grow.of G')); (try simp only [List.cons_append, List.nil_append, List.map_cons, List.map_nil] at N' O'); (obtain ⟨d', ys', e', er', hd', hn'⟩ := IsNE.get D'); subst er'; (try clear O'); (try dsimp only); (try k_fold)))
local macro_rules | `(tactic| walk_at "call ref") => `(tactic| (k_here; (with_reducible show wpAny _ _ (call (Value.ref 665) _) _ _ _); k_dflt ((refine' Fn.useM (M := []) ?N ?hs (latin_ok (sub_on ?hs)) ?B ?F ?X ?T ?kK ?kd ?ku ?O ?_); (case N => k_asm); (case hs => with_reducible assumption); kaf_suf; skip; rintro r' l' z' h' tk' F' N' G' hz' hl' O' D'; (have hG' := Grow.of G')); (try simp only [List.cons_append, List.nil_append, List.map_cons, List.map_nil] at N' O'); (obtain ⟨d', ys', e', er', hd', hn'⟩ := IsNE.get D'); subst er'; (try clear O'); (try dsimp only); (try k_fold)))
local macro_rules | `(tactic| walk_at "compareOp In str ref") => `(tactic| (k_here; (with_reducible show wpAny _ _ (compareOp CmpOp.In (Value.str _ _) (Value.ref _)) _ _ _); k_dflt (refine' in_ne ?N ?a ?v ?_; (case N => k_asm); (case a => k_mem); (case v => with_reducible assumption))))
theorem known_ok {w : World} {mean : ExcName → Option Value} {mg mb : Str → Option Value} {l z : Led} {t : Tok} (hs : ∀ p ∈ z, p ∈ l) :
    Fn w mean mg mb 686 16 [.str (Str.ofString "") t] l (fun r l' => ∃ z', Ex l z l' z' ∧ ∃ t', r = .int (-1) t') := by
  unfold Fn
  k_fill
  intro dp un gd cn cs aa ccd cl outer A₀ base h₀ L m s Q E B F X N T hk hdd hu hret
  kqd_sub
  refine' hret _ _ _ _ ?eF ?eN ⟨_, ?eX, ?eD⟩
  case eF => with_reducible assumption
  case eN => with_reducible assumption
  case eX => ktu_off1L
  case eD => exact ⟨_, rfl⟩
end
local macro_rules | `(tactic| walk_at "pad") => `(tactic| skip)
local macro_rules | `(tactic| walk_at "pad") => `(tactic| skip)
local macro_rules | `(tactic| walk_at "pad") => `(tactic| skip)
local macro_rules | `(tactic| walk_at "pad") => `(tactic| skip)
local macro_rules | `(tactic| walk_at "pad") => `(tactic| skip)
section
local macro_rules | `(tactic| walk_at "call ref") => `(tactic| (k_here; (with_reducible show wpAny _ _ (call (Value.ref _) _) _ _ _); (refine Stop.out ?_; walk_say "STOP")))
local macro_rules | `(tactic| walk_at "call ref") => `(tactic| (k_here; (with_reducible show wpAny _ _ (call (Value.ref 686) _) _ _ _); k_dflt ((refine' Fn.useM (M := [_]) ?N ?hs (known_ok (sub_on ?hs)) ?B ?F ?X ?T ?kK ?kd ?ku ?O ?_); (case N => k_asm); (case hs => with_reducible assumption); kaf_suf; skip; rintro r' l' z' h' tk' F' N' G' hz' hl' O' D'; (have hG' := Grow.of G')); (try simp only [List.cons_append, List.nil_append, List.map_cons, List.map_nil] at N' O'); (obtain ⟨t', er'⟩ := D'); subst er'; (try dsimp only); (try k_fold)))
theorem part_ok {w : World} {mean : ExcName → Option Value} {mg mb : Str → Option Value} {l z : Led} {t : Tok} (hs : ∀ p ∈ z, p ∈ l) :
    Fn w mean mg mb 691 20 [.str (Str.ofString "") t] l (fun r l' => ∃ z', Ex l z l' z' ∧ ∃ t', r = .str (Str.ofString "") t') := by
  unfold Fn
  k_fill
  intro dp un gd cn cs aa ccd cl outer A₀ base h₀ L m s Q E B F X N T hk hdd hu hret
  krn_off
  have N₂ := News.tl (by k_asm)
  exact hret _ _ _ _ (by with_reducible assumption) N₂ ⟨_, (by ktu_off1L), _, rfl⟩
end
local macro_rules | `(tactic| walk_at "pad") => `(tactic| skip)
local macro_rules | `(tactic| walk_at "pad") => `(tactic| skip)
local macro_rules | `(tactic| walk_at "pad") => `(tactic| skip)
section
local macro_rules | `(tactic| walk_at "call ref") => `(tactic| (k_here; (with_reducible show wpAny _ _ (call (Value.ref _) _) _ _ _); (refine Stop.out ?_; walk_say "STOP")))
local macro_rules | `(tactic| walk_at "call ref") => `(tactic| (k_here; (with_reducible show wpAny _ _ (call (Value.ref 691) _) _ _ _); k_dflt ((refine' Fn.useM (M := [_, _, _]) ?N ?hs (part_ok (sub_on ?hs)) ?B ?F ?X ?T ?kK ?kd ?ku ?O ?_); (case N => k_asm); (case hs => with_reducible assumption); kaf_suf; skip; rintro r' l' z' h' tk' F' N' G' hz' hl' O' D'; (have hG' := Grow.of G')); (try simp only [List.cons_append, List.nil_append, List.map_cons, List.map_nil] at N' O'); (obtain ⟨t', er'⟩ := D'); subst er'; (try dsimp only); (try k_fold)))
local macro_rules | `(tactic| walk_at "exec Assign cons ListComp") => `(tactic| (k_here; refine Stop.out ?_; walk_say "STOP COMP"))
local macro_rules | `(tactic| walk_at "eval ListComp") => `(tactic| (k_here; refine Stop.out ?_; walk_say "STOP COMP"))
local macro_rules | `(tactic| walk_at "CompSrc") => `(tactic| (k_here; refine Stop.out ?_; walk_say "STOP SRC"))
theorem glyph_ok {w : World} {mean : ExcName → Option Value} {mg mb : Str → Option Value} {l z : Led} {t : Tok} (hs : ∀ p ∈ z, p ∈ l) :
    Fn w mean mg mb 696 24 [.str (Str.ofString "") t] l (fun r l' => ∃ z', Ex l z l' z' ∧ ∃ t', r = .str (Str.ofString "") t') := by
  unfold Fn
  k_fill
  intro dp un gd cn cs aa ccd cl outer A₀ base h₀ L m s Q E B F X N T hk hdd hu hret
  kqd_sub
  refine Stop.in ?_
  refine LCg.ListComp_U (by k_asm) (by rfl) (by decide) (by rfl) (by decide) (by rfl) ?_
  k_steps
  refine Stop.in ?_
  rename (∀ p ∈ l, p.1 < _) => l3
  refine LCg.CompSrc.ledger rfl (by k_asm) (by k_asm) (.head _) (by rw [sizeLine_eq]; exact Nat.le_of_ble_eq_true rfl) fun g => ?_
  refine comp_grow (z := z) (sub_cons (sub_cons hs)) (fun i ys z' => StrsAre ys (List.replicate i (Str.ofString ""))) .nil ?_ ?_
  · rintro i ys l' z' hz G hzz hzl hG hi v I oI C oC D m₂ h tk E' hv hC hx F N O n1 n2 n3
    obtain rfl : i = 0 := Nat.lt_one_iff.mp hi
    obtain rfl := Option.some.inj hv
    rw [show (⟨#[]⟩ : Str) = Str.ofString "" from by decide +kernel] at hx
    k_steps
    refine GrowEnd.intro (by k_asm) (by k_asm) (by assumption) (by ktu_off1L) (.inr ⟨_, by k_mem, rfl, _, rfl⟩) (StrsAre.app hz (.cons _ _ .nil))
  rintro ys l' z' hz G hzz hzl hG D h tk F' N' o1
  cases hz with
  | cons y t h9 =>
  cases h9
  (try dsimp only); (try k_fold)
  k_steps
  obtain ⟨l₁, N₁, G₁⟩ := Ex.drop (l := l) G (News.tl (by k_asm)) (by keq_rows)
  exact hret _ _ _ _ (by k_asm) N₁ ⟨_, G₁, _, by rw [show Txt.join (Str.ofString "") [Str.ofString ""] = Str.ofString "" from by decide +kernel]⟩
end
local macro_rules | `(tactic| walk_at "pad") => `(tactic| skip)
local macro_rules | `(tactic| walk_at "pad") => `(tactic| skip)
local macro_rules | `(tactic| walk_at "pad") => `(tactic| skip)
local macro_rules | `(tactic| walk_at "pad") => `(tactic| skip)
local macro_rules | `(tactic| walk_at "pad") => `(tactic| skip)
local macro_rules | `(tactic| walk_at "pad") => `(tactic| skip)

/-- a call that throws an own fault of class C (A07 on: the ledger's frozen part z is kept) -/
def Th (w : World) (mean : ExcName → Option Value) (mg mb : Str → Option Value) (f : Addr) (k : Nat) (vs : List Value) (news z : Led) (C : Addr) : Prop :=
  ∀ (dp un : Nat) (gd : Option (List Code)) (cn : Str) (cs : Scope) (a : Addr) (ccd : Value) (cl : List (Str × Addr)) (outer : List Env) (A₀ : Around) (base h₀ : Heap) (L : Addr) (m : Str → Option Value) (s : Shared) (Q E : Value → Shared → Prop),
    Below A₀ base outer h₀ → Fr h₀ L s.heap m → (hd.heap_39 w.params).In h₀ → News h₀ L s.heap news → Top hd.view_39 (looseW hd.view_39 [Str.ofString "PaperError", Str.ofString "OTHER_CODES"]) mean mg mb h₀ → cs.kind = .function → dp + k < recursionLimit → un + 8 * k < cLine →
    (∀ e t vs' g₂ h' tk', Fr h₀ L g₂ m → g₂.UpToSlots h' → RaisedS base g₂ (envX cn cs L a ccd cl :: outer) e (.ref C) t vs' z h' → E (.ref e) { s with heap := h', toks := tk' }) →
    wpAny (model PySem.Challenge.rw_og0194_01.row.prog w) (ktrTop dp un gd cn cs L a ccd cl outer) (call (.ref f) vs) Q E s
theorem Th.use {w : World} {mean : ExcName → Option Value} {mg mb : Str → Option Value} {f : Addr} {k : Nat} {vs : List Value} {news z : Led} {C : Addr} (T : Th w mean mg mb f k vs news z C)
    {dp un : Nat} {gd : Option (List Code)} {cn : Str} {cs : Scope} {a : Addr} {ccd : Value} {cl : List (Str × Addr)} {outer : List Env} {A₀ : Around} {base h₀ : Heap} {L : Addr} {m : Str → Option Value} {s : Shared} {Q E : Value → Shared → Prop}
    (B : Below A₀ base outer h₀) (F : Fr h₀ L s.heap m) (X : (hd.heap_39 w.params).In h₀) (N : News h₀ L s.heap news) (T' : Top hd.view_39 (looseW hd.view_39 [Str.ofString "PaperError", Str.ofString "OTHER_CODES"]) mean mg mb h₀) (hk : cs.kind = .function) (hd : dp + k < recursionLimit) (hu : un + 8 * k < cLine)
    (thr : ∀ e t vs' g₂ h' tk', Fr h₀ L g₂ m → g₂.UpToSlots h' → RaisedS base g₂ (envX cn cs L a ccd cl :: outer) e (.ref C) t vs' z h' → E (.ref e) { s with heap := h', toks := tk' }) :
    wpAny (model PySem.Challenge.rw_og0194_01.row.prog w) (ktrTop dp un gd cn cs L a ccd cl outer) (call (.ref f) vs) Q E s :=
  T _ _ _ _ _ _ _ _ _ _ _ _ _ _ _ _ _ B F X N T' hk hd hu thr
theorem RaisedS.sub {base G : Heap} {l : List Env} {e t : Addr} {cls : Value} {vs : List Value} {news news' : Led} {h : Heap} (R : RaisedS base G l e cls t vs news h) (s : ∀ p ∈ news', p ∈ news) : RaisedS base G l e cls t vs news' h := by
  obtain ⟨⟨B, hB, hBG, hl, hfl, hnew⟩, htup⟩ := R
  exact ⟨⟨B, hB, hBG, fun q hq => hl q (s q hq), hfl, hnew⟩, htup⟩
section
variable {M : Model} {A : Around} {E : Value → Shared → Prop} {s' : Shared} {base g : Heap} {outer : List Env} {L a e t C : Addr} {m : Str → Option Value} {name : Str} {scope : Scope} {cd : Value} {Q : Unit → Shared → Prop} {news : Led} {dd : Option Addr} {vs : List Value}
theorem leave_faultS (K : Below A base outer g) (F : Fr g L s'.heap m) (N : News g L s'.heap ((e, faultObj C t dd) :: (t, tupO vs) :: news)) (ne : ∀ p ∈ news, p.1 ≠ e) (nt : ∀ p ∈ news, p.1 ≠ t)
    (hQ : ∀ h', RaisedS base g outer e (.ref C) t vs news h' → g.UpToSlots h' → Q () { s' with heap := h' }) (hk : scope.kind = .function := by rfl) :
    wpAny M (A.deeper (envOf name scope L a cd)) (leaving (envOf name scope L a cd) (.ref e)) Q E s' := by
  have K' := K.push (name := name) (a := a) (cd := cd) F hk
  have hin : ∀ env ∈ (envOf name scope L a cd :: outer), ∀ b, env.frame = some b → b ∈ e :: t :: (envOf name scope L a cd :: outer).filterMap (·.frame) := fun env he b hb => .tail _ (.tail _ (List.mem_filterMap.mpr ⟨env, he, hb⟩))
  have He := N _ (.head _)
  have Ht := N _ (.tail _ (.head _))
  have Nn : News g L s'.heap news := fun p hp => N p (.tail _ (.tail _ hp))
  have nob : ∀ b, g.get? b = none → base.get? b = none := fun b hb => fresh_of_stays K.stays hb
  have st : base.StaysIn (hideAll s'.heap (e :: t :: (envOf name scope L a cd :: outer).filterMap (·.frame))) := fun b o q => hideAll_get _ (K'.stays b o q) fun hm => by
    rcases List.mem_cons.mp hm with rfl | hm
    · rw [nob _ He.2.2] at q; cases q
    · rcases List.mem_cons.mp hm with rfl | hm
      · rw [nob _ Ht.2.2] at q; cases q
      · rw [(K'.frames.mem hm).1] at q; cases q
  have sg : ∀ b o, g.get? b = some o → b ∉ outer.filterMap (·.frame) → (hideAll s'.heap (e :: t :: (envOf name scope L a cd :: outer).filterMap (·.frame))).get? b = some o := fun b o q nm => hideAll_get _ (F.keep b o q) fun hm => by
    rcases List.mem_cons.mp hm with rfl | hm
    · rw [He.2.2] at q; cases q
    · rcases List.mem_cons.mp hm with rfl | hm
      · rw [Ht.2.2] at q; cases q
      · rcases kts_mem hm with z | z
        · rw [z, kts_self F] at q; cases q
        · exact nm z
  have hl : ∀ q ∈ news, (hideAll s'.heap (e :: t :: (envOf name scope L a cd :: outer).filterMap (·.frame))).get? q.1 = some q.2 ∧ g.get? q.1 = none ∧ base.get? q.1 = none := fun q hq => by
    refine ⟨hideAll_get _ (Nn q hq).1 fun hm => ?_, (Nn q hq).2.2, nob _ (Nn q hq).2.2⟩
    rcases List.mem_cons.mp hm with z | hm
    · exact ne q hq z
    rcases List.mem_cons.mp hm with z | hm
    · exact nt q hq z
    obtain ⟨env, he, hf⟩ := List.mem_filterMap.mp hm
    rcases List.mem_cons.mp he with rfl | he
    · exact (Nn q hq).2.1 (Option.some.inj hf).symm
    · obtain ⟨o, ho, _⟩ := (K.frames.mem (List.mem_filterMap.mpr ⟨env, he, hf⟩)).2
      rw [(Nn q hq).2.2] at ho; cases ho
  refine wpAny_leaving_firstW (base := hideAll s'.heap (e :: t :: (envOf name scope L a cd :: outer).filterMap (·.frame))) (a0 := .ref t) K'.stack (funFrames_hide K'.frames hin) rfl He.1 (fun b o q => of_hideAll _ q) (hideAll_none _ (.head _)) rfl rfl rfl fun h' hL => ?_
  obtain ⟨k1, ⟨_, _, k2⟩, k3, k4⟩ := hL
  exact hQ h' ⟨⟨_, st, sg, hl, ⟨k1, hideAll_none _ (.head _), k2, k3⟩, hideAll_none _ (.tail _ (.head _))⟩, Heap.TupAt.of_slots ⟨_, _, Ht.1, rfl, rfl⟩ k4⟩ ((Heap.UpToSlots.of_keeps F.keep).trans k4)
end

local macro_rules | `(tactic| walk_at "exec Raise some none") => `(tactic| (k_here; refine Stop.out ?_; walk_say "STOP RAISE"))
local macro_rules | `(tactic| kqd_all) => `(tactic| (rintro r' l' h' tk' F' N' ⟨e', t', d', vs', dd', er', el', n1', n2', n3'⟩; subst er' el'; refine ⟨_, _, _, rfl, F'.keep, (N' _ (.head _)).1, ?_⟩; refine leave_faultS (by k_asm) F' (News.sub N' (fun p hp => (List.mem_cons.mp hp).elim (fun q => q ▸ .head _) fun hp => (List.mem_cons.mp hp).elim (fun q => q ▸ .tail _ (.tail _ (.head _))) fun hp => .tail _ (.tail _ (.tail _ hp)))) n1' n2' ?_))
section
local macro_rules | `(tactic| walk_at "call ref") => `(tactic| (k_here; (with_reducible show wpAny _ _ (call (Value.ref _) _) _ _ _); (refine Stop.out ?_; walk_say "STOP")))
theorem shown_raises {w : World} {mean : ExcName → Option Value} {mg mb : Str → Option Value} {l z : Led} {x ds : Addr} {hst0 hst1 hst2 hst3 : Int} {kst0 kst1 kst2 kst3 : Tok} {c s5 sp place oc : Value} (hs : ∀ p ∈ z, p ∈ l)
    (hx : (x, W.instObj 497 ds) ∈ l) (hds : (ds, W.dictOf [⟨hst0, .str (Str.ofString "ctm") kst0, c⟩, ⟨hst1, .str (Str.ofString "font") kst1, .none⟩, ⟨hst2, .str (Str.ofString "size") kst2, s5⟩, ⟨hst3, .str (Str.ofString "spacing") kst3, sp⟩] 4) ∈ l) :
    Th w mean mg mb 522 16 [.ref x, place, oc] l z 71 := by
  unfold Th
  k_fill
  intro dp un gd cn cs aa ccd cl outer A₀ base h₀ L m s Q E B F X N T hk hdd hu hthr
  kqd_sub
  refine Stop.in ?_
  refine raise_fault (C := 71) (by k_asm) (by k_asm) (topRead_of (by k_asm)) (by k_is) fault71 rfl ?_ (by rfl) (by rfl)
  k_steps
  refine' Fn.use (fault_ok fault71) ?B ?F ?X ?N ?T ?kK ?kd ?ku ?_
  kaf_pre
  kqd_all
  exact fun h2 R2 U2 => hthr _ _ _ _ _ _ (by with_reducible assumption) U2 (RaisedS.sub R2 hs)
end
local macro_rules | `(tactic| walk_at "pad") => `(tactic| skip)
local macro_rules | `(tactic| walk_at "pad") => `(tactic| skip)

theorem News.isArr {h₀ h : Heap} {L : Addr} {news : Led} {d : Addr} {arr : Array Value} {n : Nat} (N : News h₀ L h news) (hm : (d, W.listOf arr n) ∈ news) : h.IsList d arr := PySem.IsL.isList (n := n) (N _ hm).1
theorem item_arr {prog : Program} {w : World} {A : Around} {E : Value → Shared → Prop} {s : Shared} {value slice : PySem.Expr} {l : Addr} {arr : Array Value} {k : Int} {u : Tok} {v : Value} {Q : Value → Shared → Prop}
    (hl : s.heap.IsList l arr) (h0 : 0 ≤ k) (hhi : k < 2 ^ 63) (hx : arr[k.toNat]? = some v) (h : Q v s)
    (hs : subscripted slice false (.ref l) (.int k u) = operate [.ref l, .int k u] (getItem (.ref l) (.int k u)) := by with_unfolding_all rfl) :
    wpAny (model prog w) A (subscriptTail value slice (.ref l) (.int k u)) Q E s :=
  tail_any hl.typeIs slot_list_getitem.lookup (wpAny_getItem_list hl h0 hhi hx h) hs
section
local macro_rules | `(tactic| walk_at "call ref") => `(tactic| (k_here; (with_reducible show wpAny _ _ (call (Value.ref _) _) _ _ _); (refine Stop.out ?_; walk_say "STOP")))
local macro_rules | `(tactic| walk_at "call ref") => `(tactic| (k_here; (with_reducible show wpAny _ _ (call (Value.ref 696) _) _ _ _); k_dflt ((refine' Fn.useM (M := []) ?N ?hs (glyph_ok (sub_on ?hs)) ?B ?F ?X ?T ?kK ?kd ?ku ?O ?_); (case N => k_asm); (case hs => with_reducible assumption); kaf_suf; skip; rintro r' l' z' h' tk' F' N' G' hz' hl' O' D'; (have hG' := Grow.of G')); (try simp only [List.cons_append, List.nil_append, List.map_cons, List.map_nil] at N' O'); (obtain ⟨t', er'⟩ := D'); subst er'; (try clear O'); (try dsimp only); (try k_fold)))
local macro_rules | `(tactic| walk_at "last subscriptTail") => `(tactic| (k_here; refine Stop.out ?_; walk_say "STOP SUB"))
theorem text_ok {w : World} {mean : ExcName → Option Value} {mg mb : Str → Option Value} {l z : Led} {f : Value} {p : Addr} {o : Int} {t1 t2 : Tok} (hs : ∀ p ∈ z, p ∈ l) (hf : IsFont z f)
    (hp : (p, tup2 (.int 1 t1) (.int o t2)) ∈ l) (h1 : 0 ≤ o) (h2 : o < 256) :
    Fn w mean mg mb 750 30 [f, .ref p] l (fun r l' => ∃ z', Ex l z l' z' ∧ ∃ t', r = .str (Str.ofString "") t') := by
  unfold Fn
  k_fill
  intro dp un gd cn cs aa ccd cl outer A₀ base h₀ L m s Q E B F X N T hk hdd hu hret
  cases hf with
  | mk hx hdf hn hsz ha hr ht hu =>
  kqd_sub
  refine Stop.in ?_
  obtain ⟨tn, hat⟩ := ha o.toNat (by omega)
  refine item_arr (News.isArr (by k_asm) (by k_mem)) h1 (by omega) hat ?_
  k_steps
  refine' hret _ _ _ _ ?eF ?eN ⟨_, ?eX, ?eD⟩
  case eF => with_reducible assumption
  case eN => with_reducible assumption
  case eX => ktu_off1L
  case eD => exact ⟨_, rfl⟩
end
local macro_rules | `(tactic| walk_at "pad") => `(tactic| skip)
local macro_rules | `(tactic| walk_at "pad") => `(tactic| skip)
local macro_rules | `(tactic| walk_at "pad") => `(tactic| skip)
local macro_rules | `(tactic| walk_at "pad") => `(tactic| skip)

theorem method_F {prog : Program} {w : World} {A : Around} {E : Value → Shared → Prop} {s : Shared} {K : Frag} {h₀ : Heap} {L x f : Addr} {m : Str → Option Value} {l z : Led} {name : Str} {pl : Sem Bool} {Q : Value × List Value → Shared → Prop}
    (F : Fr h₀ L s.heap m) (X : K.In h₀) (N : News h₀ L s.heap l) (hs : ∀ p ∈ z, p ∈ l) (hD : IsFont z (.ref x)) (hg : plainGet K 753 name = true)
    (hf : findIn K (.ref 753) name = some (some (.ref f))) (ht : isFn K (.ref f) = true) (hl : ∀ h0 k0 v0 h1 k1 v1 h2 k2 v2 h3 k3 v3 h4 k4 v4 h5 k5 v5 h6 k6 v6, getL name [⟨h0, .str (Str.ofString "names") k0, v0⟩, ⟨h1, .str (Str.ofString "cutting") k1, v1⟩, ⟨h2, .str (Str.ofString "unicode") k2, v2⟩, ⟨h3, .str (Str.ofString "rows") k3, v3⟩, ⟨h4, .str (Str.ofString "default") k4, v4⟩, ⟨h5, .str (Str.ofString "unit") k5, v5⟩, ⟨h6, .str (Str.ofString "standard") k6, v6⟩] = some none) (h : Q (.ref f, [.ref x]) s) :
    wpAny (model prog w) A (getMethod (.ref x) name pl) Q E s := by
  cases hD with
  | mk hx hdx => exact method_inst F X (InstAt.of_news N (hs _ hx) (hs _ hdx)) hg hf ht (hl _ _ _ _ _ _ _ _ _ _ _ _ _ _ _ _ _ _ _ _ _) h
local macro_rules | `(tactic| ktu_offI) => `(tactic| (refine' IsFont.mono ?h9 ?s9; (case h9 => with_reducible assumption); (case s9 => kt_eqs)))
local macro_rules | `(tactic| ktu_offL) => `(tactic| (refine' CodeAt.mono ?h9 ?s9; (case h9 => with_reducible assumption); (case s9 => kt_eqs)))
local macro_rules | `(tactic| walk_at "getMethod ref") => `(tactic| (k_here; (with_reducible show wpAny _ _ (getMethod (Value.ref _) _ _) _ _ _); k_dflt ((refine' method_F ?F ?X ?N ?hs ?hD ?hg ?hf ?ht ?hl ?_); (case F => k_asm); (case X => k_asm); (case N => k_asm); (case hs => kpt_turns); (case hD => ktu_offI); (case hg => k_is); (case hf => k_is); (case ht => k_is); (case hl => (intro h0 k0 v0 h1 k1 v1 h2 k2 v2 h3 k3 v3 h4 k4 v4 h5 k5 v5 h6 k6 v6; k_get)))))
section
local macro_rules | `(tactic| walk_at "call ref") => `(tactic| (k_here; (with_reducible show wpAny _ _ (call (Value.ref _) _) _ _ _); (refine Stop.out ?_; walk_say "STOP")))
local macro_rules | `(tactic| walk_at "call ref") => `(tactic| (k_here; (with_reducible show wpAny _ _ (call (Value.ref 743) _) _ _ _); k_dflt ((refine' Fn.useM (M := []) ?N ?hs (width_ok (sub_on ?hs) ?hf ?hp ?h1 ?h2) ?B ?F ?X ?T ?kK ?kd ?ku ?O ?_); (case N => k_asm); (case hs => with_reducible assumption); kaf_suf; (case hf => ktu_offI); (case hp => k_mem); (case h1 => with_reducible assumption); (case h2 => with_reducible assumption); rintro r' l' z' h' tk' F' N' G' hz' hl' O' D'; (have hG' := Grow.of G')); (try simp only [List.cons_append, List.nil_append, List.map_cons, List.map_nil] at N' O'); (obtain ⟨x', er'⟩ := IsD.isRef D'); subst er'; (try clear O'); (try dsimp only); (try k_fold)))
local macro_rules | `(tactic| walk_at "call ref") => `(tactic| (k_here; (with_reducible show wpAny _ _ (call (Value.ref 108) _) _ _ _); k_dflt ((refine' Fn.useM (M := []) ?N ?hs (times_ok (sub_on ?hs) ?h1 ?h2 ?h3 ?h4) ?B ?F ?X ?T ?kK ?kd ?ku ?O ?_); (case N => k_asm); (case hs => with_reducible assumption); kaf_suf; (case h1 => kwd_rel); (case h2 => kwd_rel); (case h3 => exact Nat.le_refl _); (case h4 => omega); rintro r' l' z' h' tk' F' N' G' hz' hl' O' D'; (have hG' := Grow.of G')); (try simp only [List.cons_append, List.nil_append, List.map_cons, List.map_nil] at N' O'); (obtain ⟨x', er'⟩ := IsD.isRef D'); subst er'; (try clear O'); (try dsimp only); (try k_fold)))
local macro_rules | `(tactic| walk_at "call ref") => `(tactic| (k_here; (with_reducible show wpAny _ _ (call (Value.ref 94) _) _ _ _); k_dflt ((refine' Fn.useM (M := []) ?N ?hs (plus_ok (sub_on ?hs) ?h1 ?h2 ?h3 ?h4 ?h5) ?B ?F ?X ?T ?kK ?kd ?ku ?O ?_); (case N => k_asm); (case hs => with_reducible assumption); kaf_suf; (case h1 => kwd_rel); (case h2 => kwd_rel); (first | ((case h3 => exact Nat.le_refl _); (case h4 => omega)) | ((case h4 => exact Nat.le_refl _); (case h3 => omega))); (case h5 => omega); rintro r' l' z' h' tk' F' N' G' hz' hl' O' D'; (have hG' := Grow.of G')); (try simp only [List.cons_append, List.nil_append, List.map_cons, List.map_nil] at N' O'); (obtain ⟨x', er'⟩ := IsD.isRef D'); subst er'; (try clear O'); (try dsimp only); (try k_fold)))
local macro_rules | `(tactic| walk_at "call ref") => `(tactic| (k_here; (with_reducible show wpAny _ _ (call (Value.ref 494) _) _ _ _); k_dflt ((refine' Fn.useM (M := []) ?N ?hs (stretched_ok (sub_on ?hs) ?hx ?hds ?hsp ?ho ?hw ?hz ?hn ?hb) ?B ?F ?X ?T ?kK ?kd ?ku ?O ?_); (case N => k_asm); (case hs => with_reducible assumption); kaf_suf; (case hx => k_mem); (case hds => k_mem); (case hsp => k_mem); (case ho => with_reducible assumption); (case hw => kwd_rel); (case hz => kwd_rel); (case hn => exact Nat.le_refl _); (case hb => omega); rintro r' l' z' h' tk' F' N' G' hz' hl' O' D'; (have hG' := Grow.of G')); (try simp only [List.cons_append, List.nil_append, List.map_cons, List.map_nil] at N' O'); (obtain ⟨x', er'⟩ := IsD.isRef D'); subst er'; (try clear O'); (try dsimp only); (try k_fold)))
theorem advance_ok {w : World} {mean : ExcName → Option Value} {mg mb : Str → Option Value} {l z : Led} {x ds sp : Addr} {osp : Obj} {hst0 hst1 hst2 hst3 : Int} {kst0 kst1 kst2 kst3 : Tok} {c f s5 tc tw tz tl ts : Value} {code : Value} (hs : ∀ p ∈ z, p ∈ l)
    (hx : (x, W.instObj 497 ds) ∈ l) (hds : (ds, W.dictOf [⟨hst0, .str (Str.ofString "ctm") kst0, c⟩, ⟨hst1, .str (Str.ofString "font") kst1, f⟩, ⟨hst2, .str (Str.ofString "size") kst2, s5⟩, ⟨hst3, .str (Str.ofString "spacing") kst3, .ref sp⟩] 4) ∈ l) (hsp : (sp, osp) ∈ l) (hosp : spD w osp tc tw tz tl ts) (hf : IsFont z f) (h5 : IsD z s5 1) (htc : IsD z tc 2) (htw : IsD z tw 2) (htz : IsD z tz 2) (hp : CodeAt z code) :
    Fn w mean mg mb 508 20 [.ref x, code] l (fun r l' => ∃ z', Ex l z l' z' ∧ IsP z' r 14) := by
  unfold Fn
  k_fill
  intro dp un gd cn cs aa ccd cl outer A₀ base h₀ L m s Q E B F X N T hk hdd hu hret
  obtain ⟨p, o, t1, t2, rfl, hpz, ho1, ho2⟩ := hp
  obtain ⟨af, rfl⟩ := hf.isRef
  obtain ⟨a5, rfl⟩ := h5.isRef
  obtain ⟨atc, rfl⟩ := htc.isRef
  obtain ⟨atw, rfl⟩ := htw.isRef
  obtain ⟨atz, rfl⟩ := htz.isRef
  have hpl := hs _ hpz
  kqd_sub
  all_goals
    refine Stop.in ?_
    have nTl := News.tl (by k_asm)
    k_steps
    exact hret _ _ _ _ (by k_asm) (by k_asm) ⟨_, Ex.one (by ktu_off1L) (by with_reducible assumption), IsP.mk (.head _) (IsD.mono (by kwd_rel) mem_sub1) (IsD.mono (by kwd_rel) mem_sub1)⟩
end
local macro_rules | `(tactic| walk_at "pad") => `(tactic| skip)
local macro_rules | `(tactic| walk_at "pad") => `(tactic| skip)
local macro_rules | `(tactic| walk_at "pad") => `(tactic| skip)
local macro_rules | `(tactic| walk_at "pad") => `(tactic| skip)
local macro_rules | `(tactic| walk_at "pad") => `(tactic| skip)
local macro_rules | `(tactic| walk_at "pad") => `(tactic| skip)

theorem method_M {prog : Program} {w : World} {A : Around} {E : Value → Shared → Prop} {s : Shared} {K : Frag} {h₀ : Heap} {L x f : Addr} {m : Str → Option Value} {l z : Led} {n : Nat} {name : Str} {pl : Sem Bool} {Q : Value × List Value → Shared → Prop}
    (F : Fr h₀ L s.heap m) (X : K.In h₀) (N : News h₀ L s.heap l) (hs : ∀ p ∈ z, p ∈ l) (hD : IsM z (.ref x) n) (hg : plainGet K 350 name = true)
    (hf : findIn K (.ref 350) name = some (some (.ref f))) (ht : isFn K (.ref f) = true) (hl : ∀ h0 k0 v0 h1 k1 v1 h2 k2 v2 h3 k3 v3 h4 k4 v4 h5 k5 v5, getL name [⟨h0, .str (Str.ofString "a") k0, v0⟩, ⟨h1, .str (Str.ofString "b") k1, v1⟩, ⟨h2, .str (Str.ofString "c") k2, v2⟩, ⟨h3, .str (Str.ofString "d") k3, v3⟩, ⟨h4, .str (Str.ofString "e") k4, v4⟩, ⟨h5, .str (Str.ofString "f") k5, v5⟩] = some none) (h : Q (.ref f, [.ref x]) s) :
    wpAny (model prog w) A (getMethod (.ref x) name pl) Q E s := by
  cases hD with
  | mk hx hdx => exact method_inst F X (InstAt.of_news N (hs _ hx) (hs _ hdx)) hg hf ht (hl _ _ _ _ _ _ _ _ _ _ _ _ _ _ _ _ _ _) h
/-- a frame m whose names ns and n are turned: n holds v -/
def gl (m : Str → Option Value) (ns : List Str) (n : Str) (v : Value) (q : Str → Option Value) : Str → Option Value := fun y => if y = n then some v else if ns.contains y then q y else m y
theorem gl_of {m m' : Str → Option Value} (ns : List Str) (n : Str) {v : Value} (h1 : m' n = some v) (h2 : ∀ y, y ≠ n → (∀ x ∈ ns, y ≠ x) → m' y = m y) : ∃ q, m' = gl m ns n v q := by
  refine ⟨m', funext fun y => ?_⟩
  unfold gl
  split
  · rename_i e; rw [e]; exact h1
  · rename_i hn
    split
    · rfl
    · rename_i hc
      refine h2 y hn fun x hx e => hc ?_
      rw [e]
      simpa using hx
theorem gl_self (ns : List Str) (n : Str) {m : Str → Option Value} {v : Value} (h : m n = some v) : m = gl m ns n v m := by
  funext y
  unfold gl
  split
  · rename_i e; rw [e]; exact h
  · split <;> rfl
theorem gl_ne {m : Str → Option Value} {ns : List Str} {n : Str} {v : Value} {q : Str → Option Value} {y : Str} (h : y ≠ n) (hc : ∀ x ∈ ns, y ≠ x) : gl m ns n v q y = m y := by
  unfold gl
  rw [if_neg h, if_neg]
  intro e
  exact hc y (by simpa using e) rfl
theorem ForSrc.of {prog : Program} {w : World} {A : Around} {E : Value → Shared → Prop} {env : Env} {h₀ : Heap} {Q : Flow → Shared → Prop} {target : Expr} {body : List Stmt} {s₁ : Shared} {ax : Addr} {its : Array Value} {news : Led} {m : Str → Option Value}
    (J : (Str → Option Value) → Led → Nat → (Str → Option Value) → Led → Prop) (hh : A.handled = none) (F : Fr h₀ env.locals s₁.heap m) (N : News h₀ env.locals s₁.heap news) (hS : LCg.SrcAt h₀ ax its news) (h0 : J m news 0 m news)
    (step : ∀ i v I oI m₁ news₁ h tk, i < its.size → its[i]? = some v → J m news i m₁ news₁ → Fr h₀ env.locals h m₁ → News h₀ env.locals h ((I, oI) :: news₁) → (∀ p ∈ news₁, p.1 ≠ I) → LCg.SrcAt h₀ ax its news₁ →
        wpAny (model prog w) A (assign target env v) (fun _ s₂ => wpAny (model prog w) A (execs body env) (TurnQ h₀ env.locals { s₁ with heap := h, toks := tk } I oI ax its (J m news (i + 1)) Q) E s₂) E { s₁ with heap := h, toks := tk })
    (done : ∀ h tk m' news', Fr h₀ env.locals h m' → News h₀ env.locals h news' → J m news its.size m' news' → Q .next { s₁ with heap := h, toks := tk }) :
    ForSrc prog w A E env h₀ Q target body (.ref ax) s₁ := ⟨ax, its, news, m, J m news, rfl, hh, F, N, hS, h0, step, done⟩
local macro_rules | `(tactic| walk_at "exec For Name Call cons nil") => `(tactic| (k_here; refine Stop.out ?_; walk_say "STOP FOR"))
local macro_rules | `(tactic| walk_at "exec For Name Attribute cons nil") => `(tactic| (k_here; refine Stop.out ?_; walk_say "STOP FOR"))
local macro_rules | `(tactic| walk_at "exec For Name Name cons nil") => `(tactic| (k_here; refine Stop.out ?_; walk_say "STOP FOR"))
local macro_rules | `(tactic| walk_at "ForSrc") => `(tactic| (k_here; refine Stop.out ?_; walk_say "STOP SRC"))
local macro_rules | `(tactic| walk_at "TurnQ") => `(tactic| (k_here; refine Stop.out ?_; walk_say "STOP TURN"))
local macro_rules | `(tactic| keq_hits) => `(tactic| (intro y9 hn9 hc9; simp only [List.forall_mem_cons, List.forall_mem_nil, and_true] at hc9; simp only [hn9, hc9, if_false, gl, List.contains_cons, List.contains_nil, beq_iff_eq, Bool.or_eq_true, Bool.false_eq_true, or_self]))
local macro_rules | `(tactic| walk_at "getMethod ref") => `(tactic| (k_here; (with_reducible show wpAny _ _ (getMethod (Value.ref _) _ _) _ _ _); k_dflt ((refine' method_M ?F ?X ?N ?hs ?hD ?hg ?hf ?ht ?hl ?_); (case F => k_asm); (case X => k_asm); (case N => k_asm); (case hs => kpt_turns); (case hD => kfm_turns); (case hg => k_is); (case hf => k_is); (case ht => k_is); (case hl => (intro h0 k0 v0 h1 k1 v1 h2 k2 v2 h3 k3 v3 h4 k4 v4 h5 k5 v5; k_get)))))
section
local macro_rules | `(tactic| walk_at "call ref") => `(tactic| (k_here; (with_reducible show wpAny _ _ (call (Value.ref _) _) _ _ _); (refine Stop.out ?_; walk_say "STOP")))
theorem glyphNew_ok {w : World} {mean : ExcName → Option Value} {mg mb : Str → Option Value} {l z : Led} {a b c d e : Value} (hs : ∀ p ∈ z, p ∈ l) :
    Fn w mean mg mb 441 6 [a, b, c, d, e] l (fun r l' => ∃ z', Ex l z l' z' ∧ True) := by
  unfold Fn
  k_fill
  intro dp un gd cn cs aa ccd cl outer A₀ base h₀ L m s Q E B F X N T hk hdd hu hret
  kba_ints
  exact hret _ _ _ _ (by k_asm) (by k_asm) ⟨_, Ex.cls (z := z) Ex.refl (by assumption) (by assumption), trivial⟩
end
local macro_rules | `(tactic| walk_at "pad") => `(tactic| skip)
local macro_rules | `(tactic| walk_at "pad") => `(tactic| skip)
/-- what shown_glyphs gives back: the list of n glyphs, the way gone -/
def IsShown (z : Led) (r : Value) (n : Nat) : Prop := ∃ (t fd : Addr) (g : Value) (arr : Array Value) (e : Nat), r = .ref t ∧ (t, tup2 (.ref fd) g) ∈ z ∧ (fd, W.listOf arr e) ∈ z ∧ arr.size = n ∧ IsD z g 16
theorem IsShown.get {z : Led} {r : Value} {n : Nat} (h : IsShown z r n) : ∃ (t fd : Addr) (g : Value) (arr : Array Value) (e : Nat), r = .ref t ∧ (t, tup2 (.ref fd) g) ∈ z ∧ (fd, W.listOf arr e) ∈ z ∧ arr.size = n ∧ IsD z g 16 := h
section
local macro_rules | `(tactic| walk_at "call ref") => `(tactic| (k_here; (with_reducible show wpAny _ _ (call (Value.ref _) _) _ _ _); (refine Stop.out ?_; walk_say "STOP")))
local macro_rules | `(tactic| walk_at "call ref") => `(tactic| (k_here; (with_reducible show wpAny _ _ (call (Value.ref 319) _) _ _ _); k_dflt ((refine' Fn.useM (M := []) ?N ?hs (mtimes_ok (sub_on ?hs) ?h1 ?h2 ?h3) ?B ?F ?X ?T ?kK ?kd ?ku ?O ?_); (case N => k_asm); (case hs => with_reducible assumption); kaf_suf; (case h1 => kfm_turns); (case h2 => kfm_turns); (case h3 => omega); rintro r' l' z' h' tk' F' N' G' hz' hl' O' D'; (have hG' := Grow.of G')); (try simp only [List.cons_append, List.nil_append, List.map_cons, List.map_nil] at N' O'); (obtain ⟨x', er'⟩ := IsM.isRef D'); subst er'; (try clear O'); (try dsimp only); (try k_fold)))
local macro_rules | `(tactic| walk_at "call ref") => `(tactic| (k_here; (with_reducible show wpAny _ _ (call (Value.ref 333) _) _ _ _); k_dflt ((refine' Fn.useM (M := []) ?N ?hs (shifted_ok (sub_on ?hs) ?h1 ?h2 ?h3 ?h4) ?B ?F ?X ?T ?kK ?kd ?ku ?O ?_); (case N => k_asm); (case hs => with_reducible assumption); kaf_suf; (case h1 => kfm_turns); (case h3 => kwd_rel); (case h2 => kwd_rel); (case h4 => omega); rintro r' l' z' h' tk' F' N' G' hz' hl' O' D'; (have hG' := Grow.of G')); (try simp only [List.cons_append, List.nil_append, List.map_cons, List.map_nil] at N' O'); (obtain ⟨x', ax', bx', er', hp', ha', hb'⟩ := IsP.get D'); subst er'; (try clear O'); (try dsimp only); (try k_fold)))
local macro_rules | `(tactic| walk_at "call ref") => `(tactic| (k_here; (with_reducible show wpAny _ _ (call (Value.ref 167) _) _ _ _); k_dflt ((refine' Fn.useM (M := []) ?N ?hs (decNew_ok (n := 0) (sub_on ?hs) ?h1 ?h2 ?h3) ?B ?F ?X ?T ?kK ?kd ?ku ?O ?_); (case N => k_asm); (case hs => with_reducible assumption); kaf_suf; (case h1 => decide); (case h2 => decide); (case h3 => decide); rintro r' l' z' h' tk' F' N' G' hz' hl' O' D'; (have hG' := Grow.of G')); (try simp only [List.cons_append, List.nil_append, List.map_cons, List.map_nil] at N' O'); (obtain ⟨x', er'⟩ := IsD.isRef D'); subst er'; (try clear O'); (try dsimp only); (try k_fold)))
local macro_rules | `(tactic| walk_at "call ref") => `(tactic| (k_here; (with_reducible show wpAny _ _ (call (Value.ref 736) _) _ _ _); k_dflt ((refine' Fn.useM (M := [_]) ?N ?hs (codes_ok (sub_on ?hs) ?hf ?hb) ?B ?F ?X ?T ?kK ?kd ?ku ?O ?_); (case N => k_asm); (case hs => with_reducible assumption); kaf_suf; (case hf => ktu_offI); (case hb => with_reducible assumption); rintro r' l' z' h' tk' F' N' G' hz' hl' O' D'; (have hG' := Grow.of G')); (try simp only [List.cons_append, List.nil_append, List.map_cons, List.map_nil] at N' O'); (obtain ⟨d', ys', e', er', hd', hn', hc'⟩ := IsCodes.get D'); subst er'; (try dsimp only); (try k_fold)))
local macro_rules | `(tactic| walk_at "call ref") => `(tactic| (k_here; (with_reducible show wpAny _ _ (call (Value.ref 508) _) _ _ _); k_dflt ((refine' Fn.useM (M := [_, _]) ?N ?hs (advance_ok (sub_on ?hs) ?hx ?hds ?hsp ?ho ?hf ?h5 ?h1 ?h2 ?h3 ?hp) ?B ?F ?X ?T ?kK ?kd ?ku ?O ?_); (case N => k_asm); (case hs => with_reducible assumption); kaf_suf; (case hx => k_mem); (case hds => k_mem); (case hsp => k_mem); (case ho => with_reducible assumption); (case hf => ktu_offI); (case h5 => kwd_rel); (case h1 => kwd_rel); (case h2 => kwd_rel); (case h3 => kwd_rel); (case hp => ktu_offL); rintro r' l' z' h' tk' F' N' G' hz' hl' O' D'; (have hG' := Grow.of G')); (try simp only [List.cons_append, List.nil_append, List.map_cons, List.map_nil] at N' O'); (obtain ⟨x', ax', bx', er', hp', ha', hb'⟩ := IsP.get D'); subst er'; (try dsimp only); (try k_fold)))
local macro_rules | `(tactic| walk_at "call ref") => `(tactic| (k_here; (with_reducible show wpAny _ _ (call (Value.ref 326) _) _ _ _); k_dflt ((refine' Fn.useM (M := [_, _]) ?N ?hs (applied_ok (sub_on ?hs) ?h1 ?h2 ?h3 ?h4) ?B ?F ?X ?T ?kK ?kd ?ku ?O ?_); (case N => k_asm); (case hs => with_reducible assumption); kaf_suf; (case h1 => kfm_turns); (case h2 => kwd_rel); (case h3 => kwd_rel); (case h4 => omega); rintro r' l' z' h' tk' F' N' G' hz' hl' O' D'; (have hG' := Grow.of G')); (try simp only [List.cons_append, List.nil_append, List.map_cons, List.map_nil] at N' O'); (obtain ⟨x', ax', bx', er', hp', ha', hb'⟩ := IsP.get D'); subst er'; (try dsimp only); (try k_fold)))
local macro_rules | `(tactic| walk_at "call ref") => `(tactic| (k_here; (with_reducible show wpAny _ _ (call (Value.ref 750) _) _ _ _); k_dflt ((refine' Fn.useM (M := [_, _]) ?N ?hs (text_ok (sub_on ?hs) ?hf ?hp ?h1 ?h2) ?B ?F ?X ?T ?kK ?kd ?ku ?O ?_); (case N => k_asm); (case hs => with_reducible assumption); kaf_suf; (case hf => ktu_offI); (case hp => k_mem); (case h1 => with_reducible assumption); (case h2 => with_reducible assumption); rintro r' l' z' h' tk' F' N' G' hz' hl' O' D'; (have hG' := Grow.of G')); (try simp only [List.cons_append, List.nil_append, List.map_cons, List.map_nil] at N' O'); (obtain ⟨t', er'⟩ := D'); subst er'; (try dsimp only); (try k_fold)))
local macro_rules | `(tactic| walk_at "call ref") => `(tactic| (k_here; (with_reducible show wpAny _ _ (call (Value.ref 333) _) _ _ _); k_dflt ((refine' Fn.useM (M := [_, _]) ?N ?hs (shifted_ok (sub_on ?hs) ?h1 ?h2 ?h3 ?h4) ?B ?F ?X ?T ?kK ?kd ?ku ?O ?_); (case N => k_asm); (case hs => with_reducible assumption); kaf_suf; (case h1 => kfm_turns); (case h2 => kwd_rel); (case h3 => kwd_rel); (case h4 => omega); rintro r' l' z' h' tk' F' N' G' hz' hl' O' D'; (have hG' := Grow.of G')); (try simp only [List.cons_append, List.nil_append, List.map_cons, List.map_nil] at N' O'); (obtain ⟨x', ax', bx', er', hp', ha', hb'⟩ := IsP.get D'); subst er'; (try dsimp only); (try k_fold)))
local macro_rules | `(tactic| walk_at "call ref") => `(tactic| (k_here; (with_reducible show wpAny _ _ (call (Value.ref 94) _) _ _ _); k_dflt ((refine' Fn.useM (M := [_, _]) ?N ?hs (plus_ok (sub_on ?hs) ?h1 ?h2 ?h3 ?h4 ?h5) ?B ?F ?X ?T ?kK ?kd ?ku ?O ?_); (case N => k_asm); (case hs => with_reducible assumption); kaf_suf; (case h1 => kwd_rel); (case h2 => kwd_rel); (first | ((case h3 => exact Nat.le_refl _); (case h4 => omega)) | ((case h4 => exact Nat.le_refl _); (case h3 => omega))); (case h5 => omega); rintro r' l' z' h' tk' F' N' G' hz' hl' O' D'; (have hG' := Grow.of G')); (try simp only [List.cons_append, List.nil_append, List.map_cons, List.map_nil] at N' O'); (obtain ⟨x', er'⟩ := IsD.isRef D'); subst er'; (try dsimp only); (try k_fold)))
local macro_rules | `(tactic| walk_at "call ref") => `(tactic| (k_here; (with_reducible show wpAny _ _ (call (Value.ref 441) _) _ _ _); k_dflt ((refine' Fn.useM (M := [_, _]) ?N ?hs (glyphNew_ok (sub_on ?hs)) ?B ?F ?X ?T ?kK ?kd ?ku ?O ?_); (case N => k_asm); (case hs => with_reducible assumption); kaf_suf; skip; rintro r' l' z' h' tk' F' N' G' hz' hl' O' D'; (have hG' := Grow.of G')); (try simp only [List.cons_append, List.nil_append, List.map_cons, List.map_nil] at N' O'); (try dsimp only); (try k_fold)))
theorem shown_ok {w : World} {mean : ExcName → Option Value} {mg mb : Str → Option Value} {l z : Led} {x ds sp : Addr} {osp : Obj} {hst0 hst1 hst2 hst3 : Int} {kst0 kst1 kst2 kst3 : Tok} {c f s5 tc tw tz tl ts place : Value} {b : Array UInt8} {t : Tok} {nc np : Nat} (hs : ∀ p ∈ z, p ∈ l)
    (hx : (x, W.instObj 497 ds) ∈ l) (hds : (ds, W.dictOf [⟨hst0, .str (Str.ofString "ctm") kst0, c⟩, ⟨hst1, .str (Str.ofString "font") kst1, f⟩, ⟨hst2, .str (Str.ofString "size") kst2, s5⟩, ⟨hst3, .str (Str.ofString "spacing") kst3, .ref sp⟩] 4) ∈ l) (hsp : (sp, osp) ∈ l) (hosp : spD w osp tc tw tz tl ts) (hf : IsFont z f) (h5 : IsD z s5 1) (htc : IsD z tc 2) (htw : IsD z tw 2) (htz : IsD z tz 2) (hts : IsD z ts 2)
    (hc : IsM z c nc) (hpl : IsM z place np) (hb : b.size ≤ 2) (hn : np + nc ≤ 2000) :
    Fn w mean mg mb 522 40 [.ref x, place, .bytes b t] l (fun r l' => ∃ z', Ex l z l' z' ∧ IsShown z' r b.size) := by
  unfold Fn
  k_fill
  intro dp un gd cn cs aa ccd cl outer A₀ base h₀ L m s Q E B F X N T hk hdd hu hret
  obtain ⟨af, rfl⟩ := hf.isRef
  obtain ⟨a5, rfl⟩ := h5.isRef
  obtain ⟨atc, rfl⟩ := htc.isRef
  obtain ⟨atw, rfl⟩ := htw.isRef
  obtain ⟨atz, rfl⟩ := htz.isRef
  obtain ⟨ats, rfl⟩ := hts.isRef
  obtain ⟨ac, rfl⟩ := hc.isRef
  obtain ⟨ap, rfl⟩ := hpl.isRef
  kqd_sub
  refine Stop.in ?_
  refine For_led (by k_asm) (fun _ _ _ _ _ a b => go_name a b) ?_
  k_steps
  refine Stop.in ?_
  rename (∀ p : Addr × Obj, p ∈ (_ : Led) → p.1 < _) => lF
  have oF := Off.one (ne_of_ltAll lF)
  k_steps
  refine Stop.in ?_
  rename Led => z3
  rename (∀ y ∈ _, CodeAt _ y) => hcode
  rename (List.length _ = b.size) => hlen
  refine ForSrc.of (fun m₀ news₀ i m' news' => match news₀ with | [] => False | (fd, _) :: l3 => ∃ v arr e l₁ z₁, (∃ q, m' = gl m₀ [Str.ofString "code", Str.ofString "whole", Str.ofString "bare", Str.ofString "x", Str.ofString "y"] (Str.ofString "gone") v q) ∧ news' = (fd, W.listOf arr e) :: l₁ ∧ Ex l3 z3 l₁ z₁ ∧ Off [fd] l₁ ∧ arr.size = i ∧ IsD z₁ v (14 + i)) rfl (by k_asm) (by k_asm) (.inr ⟨_, by k_mem, rfl, _, rfl⟩) ?_ ?_ ?_
  · exact ⟨_, _, _, _, _, ⟨_, gl_self _ _ rfl⟩, rfl, Ex.refl, by with_reducible assumption, rfl, IsD.more (by kwd_rel) (by decide)⟩
  · rintro i v I oI m₁ news₁ h1 tk1 hi hv ⟨vg, arr, e, l₁, z₁, ⟨q, rfl⟩, rfl, G, O, hsz, hg⟩ F1 N1 off S
    have hcv := hcode v (List.mem_of_getElem? (by simpa using hv))
    obtain ⟨p, o, u1, u2, rfl, hp, ho1, ho2⟩ := id hcv
    obtain ⟨ag, rfl⟩ := hg.isRef
    have hG := G.ll
    have hzz := G.zz
    have hzl := G.zl (by with_reducible assumption)
    have hG' := Grow.of G
    have o2 : Off [I, _] l₁ := Off.cons (fun p hp => off p (.tail _ hp)) O
    have hne : @Ne Nat _ I := off _ (.head _)
    have hi2 : i < 2 := Nat.lt_of_lt_of_le hi (by rw [List.size_toArray, hlen]; exact hb)
    k_steps
    refine Stop.in ?_
    refine TurnQ.nxt _ (by k_asm) (by k_asm) (fun _ h => h) ?_ (.inr ⟨_, by k_mem, rfl, _, rfl⟩) ⟨_, _, _, _, _, gl_of _ _ rfl (by keq_hits), rfl, by ktu_off1L, Off.tail (by with_reducible assumption), by rw [Array.size_push, hsz], IsD.more (by kwd_rel) (by omega)⟩
    exact List.forall_mem_cons.mpr ⟨hne, Off.ne (by with_reducible assumption) (.head _)⟩
  · rintro h1 tk1 m1 news1 F1 N1 ⟨vg, arr, e, l₁, z₁, ⟨q, rfl⟩, rfl, G, O, hsz, hg⟩
    obtain ⟨ag, rfl⟩ := hg.isRef
    have hG := G.ll
    have hzz := G.zz
    have hzl := G.zl (by with_reducible assumption)
    have hG' := Grow.of G
    k_steps
    rename (_ ∧ AllLt _ _) => lA
    have hz9 : (List.toArray _).size = b.size := List.size_toArray.trans hlen
    exact hret _ _ _ _ (by k_asm) (by k_asm) ⟨_, Ex.one (Ex.off (by ktu_off1L) (Off.ne O (.head _))) (allLt_mem lA), _, _, _, _, _, rfl, .head _, .tail _ (.head _), hsz.trans hz9, IsD.mono (hg.more (by rw [hz9]; omega)) mem_sub2⟩
end
local macro_rules | `(tactic| walk_at "pad") => `(tactic| skip)
local macro_rules | `(tactic| walk_at "pad") => `(tactic| skip)
local macro_rules | `(tactic| walk_at "pad") => `(tactic| skip)
local macro_rules | `(tactic| walk_at "pad") => `(tactic| skip)
local macro_rules | `(tactic| walk_at "pad") => `(tactic| skip)
local macro_rules | `(tactic| walk_at "pad") => `(tactic| skip)
local macro_rules | `(tactic| walk_at "pad") => `(tactic| skip)
local macro_rules | `(tactic| walk_at "pad") => `(tactic| skip)
local macro_rules | `(tactic| walk_at "pad") => `(tactic| skip)
local macro_rules | `(tactic| walk_at "pad") => `(tactic| skip)
local macro_rules | `(tactic| walk_at "pad") => `(tactic| skip)
local macro_rules | `(tactic| walk_at "pad") => `(tactic| skip)

def Ap7 (a b c d e f g : Addr) : Prop := @Ne Nat a b ∧ @Ne Nat a c ∧ @Ne Nat a d ∧ @Ne Nat a e ∧ @Ne Nat a f ∧ @Ne Nat a g ∧ @Ne Nat b c ∧ @Ne Nat b d ∧ @Ne Nat b e ∧ @Ne Nat b f ∧ @Ne Nat b g ∧ @Ne Nat c d ∧ @Ne Nat c e ∧ @Ne Nat c f ∧ @Ne Nat c g ∧ @Ne Nat d e ∧ @Ne Nat d f ∧ @Ne Nat d g ∧ @Ne Nat e f ∧ @Ne Nat e g ∧ @Ne Nat f g
def TP (as : List Addr) (l z : Led) (P : Led → Led → Value → Prop) (r : Value) (l' : Led) : Prop := ∃ M' l₂ z₂, l' = M' ++ l₂ ∧ Ex l z l₂ z₂ ∧ Off as l₂ ∧ P M' z₂ r
theorem app7 {a b c d e f g : Addr × Obj} {l : Led} : a :: b :: c :: d :: e :: f :: g :: l = [a, b, c, d, e, f, g] ++ l := rfl
/-- a call that turns the cells M -/
theorem Fn.useT {w : World} {mean : ExcName → Option Value} {mg mb : Str → Option Value} {f : Addr} {k : Nat} {vs : List Value} {M l z : Led} {P : Led → Led → Value → Prop} {as : List Addr}
    {dp un : Nat} {gd : Option (List Code)} {cn : Str} {cs : Scope} {a : Addr} {ccd : Value} {cl : List (Str × Addr)} {outer : List Env} {A₀ : Around} {base h₀ : Heap} {L : Addr} {m : Str → Option Value} {s : Shared} {Q E : Value → Shared → Prop}
    (N : News h₀ L s.heap (M ++ l)) (hs : ∀ p ∈ z, p ∈ l) (O : Off as l)
    (C : Fn w mean mg mb f k vs (M ++ l) (TP as l z P))
    (B : Below A₀ base outer h₀) (F : Fr h₀ L s.heap m) (X : (hd.heap_39 w.params).In h₀) (T : Top hd.view_39 (looseW hd.view_39 [Str.ofString "PaperError", Str.ofString "OTHER_CODES"]) mean mg mb h₀) (hk : cs.kind = .function) (hd : dp + k < recursionLimit) (hu : un + 8 * k < cLine)
    (ret : ∀ r M' l₂ z₂ h' tk', Fr h₀ L h' m → News h₀ L h' (M' ++ l₂) → Ex l z l₂ z₂ → (∀ p ∈ z, p ∈ z₂) → (∀ p ∈ z₂, p ∈ l₂) → Off as l₂ → P M' z₂ r → Q r { s with heap := h', toks := tk' }) :
    wpAny (model PySem.Challenge.rw_og0194_01.row.prog w) (ktrTop dp un gd cn cs L a ccd cl outer) (call (.ref f) vs) Q E s := by
  refine Fn.use C B F X N T hk hd hu ?_
  rintro r l' h' tk' F' N' ⟨M', l₂, z₂, rfl, G, O', p⟩
  exact ret r M' l₂ z₂ h' tk' F' N' G G.zz (G.zl hs) O' p
local macro_rules | `(tactic| kt_ors) => `(tactic| ((case B => k_asm); (case F => k_asm); (case X => k_asm); (case T => k_asm); (case kK => first | exact rfl | with_reducible assumption); (case kd => ktr_room); (case ku => kas_types)))
local macro_rules | `(tactic| k_ne) => `(tactic| (refine neN ?_; (try dsimp only); first | with_reducible assumption | exact Ne.symm (by with_reducible assumption) | omega))
section
local macro_rules | `(tactic| walk_at "call ref") => `(tactic| (k_here; (with_reducible show wpAny _ _ (call (Value.ref _) _) _ _ _); (refine Stop.out ?_; walk_say "STOP")))
local macro_rules | `(tactic| walk_at "call ref") => `(tactic| (k_here; (with_reducible show wpAny _ _ (call (Value.ref 368) _) _ _ _); k_dflt ((refine' Fn.useM (M := [_, _, _, _, _, _, _]) ?N ?hs (translation_ok (sub_on ?hs) ?h1 ?h2) ?B ?F ?X ?T ?kK ?kd ?ku ?O ?_); (case N => k_asm); (case hs => with_reducible assumption); kaf_suf; (case h1 => kwd_rel); (case h2 => kwd_rel); rintro r' l' z' h' tk' F' N' G' hz' hl' O' D'; (have hG' := Grow.of G')); (try simp only [List.cons_append, List.nil_append, List.map_cons, List.map_nil] at N' O'); (obtain ⟨x', er'⟩ := IsM.isRef D'); subst er'; (try dsimp only); (try k_fold)))
local macro_rules | `(tactic| walk_at "call ref") => `(tactic| (k_here; (with_reducible show wpAny _ _ (call (Value.ref 319) _) _ _ _); k_dflt ((refine' Fn.useM (M := [_, _, _, _, _, _, _]) ?N ?hs (mtimes_ok (sub_on ?hs) ?h1 ?h2 ?h3) ?B ?F ?X ?T ?kK ?kd ?ku ?O ?_); (case N => k_asm); (case hs => with_reducible assumption); kaf_suf; (case h1 => kfm_turns); (case h2 => kfm_turns); (case h3 => omega); rintro r' l' z' h' tk' F' N' G' hz' hl' O' D'; (have hG' := Grow.of G')); (try simp only [List.cons_append, List.nil_append, List.map_cons, List.map_nil] at N' O'); (obtain ⟨x', er'⟩ := IsM.isRef D'); subst er'; (try dsimp only); (try k_fold)))
theorem next_row_ok {w : World} {mean : ExcName → Option Value} {mg mb : Str → Option Value} {l z : Led} {tour dt pl fd st ds sp : Addr} {sheet : Value} {htw0 htw1 htw2 htw3 htw4 htw5 : Int} {ktw0 ktw1 ktw2 ktw3 ktw4 ktw5 : Tok} {hst0 hst1 hst2 hst3 : Int} {kst0 kst1 kst2 kst3 : Tok} {row place ctm font size : Value} {parr farr : Array Value} {pn fn : Nat} {osp : Obj} {right up : Value} {n : Nat} (hs : ∀ p ∈ z, p ∈ l)
    (hA : Ap7 tour dt pl fd st ds sp) (O : Off [tour, dt, pl, fd, st, ds, sp] l) (hr : IsM z row n) (h1 : IsNum z right 2) (h2 : IsNum z up 2) (hn : n ≤ 2000) :
    Fn w mean mg mb 564 34 [.ref tour, right, up] ([(tour, W.instObj 581 dt), (dt, W.dictOf [⟨htw0, .str (Str.ofString "sheet") ktw0, sheet⟩, ⟨htw1, .str (Str.ofString "state") ktw1, .ref st⟩, ⟨htw2, .str (Str.ofString "pile") ktw2, .ref pl⟩, ⟨htw3, .str (Str.ofString "row") ktw3, row⟩, ⟨htw4, .str (Str.ofString "place") ktw4, place⟩, ⟨htw5, .str (Str.ofString "found") ktw5, .ref fd⟩] 6), (pl, W.listOf parr pn), (fd, W.listOf farr fn), (st, W.instObj 497 ds), (ds, W.dictOf [⟨hst0, .str (Str.ofString "ctm") kst0, ctm⟩, ⟨hst1, .str (Str.ofString "font") kst1, font⟩, ⟨hst2, .str (Str.ofString "size") kst2, size⟩, ⟨hst3, .str (Str.ofString "spacing") kst3, .ref sp⟩] 4), (sp, osp)] ++ l)
      (TP [tour, dt, pl, fd, st, ds, sp] l z (fun M' z' r => r = .none ∧ ∃ row', M' = [(tour, W.instObj 581 dt), (dt, W.dictOf [⟨htw0, .str (Str.ofString "sheet") ktw0, sheet⟩, ⟨htw1, .str (Str.ofString "state") ktw1, .ref st⟩, ⟨htw2, .str (Str.ofString "pile") ktw2, .ref pl⟩, ⟨htw3, .str (Str.ofString "row") ktw3, row'⟩, ⟨htw4, .str (Str.ofString "place") ktw4, row'⟩, ⟨htw5, .str (Str.ofString "found") ktw5, .ref fd⟩] 6), (pl, W.listOf parr pn), (fd, W.listOf farr fn), (st, W.instObj 497 ds), (ds, W.dictOf [⟨hst0, .str (Str.ofString "ctm") kst0, ctm⟩, ⟨hst1, .str (Str.ofString "font") kst1, font⟩, ⟨hst2, .str (Str.ofString "size") kst2, size⟩, ⟨hst3, .str (Str.ofString "spacing") kst3, .ref sp⟩] 4), (sp, osp)] ∧ IsM z' row' (n + 4))) := by
  unfold Fn
  k_fill
  intro dp un gd cn cs aa ccd cl outer A₀ base h₀ L m s Q E B F X N T hk hdd hu hret
  simp only [List.cons_append, List.nil_append] at N
  obtain ⟨ar, rfl⟩ := hr.isRef
  have hA9 := hA
  obtain ⟨n1, n2, n3, n4, n5, n6, n7, n8, n9, n10, n11, n12, n13, n14, n15, n16, n17, n18, n19, n20, n21⟩ := hA9
  kqd_sub
  exact hret _ _ _ _ (by k_asm) (by k_asm) ⟨_, _, _, app7, by ktu_off1L, by with_reducible assumption, rfl, _, rfl, by kfm_turns⟩
end
local macro_rules | `(tactic| walk_at "pad") => `(tactic| skip)
local macro_rules | `(tactic| walk_at "pad") => `(tactic| skip)
local macro_rules | `(tactic| walk_at "pad") => `(tactic| skip)
local macro_rules | `(tactic| walk_at "pad") => `(tactic| skip)

theorem Upd.of {d : Addr} {o o' : Obj} : ∀ {pre post : Led}, (∀ p ∈ pre, p.1 ≠ d) → (∀ p ∈ post, p.1 ≠ d) → Upd d o o' (pre ++ (d, o) :: post) (pre ++ (d, o') :: post)
  | [], _, _, h => .head h
  | _ :: _, _, h, h' => .tail (h _ (.head _)) (Upd.of (fun p hp => h p (.tail _ hp)) h')
theorem ltl {n : Nat} (h : n ≤ 1000) (b : Bool) : ¬(b && Builtin.List.listTooLong n) = true := by
  intro q
  rw [Bool.and_eq_true] at q
  have := q.2
  unfold Builtin.List.listTooLong at this
  have h2 : n > sizeLine := of_decide_eq_true this
  rw [sizeLine_eq] at h2
  omega
theorem extend_any {prog : Program} {w : World} {A : Around} {E : Value → Shared → Prop} {s : Shared} {h₀ : Heap} {L D b : Addr} {m : Str → Option Value} {news : Led} {g : Obj → Led} {its its2 : Array Value} {n n2 : Nat} {Q : Value → Shared → Prop}
    (F : Fr h₀ L s.heap m) (N : News h₀ L s.heap news) (hb : (b, W.listOf its2 n2) ∈ news) (U : UpdF D (W.listOf its n) news g) (hz : its.size + its2.size ≤ 1000)
    (h : ∀ h' its' n', its'.size = its.size + its2.size → Fr h₀ L h' m → News h₀ L h' (g (W.listOf its' n')) → Q .none { s with heap := h' }) :
    wpAny (model prog w) A (call (.builtin "list.extend") [.ref D, .ref b]) Q E s := by
  obtain ⟨pre, post, rfl, hg, a, c⟩ := U.split
  have hz1 : its.toList.length ≤ sizeLine := by rw [sizeLine_eq, Array.length_toList]; omega
  have hz2 : its.size + its2.size ≤ sizeLine + 1 := by rw [sizeLine_eq]; omega
  by_cases e : its2.toList = []
  · refine kxn_extend F N hb e (Upd.of a c) (ltl hz _) hz1 hz2 fun h' F' N' => h h' its n ?_ F' (hg _ ▸ N')
    have : its2.size = 0 := by rw [← Array.length_toList, e]; rfl
    omega
  · refine kl_extend F N hb rfl (fun q => e (List.eq_nil_of_length_eq_zero q)) (Upd.of a c) (ltl hz _) hz1 hz2 fun h' F' N' => h h' _ _ ?_ F' (hg _ ▸ N')
    simp
section
local macro_rules | `(tactic| walk_at "call ref") => `(tactic| (k_here; (with_reducible show wpAny _ _ (call (Value.ref _) _) _ _ _); (refine Stop.out ?_; walk_say "STOP")))
local macro_rules | `(tactic| walk_at "call ref") => `(tactic| (k_here; (with_reducible show wpAny _ _ (call (Value.ref 115) _) _ _ _); k_dflt ((refine' Fn.useM (M := [_, _, _, _, _, _, _]) ?N ?hs (negated_ok (sub_on ?hs) ?h1) ?B ?F ?X ?T ?kK ?kd ?ku ?O ?_); (case N => k_asm); (case hs => with_reducible assumption); kaf_suf; (case h1 => kwd_rel); rintro r' l' z' h' tk' F' N' G' hz' hl' O' D'; (have hG' := Grow.of G')); (try simp only [List.cons_append, List.nil_append, List.map_cons, List.map_nil] at N' O'); (obtain ⟨x', er'⟩ := IsD.isRef D'); subst er'; (try dsimp only); (try k_fold)))
local macro_rules | `(tactic| walk_at "call ref") => `(tactic| (k_here; (with_reducible show wpAny _ _ (call (Value.ref 167) _) _ _ _); k_dflt ((refine' Fn.useM (M := [_, _, _, _, _, _, _]) ?N ?hs (decNew_ok (n := 0) (sub_on ?hs) ?h1 ?h2 ?h3) ?B ?F ?X ?T ?kK ?kd ?ku ?O ?_); (case N => k_asm); (case hs => with_reducible assumption); kaf_suf; (case h1 => decide); (case h2 => decide); (case h3 => decide); rintro r' l' z' h' tk' F' N' G' hz' hl' O' D'; (have hG' := Grow.of G')); (try simp only [List.cons_append, List.nil_append, List.map_cons, List.map_nil] at N' O'); (obtain ⟨x', er'⟩ := IsD.isRef D'); subst er'; (try dsimp only); (try k_fold)))
local macro_rules | `(tactic| walk_at "call ref") => `(tactic| (k_here; (with_reducible show wpAny _ _ (call (Value.ref 564) _) _ _ _); k_dflt ((refine' Fn.useT (M := [_, _, _, _, _, _, _]) ?N ?hs ?O (next_row_ok ?hs ?hA ?O ?hr ?h1 ?h2 ?hn) ?B ?F ?X ?T ?kK ?kd ?ku ?_); (case N => k_asm); (case hs => with_reducible assumption); (case O => with_reducible assumption); (case hA => with_reducible assumption); kt_ors; (case hr => kfm_turns); (case h1 => kwd_rel); (case h2 => kwd_rel); (case hn => omega); rintro r' M' l' z' h' tk' F' N' G' hz' hl' O' D'; (have hG' := Grow.of G')); (obtain ⟨e1', ro', e2', hm'⟩ := D'); subst e1'; subst e2'; (obtain ⟨x', er'⟩ := IsM.isRef hm'); subst er'; (try simp only [List.cons_append, List.nil_append, List.map_cons, List.map_nil] at N' O'); (try dsimp only); (try k_fold)))
theorem feed_ok {w : World} {mean : ExcName → Option Value} {mg mb : Str → Option Value} {l z : Led} {tour dt pl fd st ds sp : Addr} {sheet : Value} {htw0 htw1 htw2 htw3 htw4 htw5 : Int} {ktw0 ktw1 ktw2 ktw3 ktw4 ktw5 : Tok} {hst0 hst1 hst2 hst3 : Int} {kst0 kst1 kst2 kst3 : Tok} {row place ctm font size : Value} {parr farr : Array Value} {pn fn : Nat} {osp : Obj} {tc tw tz tl ts : Value} {n : Nat} (hs : ∀ p ∈ z, p ∈ l)
    (hA : Ap7 tour dt pl fd st ds sp) (O : Off [tour, dt, pl, fd, st, ds, sp] l) (hr : IsM z row n) (ho : spD w osp tc tw tz tl ts) (h1 : IsD z tl 2) (hn : n ≤ 2000) :
    Fn w mean mg mb 571 44 [.ref tour] ([(tour, W.instObj 581 dt), (dt, W.dictOf [⟨htw0, .str (Str.ofString "sheet") ktw0, sheet⟩, ⟨htw1, .str (Str.ofString "state") ktw1, .ref st⟩, ⟨htw2, .str (Str.ofString "pile") ktw2, .ref pl⟩, ⟨htw3, .str (Str.ofString "row") ktw3, row⟩, ⟨htw4, .str (Str.ofString "place") ktw4, place⟩, ⟨htw5, .str (Str.ofString "found") ktw5, .ref fd⟩] 6), (pl, W.listOf parr pn), (fd, W.listOf farr fn), (st, W.instObj 497 ds), (ds, W.dictOf [⟨hst0, .str (Str.ofString "ctm") kst0, ctm⟩, ⟨hst1, .str (Str.ofString "font") kst1, font⟩, ⟨hst2, .str (Str.ofString "size") kst2, size⟩, ⟨hst3, .str (Str.ofString "spacing") kst3, .ref sp⟩] 4), (sp, osp)] ++ l)
      (TP [tour, dt, pl, fd, st, ds, sp] l z (fun M' z' r => r = .none ∧ ∃ row', M' = [(tour, W.instObj 581 dt), (dt, W.dictOf [⟨htw0, .str (Str.ofString "sheet") ktw0, sheet⟩, ⟨htw1, .str (Str.ofString "state") ktw1, .ref st⟩, ⟨htw2, .str (Str.ofString "pile") ktw2, .ref pl⟩, ⟨htw3, .str (Str.ofString "row") ktw3, row'⟩, ⟨htw4, .str (Str.ofString "place") ktw4, row'⟩, ⟨htw5, .str (Str.ofString "found") ktw5, .ref fd⟩] 6), (pl, W.listOf parr pn), (fd, W.listOf farr fn), (st, W.instObj 497 ds), (ds, W.dictOf [⟨hst0, .str (Str.ofString "ctm") kst0, ctm⟩, ⟨hst1, .str (Str.ofString "font") kst1, font⟩, ⟨hst2, .str (Str.ofString "size") kst2, size⟩, ⟨hst3, .str (Str.ofString "spacing") kst3, .ref sp⟩] 4), (sp, osp)] ∧ IsM z' row' (n + 4))) := by
  unfold Fn
  k_fill
  intro dp un gd cn cs aa ccd cl outer A₀ base h₀ L m s Q E B F X N T hk hdd hu hret
  simp only [List.cons_append, List.nil_append] at N
  obtain ⟨ar, rfl⟩ := hr.isRef
  obtain ⟨atl, rfl⟩ := h1.isRef
  have hA9 := hA
  obtain ⟨n1, n2, n3, n4, n5, n6, n7, n8, n9, n10, n11, n12, n13, n14, n15, n16, n17, n18, n19, n20, n21⟩ := hA9
  kqd_sub
  exact hret _ _ _ _ (by k_asm) (by k_asm) ⟨_, _, _, app7, by ktu_off1L, by with_reducible assumption, rfl, _, rfl, by kfm_turns⟩
theorem set_matrix_ok {w : World} {mean : ExcName → Option Value} {mg mb : Str → Option Value} {l z : Led} {tour dt pl fd st ds sp : Addr} {sheet : Value} {htw0 htw1 htw2 htw3 htw4 htw5 : Int} {ktw0 ktw1 ktw2 ktw3 ktw4 ktw5 : Tok} {hst0 hst1 hst2 hst3 : Int} {kst0 kst1 kst2 kst3 : Tok} {row place ctm font size : Value} {parr farr : Array Value} {pn fn : Nat} {osp : Obj} {v : Value} (hs : ∀ p ∈ z, p ∈ l)
    (hA : Ap7 tour dt pl fd st ds sp) (O : Off [tour, dt, pl, fd, st, ds, sp] l) :
    Fn w mean mg mb 578 4 [.ref tour, v] ([(tour, W.instObj 581 dt), (dt, W.dictOf [⟨htw0, .str (Str.ofString "sheet") ktw0, sheet⟩, ⟨htw1, .str (Str.ofString "state") ktw1, .ref st⟩, ⟨htw2, .str (Str.ofString "pile") ktw2, .ref pl⟩, ⟨htw3, .str (Str.ofString "row") ktw3, row⟩, ⟨htw4, .str (Str.ofString "place") ktw4, place⟩, ⟨htw5, .str (Str.ofString "found") ktw5, .ref fd⟩] 6), (pl, W.listOf parr pn), (fd, W.listOf farr fn), (st, W.instObj 497 ds), (ds, W.dictOf [⟨hst0, .str (Str.ofString "ctm") kst0, ctm⟩, ⟨hst1, .str (Str.ofString "font") kst1, font⟩, ⟨hst2, .str (Str.ofString "size") kst2, size⟩, ⟨hst3, .str (Str.ofString "spacing") kst3, .ref sp⟩] 4), (sp, osp)] ++ l)
      (TP [tour, dt, pl, fd, st, ds, sp] l z (fun M' z' r => r = .none ∧ M' = [(tour, W.instObj 581 dt), (dt, W.dictOf [⟨htw0, .str (Str.ofString "sheet") ktw0, sheet⟩, ⟨htw1, .str (Str.ofString "state") ktw1, .ref st⟩, ⟨htw2, .str (Str.ofString "pile") ktw2, .ref pl⟩, ⟨htw3, .str (Str.ofString "row") ktw3, v⟩, ⟨htw4, .str (Str.ofString "place") ktw4, v⟩, ⟨htw5, .str (Str.ofString "found") ktw5, .ref fd⟩] 6), (pl, W.listOf parr pn), (fd, W.listOf farr fn), (st, W.instObj 497 ds), (ds, W.dictOf [⟨hst0, .str (Str.ofString "ctm") kst0, ctm⟩, ⟨hst1, .str (Str.ofString "font") kst1, font⟩, ⟨hst2, .str (Str.ofString "size") kst2, size⟩, ⟨hst3, .str (Str.ofString "spacing") kst3, .ref sp⟩] 4), (sp, osp)])) := by
  unfold Fn
  k_fill
  intro dp un gd cn cs aa ccd cl outer A₀ base h₀ L m s Q E B F X N T hk hdd hu hret
  simp only [List.cons_append, List.nil_append] at N
  have hA9 := hA
  obtain ⟨n1, n2, n3, n4, n5, n6, n7, n8, n9, n10, n11, n12, n13, n14, n15, n16, n17, n18, n19, n20, n21⟩ := hA9
  kqd_sub
  exact hret _ _ _ _ (by k_asm) (by k_asm) ⟨_, _, _, app7, Ex.refl, by with_reducible assumption, rfl, rfl⟩
end
local macro_rules | `(tactic| walk_at "pad") => `(tactic| skip)
local macro_rules | `(tactic| walk_at "pad") => `(tactic| skip)
local macro_rules | `(tactic| walk_at "pad") => `(tactic| skip)
local macro_rules | `(tactic| walk_at "pad") => `(tactic| skip)
local macro_rules | `(tactic| walk_at "pad") => `(tactic| skip)

section
local macro_rules | `(tactic| walk_at "call ref") => `(tactic| (k_here; (with_reducible show wpAny _ _ (call (Value.ref _) _) _ _ _); (refine Stop.out ?_; walk_say "STOP")))
local macro_rules | `(tactic| walk_at "call ref") => `(tactic| (k_here; (with_reducible show wpAny _ _ (call (Value.ref 522) _) _ _ _); k_dflt ((refine' Fn.useM (M := [_, _, _, _, _, _, _]) ?N ?hs (shown_ok (sub_on ?hs) ?hx ?hds ?hsp ?ho ?hf ?h5 ?h1 ?h2 ?h3 ?h4 ?hc ?hp ?hb ?hn) ?B ?F ?X ?T ?kK ?kd ?ku ?O ?_); (case N => k_asm); (case hs => with_reducible assumption); kaf_suf; (case hx => k_mem); (case hds => k_mem); (case hsp => k_mem); (case ho => with_reducible assumption); (case hf => ktu_offI); (case h5 => kwd_rel); (case h1 => kwd_rel); (case h2 => kwd_rel); (case h3 => kwd_rel); (case h4 => kwd_rel); (case hc => kfm_turns); (case hp => kfm_turns); (case hb => with_reducible assumption); (case hn => omega); rintro r' l' z' h' tk' F' N' G' hz' hl' O' D'; (have hG' := Grow.of G')); (try simp only [List.cons_append, List.nil_append, List.map_cons, List.map_nil] at N' O'); (obtain ⟨x', d', g', ar', e', er', ht', hd', hn', hg'⟩ := IsShown.get D'); subst er'; (obtain ⟨y', eg'⟩ := IsD.isRef hg'); subst eg'; (try dsimp only); (try k_fold)))
local macro_rules | `(tactic| walk_at "call ref") => `(tactic| (k_here; (with_reducible show wpAny _ _ (call (Value.ref 515) _) _ _ _); k_dflt ((refine' Fn.useM (M := [_, _, _, _, _, _, _]) ?N ?hs (along_ok (sub_on ?hs) ?h1 ?h2 ?h3) ?B ?F ?X ?T ?kK ?kd ?ku ?O ?_); (case N => k_asm); (case hs => with_reducible assumption); kaf_suf; (case h1 => kfm_turns); (case h2 => kwd_rel); (case h3 => omega); rintro r' l' z' h' tk' F' N' G' hz' hl' O' D'; (have hG' := Grow.of G')); (try simp only [List.cons_append, List.nil_append, List.map_cons, List.map_nil] at N' O'); (obtain ⟨x', er'⟩ := IsM.isRef D'); subst er'; (try dsimp only); (try k_fold)))
local macro_rules | `(tactic| walk_at "call builtin:list.extend") => `(tactic| (k_here; (with_reducible show wpAny _ _ (call (Value.builtin _) [Value.ref _, Value.ref _]) _ _ _); k_dflt (refine' extend_any ?F ?N ?b ?U ?z ?_; (case F => k_asm); (case N => k_asm); (case b => k_mem); (case U => k_updF); (case z => omega)); intro h' its' n' hsz' F' N'; (try dsimp only at N'); (try k_sweep)))
theorem show_ok {w : World} {mean : ExcName → Option Value} {mg mb : Str → Option Value} {l z : Led} {tour dt pl fd st ds sp : Addr} {sheet : Value} {htw0 htw1 htw2 htw3 htw4 htw5 : Int} {ktw0 ktw1 ktw2 ktw3 ktw4 ktw5 : Tok} {hst0 hst1 hst2 hst3 : Int} {kst0 kst1 kst2 kst3 : Tok} {row place ctm font size : Value} {parr farr : Array Value} {pn fn : Nat} {osp : Obj} {tc tw tz tl ts : Value} {b : Array UInt8} {t : Tok} {nc np : Nat} (hs : ∀ p ∈ z, p ∈ l)
    (hA : Ap7 tour dt pl fd st ds sp) (O : Off [tour, dt, pl, fd, st, ds, sp] l) (ho : spD w osp tc tw tz tl ts) (hf : IsFont z font) (h5 : IsD z size 1) (h1 : IsD z tc 2) (h2 : IsD z tw 2) (h3 : IsD z tz 2) (h4 : IsD z ts 2)
    (hc : IsM z ctm nc) (hp : IsM z place np) (hb : b.size ≤ 2) (hn : np + nc ≤ 2000) (hz : farr.size ≤ 900) :
    Fn w mean mg mb 550 50 [.ref tour, .bytes b t] ([(tour, W.instObj 581 dt), (dt, W.dictOf [⟨htw0, .str (Str.ofString "sheet") ktw0, sheet⟩, ⟨htw1, .str (Str.ofString "state") ktw1, .ref st⟩, ⟨htw2, .str (Str.ofString "pile") ktw2, .ref pl⟩, ⟨htw3, .str (Str.ofString "row") ktw3, row⟩, ⟨htw4, .str (Str.ofString "place") ktw4, place⟩, ⟨htw5, .str (Str.ofString "found") ktw5, .ref fd⟩] 6), (pl, W.listOf parr pn), (fd, W.listOf farr fn), (st, W.instObj 497 ds), (ds, W.dictOf [⟨hst0, .str (Str.ofString "ctm") kst0, ctm⟩, ⟨hst1, .str (Str.ofString "font") kst1, font⟩, ⟨hst2, .str (Str.ofString "size") kst2, size⟩, ⟨hst3, .str (Str.ofString "spacing") kst3, .ref sp⟩] 4), (sp, osp)] ++ l)
      (TP [tour, dt, pl, fd, st, ds, sp] l z (fun M' z' r => r = .none ∧ ∃ place' farr' fn', M' = [(tour, W.instObj 581 dt), (dt, W.dictOf [⟨htw0, .str (Str.ofString "sheet") ktw0, sheet⟩, ⟨htw1, .str (Str.ofString "state") ktw1, .ref st⟩, ⟨htw2, .str (Str.ofString "pile") ktw2, .ref pl⟩, ⟨htw3, .str (Str.ofString "row") ktw3, row⟩, ⟨htw4, .str (Str.ofString "place") ktw4, place'⟩, ⟨htw5, .str (Str.ofString "found") ktw5, .ref fd⟩] 6), (pl, W.listOf parr pn), (fd, W.listOf farr' fn'), (st, W.instObj 497 ds), (ds, W.dictOf [⟨hst0, .str (Str.ofString "ctm") kst0, ctm⟩, ⟨hst1, .str (Str.ofString "font") kst1, font⟩, ⟨hst2, .str (Str.ofString "size") kst2, size⟩, ⟨hst3, .str (Str.ofString "spacing") kst3, .ref sp⟩] 4), (sp, osp)] ∧ IsM z' place' (np + 18) ∧ farr'.size = farr.size + b.size)) := by
  unfold Fn
  k_fill
  intro dp un gd cn cs aa ccd cl outer A₀ base h₀ L m s Q E B F X N T hk hdd hu hret
  simp only [List.cons_append, List.nil_append] at N
  obtain ⟨apl, rfl⟩ := hp.isRef
  obtain ⟨act, rfl⟩ := hc.isRef
  have hA9 := hA
  obtain ⟨n1, n2, n3, n4, n5, n6, n7, n8, n9, n10, n11, n12, n13, n14, n15, n16, n17, n18, n19, n20, n21⟩ := hA9
  kqd_sub
  exact hret _ _ _ _ (by k_asm) (by k_asm) ⟨_, _, _, app7, by ktu_off1L, by with_reducible assumption, rfl, _, _, _, rfl, by kfm_turns, by omega⟩
end
local macro_rules | `(tactic| walk_at "pad") => `(tactic| skip)
local macro_rules | `(tactic| walk_at "pad") => `(tactic| skip)
local macro_rules | `(tactic| walk_at "pad") => `(tactic| skip)
local macro_rules | `(tactic| walk_at "pad") => `(tactic| skip)
local macro_rules | `(tactic| walk_at "pad") => `(tactic| skip)

/-- a Name: A or B -/
inductive IsName (z : Led) : Value → Bool → Prop
  | mk {x dx : Addr} {h1 : Int} {k1 t1 : Tok} {ep : Nat} {b : Bool} (hx : (x, W.instObj 209 dx) ∈ z) (hdx : (dx, W.dictOf [⟨h1, .str (Str.ofString "text") k1, .str (if b then Str.ofString "A" else Str.ofString "B") t1⟩] ep) ∈ z) : IsName z (.ref x) b
/-- a String of k octets -/
inductive IsStr (z : Led) : Value → Nat → Prop
  | mk {x dx : Addr} {h1 h2 : Int} {k1 k2 t1 : Tok} {ep : Nat} {b : Array UInt8} {hex : Bool} (hx : (x, W.instObj 231 dx) ∈ z)
      (hdx : (dx, W.dictOf [⟨h1, .str (Str.ofString "octets") k1, .bytes b t1⟩, ⟨h2, .str (Str.ofString "is_hex") k2, .bool hex⟩] ep) ∈ z) (hb : b.size ≤ 2) : IsStr z (.ref x) b.size
theorem IsName.mono {l l' : Led} {v : Value} {b : Bool} (h : IsName l v b) (s : ∀ p ∈ l, p ∈ l') : IsName l' v b := by
  cases h with
  | mk hx hdx => exact .mk (s _ hx) (s _ hdx)
theorem IsStr.mono {l l' : Led} {v : Value} {b : Nat} (h : IsStr l v b) (s : ∀ p ∈ l, p ∈ l') : IsStr l' v b := by
  cases h with
  | mk hx hdx hb => exact .mk (s _ hx) (s _ hdx) hb
/-- the kinds of values met -/
inductive KindAt (z : Led) : Value → String → Prop
  | real {v : Value} {n : Nat} (h : IsD z v n) : KindAt z v "real"
  | int {i : Int} {t : Tok} : KindAt z (.int i t) "int"
  | name {v : Value} {b : Bool} (h : IsName z v b) : KindAt z v "name"
  | string {v : Value} {k : Nat} (h : IsStr z v k) : KindAt z v "string"
  | array {x : Addr} {arr : Array Value} {e : Nat} (h : (x, W.listOf arr e) ∈ z) : KindAt z (.ref x) "array"
  | truth {b : Bool} : KindAt z (.bool b) "truth"
theorem KindAt.mono {l l' : Led} {v : Value} {k : String} (h : KindAt l v k) (s : ∀ p ∈ l, p ∈ l') : KindAt l' v k := by
  cases h with
  | real h => exact .real (h.mono s)
  | int => exact .int
  | name h => exact .name (h.mono s)
  | string h => exact .string (h.mono s)
  | array h => exact .array (s _ h)
  | truth => exact .truth
section
local macro_rules | `(tactic| walk_at "call ref") => `(tactic| (k_here; (with_reducible show wpAny _ _ (call (Value.ref _) _) _ _ _); (refine Stop.out ?_; walk_say "STOP")))
theorem kind_ok {w : World} {mean : ExcName → Option Value} {mg mb : Str → Option Value} {l z : Led} {v : Value} {k : String} (hs : ∀ p ∈ z, p ∈ l) (h : KindAt z v k) :
    Fn w mean mg mb 291 4 [v] l (fun r l' => l' = l ∧ ∃ t', r = .str (Str.ofString k) t') := by
  unfold Fn
  k_fill
  intro dp un gd cn cs aa ccd cl outer A₀ base h₀ L m s Q E B F X N T hk hdd hu hret
  cases h with
  | real h =>
    cases h with
    | mk hx hdx hp hn hb =>
    kqd_sub
    exact hret _ _ _ _ (by k_asm) (by k_asm) ⟨rfl, _, rfl⟩
  | int =>
    kqd_sub
    exact hret _ _ _ _ (by k_asm) (by k_asm) ⟨rfl, _, rfl⟩
  | name h =>
    cases h with
    | mk hx hdx =>
    kqd_sub
    exact hret _ _ _ _ (by k_asm) (by k_asm) ⟨rfl, _, rfl⟩
  | string h =>
    cases h with
    | mk hx hdx hb =>
    kqd_sub
    exact hret _ _ _ _ (by k_asm) (by k_asm) ⟨rfl, _, rfl⟩
  | array h =>
    kqd_sub
    exact hret _ _ _ _ (by k_asm) (by k_asm) ⟨rfl, _, rfl⟩
  | truth =>
    kqd_sub
    exact hret _ _ _ _ (by k_asm) (by k_asm) ⟨rfl, _, rfl⟩
end
local macro_rules | `(tactic| walk_at "pad") => `(tactic| skip)
local macro_rules | `(tactic| walk_at "pad") => `(tactic| skip)

inductive Tag | n | m | s | a | t | x
  deriving DecidableEq
/-- an operand as the law sees it -/
inductive OpV | n | m (isA : Bool) | s (k : Nat) | a (ps : List (Option Nat)) | t | x
def OpV.tag : OpV → Tag | .n => .n | .m _ => .m | .s _ => .s | .a _ => .a | .t => .t | .x => .x
inductive PartsAt (z : Led) : List Value → List (Option Nat) → Prop
  | nil : PartsAt z [] []
  | num {v : Value} {vs : List Value} {ps : List (Option Nat)} (h : IsNum z v 1) (r : PartsAt z vs ps) : PartsAt z (v :: vs) (none :: ps)
  | str {v : Value} {k : Nat} {vs : List Value} {ps : List (Option Nat)} (h : IsStr z v k) (r : PartsAt z vs ps) : PartsAt z (v :: vs) (some k :: ps)
theorem PartsAt.mono {l l' : Led} (s : ∀ p ∈ l, p ∈ l') : ∀ {vs : List Value} {ps : List (Option Nat)}, PartsAt l vs ps → PartsAt l' vs ps
  | _, _, .nil => .nil
  | _, _, .num h r => .num (h.mono s) (r.mono s)
  | _, _, .str h r => .str (h.mono s) (r.mono s)
/-- the arrays that the law builds -/
def arrays : List (List (Option Nat)) := [[], [none], [some 1], [none, some 0], [some 2, none, some 1]]
inductive Opd (z : Led) : OpV → Value → Prop
  | num {v : Value} (h : IsNum z v 1) : Opd z .n v
  | nam {v : Value} {b : Bool} (h : IsName z v b) : Opd z (.m b) v
  | str {v : Value} {k : Nat} (h : IsStr z v k) : Opd z (.s k) v
  | arr {x : Addr} {arr : Array Value} {e : Nat} {ps : List (Option Nat)} (h : (x, W.listOf arr e) ∈ z) (hp : PartsAt z arr.toList ps) (hs : ps ∈ arrays) : Opd z (.a ps) (.ref x)
  | tru : Opd z .t (.bool true)
  | bad {x : Addr} {v : Value} {e : Nat} {b : Bool} (h : (x, W.listOf #[v] e) ∈ z) (hv : IsName z v b) : Opd z .x (.ref x)
theorem Opd.mono {l l' : Led} {o : OpV} {v : Value} (h : Opd l o v) (s : ∀ p ∈ l, p ∈ l') : Opd l' o v := by
  cases h with
  | num h => exact .num (h.mono s)
  | nam h => exact .nam (h.mono s)
  | str h => exact .str (h.mono s)
  | arr h hp hs => exact .arr (s _ h) (hp.mono s) hs
  | tru => exact .tru
  | bad h hv => exact .bad (s _ h) (hv.mono s)
def numKind (k : String) : Bool := [Str.ofString "int", Str.ofString "real"].any fun x => x == Str.ofString k
local macro_rules | `(tactic| kpf_close) => `(tactic| (first | with_reducible assumption | exact KindAt.int | exact KindAt.truth | fail "M kind"))
local macro_rules | `(tactic| walk_at "call ref") => `(tactic| (k_here; (with_reducible show wpAny _ _ (call (Value.ref 291) _) _ _ _); k_dflt (refine' Fn.use (kind_ok ?hs ?h1) ?B ?F ?X ?N ?T ?kK ?kd ?ku ?_); kaf_pre; (case h1 => kpf_close); (case hs => kpt_turns); rintro r' l' h' tk' F' N' ⟨e', t', er'⟩; subst e'; subst er'; (try dsimp only); (try k_fold)))
section
theorem isnum_ok {w : World} {mean : ExcName → Option Value} {mg mb : Str → Option Value} {l z : Led} {v : Value} {k : String} (hs : ∀ p ∈ z, p ∈ l) (h : KindAt z v k) :
    Fn w mean mg mb 298 6 [v] l (fun r l' => l' = l ∧ r = .bool (numKind k)) := by
  unfold Fn
  k_fill
  intro dp un gd cn cs aa ccd cl outer A₀ base h₀ L m s Q E B F X N T hk hdd hu hret
  kqd_sub
  have N₂ := News.tl (by k_asm)
  exact hret _ _ _ _ (by k_asm) N₂ ⟨rfl, rfl⟩
end
local macro_rules | `(tactic| walk_at "call ref") => `(tactic| (k_here; (with_reducible show wpAny _ _ (call (Value.ref 298) _) _ _ _); k_dflt (refine' Fn.use (isnum_ok ?hs ?h1) ?B ?F ?X ?N ?T ?kK ?kd ?ku ?_); kaf_pre; (case h1 => kpf_close); (case hs => kpt_turns); rintro r' l' h' tk' F' N' ⟨e', er'⟩; subst e'; subst er'; (try dsimp only); (try k_fold)))
def kindStr : Tag → Str
  | .n => Str.ofString "number"
  | .m => Str.ofString "name"
  | .s => Str.ofString "string"
  | .a => Str.ofString "shown"
  | .t => Str.ofString "truth"
  | .x => Str.ofString "none"
section
theorem fits_num_ok {w : World} {mean : ExcName → Option Value} {mg mb : Str → Option Value} {l z : Led} {v : Value} {k : String} {t : Tok} (hs : ∀ p ∈ z, p ∈ l) (h : KindAt z v k) :
    Fn w mean mg mb 415 8 [v, .str (Str.ofString "number") t] l (fun r l' => l' = l ∧ r = .bool (numKind k)) := by
  unfold Fn
  k_fill
  intro dp un gd cn cs aa ccd cl outer A₀ base h₀ L m s Q E B F X N T hk hdd hu hret
  kqd_sub
  exact hret _ _ _ _ (by k_asm) (by k_asm) ⟨rfl, rfl⟩
theorem fits_name_ok {w : World} {mean : ExcName → Option Value} {mg mb : Str → Option Value} {l z : Led} {v : Value} {k : String} {t : Tok} (hs : ∀ p ∈ z, p ∈ l) (h : KindAt z v k) :
    Fn w mean mg mb 415 8 [v, .str (Str.ofString "name") t] l (fun r l' => l' = l ∧ r = .bool (Str.ofString k == Str.ofString "name")) := by
  unfold Fn
  k_fill
  intro dp un gd cn cs aa ccd cl outer A₀ base h₀ L m s Q E B F X N T hk hdd hu hret
  kqd_sub
  exact hret _ _ _ _ (by k_asm) (by k_asm) ⟨rfl, rfl⟩
theorem fits_str_ok {w : World} {mean : ExcName → Option Value} {mg mb : Str → Option Value} {l z : Led} {v : Value} {k : String} {t : Tok} (hs : ∀ p ∈ z, p ∈ l) (h : KindAt z v k) :
    Fn w mean mg mb 415 8 [v, .str (Str.ofString "string") t] l (fun r l' => l' = l ∧ r = .bool (Str.ofString k == Str.ofString "string")) := by
  unfold Fn
  k_fill
  intro dp un gd cn cs aa ccd cl outer A₀ base h₀ L m s Q E B F X N T hk hdd hu hret
  kqd_sub
  exact hret _ _ _ _ (by k_asm) (by k_asm) ⟨rfl, rfl⟩
end

theorem PartsAt.kind {z : Led} {v : Value} (h : IsNum z v 1) : (∃ n, IsD z v n ∧ KindAt z v "real") ∨ (∃ i t, v = .int i t) := by
  cases h with
  | dec h => exact .inl ⟨_, h, .real h⟩
  | int h => exact .inr ⟨_, _, rfl⟩
def TestQ (prog : Program) (w : World) (A : Around) (h₀ : Heap) (L : Addr) (m : Str → Option Value) (s : Shared) (I : Addr) (oI : Obj) (C : Addr) (oC : Obj) (D : Addr) (oD : Obj) (S : Led → Prop) (news : Led) (elt : Expr) (env' : Env) (E' : Value → Shared → Prop) (J1 : Value → Prop) (J2 : Prop) (ok : Bool) (s' : Shared) : Prop :=
  if ok = true then wpAny (model prog w) A (eval elt env') (LCg.CompEnd h₀ L m s I oI C oC D oD S (fun y news' => news' = news ∧ J1 y)) E' s' else LCg.CompEnd h₀ L m s I oI C oC D oD S (fun _ news' => news' = news ∧ J2) .none s'
open LCg LCt in
theorem compT_read {prog : Program} {w : World} {A : Around} {h₀ : Heap} {L : Addr} {m : Str → Option Value} {env : Env} {ct elt : Expr} {x : Str} {scope : Scope} {cl : List (Str × Addr)} {s : Shared} {S : Led → Prop} {P : Nat → Value → Prop} {Fin : List Value → Led → Prop} {n : Nat} {news : Led}
    (J : Nat → List Value → Prop) (h0 : J 0 [])
    (step : ∀ i ys, J i ys → i < n → ∀ v I oI C oC D m₂ h tk (E' : Value → Shared → Prop), P i v → NsObj oC m₂ → m₂ x = some v → Fr h₀ L h m → News h₀ L h ((I, oI) :: (C, oC) :: (D, lst ys) :: news) → Off3 I C D news → ((@Ne Nat I C) ∧ (@Ne Nat I D) ∧ (@Ne Nat C D)) →
      wpAny (model prog w) A (isTrue ct (compEnvC scope cl C env) (eval ct (compEnvC scope cl C env))) (TestQ prog w A h₀ L m { s with heap := h, toks := tk } I oI C oC D (lst ys) S news elt (compEnvC scope cl C env) E' (fun y => J (i + 1) (ys ++ [y])) (J (i + 1) ys)) E' { s with heap := h, toks := tk })
    (fin : ∀ ys, J n ys → Fin ys news) : CompRestT prog w A h₀ L m env ct elt x scope cl s S P Fin n 0 [] news := by
  have go : ∀ k i ys, i + k = n → J i ys → CompRestT prog w A h₀ L m env ct elt x scope cl s S P Fin k i ys news := by
    intro k
    induction k with
    | zero => intro i ys e j; obtain rfl : i = n := e; exact fin ys j
    | succ k ih =>
      intro i ys e j
      refine CompRestT.succ fun v I oI C oC D m₂ h tk E' a b c d f g ne => wpAny_mono (step i ys j (by omega) v I oI C oC D m₂ h tk E' a b c d f g ne) (fun ok s' z => ?_) fun _ _ z => z
      unfold TestQ at z
      split at z
      · rename_i e'
        rw [if_pos e']
        refine wpAny_mono z (fun y s₃ z' => ?_) fun _ _ z => z
        obtain ⟨h', tk', news', r1, r2, r3, r4, r5, r6, r7⟩ := z'
        subst r6
        exact ⟨h', tk', _, r1, r2, r3, r4, r5, ih (i + 1) _ (by omega) r7⟩
      · rename_i e'
        rw [if_neg e']
        obtain ⟨h', tk', news', r1, r2, r3, r4, r5, r6, r7⟩ := z
        subst r6
        exact ⟨h', tk', _, r1, r2, r3, r4, r5, ih (i + 1) _ (by omega) r7⟩
  exact go n 0 [] (Nat.zero_add n) h0
theorem TestQ.no {prog : Program} {w : World} {A : Around} {h₀ : Heap} {L : Addr} {m : Str → Option Value} {s : Shared} {I : Addr} {oI : Obj} {C : Addr} {oC : Obj} {D : Addr} {oD : Obj} {S : Led → Prop} {news : Led} {elt : Expr} {env' : Env} {E' : Value → Shared → Prop} {J1 : Value → Prop} {J2 : Prop} {ok : Bool} {h2 : Heap} {tk : Nat} (e : ok = false)
    (F : Fr h₀ L h2 m) (N : News h₀ L h2 ((I, oI) :: (C, oC) :: (D, oD) :: news)) (off : LCg.Off3 I C D news) (hS : S news) (hJ : J2) : TestQ prog w A h₀ L m s I oI C oC D oD S news elt env' E' J1 J2 ok { s with heap := h2, toks := tk } := by
  unfold TestQ
  rw [if_neg (by rw [e]; decide)]
  exact compEnd_keep F N off hS ⟨rfl, hJ⟩
theorem TestQ.yes {prog : Program} {w : World} {A : Around} {h₀ : Heap} {L : Addr} {m : Str → Option Value} {s : Shared} {I : Addr} {oI : Obj} {C : Addr} {oC : Obj} {D : Addr} {oD : Obj} {S : Led → Prop} {news : Led} {elt : Expr} {env' : Env} {E' : Value → Shared → Prop} {J1 : Value → Prop} {J2 : Prop} {ok : Bool} {s' : Shared} (e : ok = true)
    (h : wpAny (model prog w) A (eval elt env') (LCg.CompEnd h₀ L m s I oI C oC D oD S (fun y news' => news' = news ∧ J1 y)) E' s') : TestQ prog w A h₀ L m s I oI C oC D oD S news elt env' E' J1 J2 ok s' := by
  unfold TestQ
  rw [if_pos e]
  exact h
section
theorem fits_no_ok {w : World} {mean : ExcName → Option Value} {mg mb : Str → Option Value} {l z : Led} {v : Value} {k : String} {t : Tok} (hs : ∀ p ∈ z, p ∈ l) (h : KindAt z v k) (hk9 : k ≠ "array") :
    Fn w mean mg mb 415 8 [v, .str (Str.ofString "shown") t] l (fun r l' => l' = l ∧ r = .bool false) := by
  unfold Fn
  k_fill
  intro dp un gd cn cs aa ccd cl outer A₀ base h₀ L m s Q E B F X N T hk hdd hu hret
  cases h with
  | array h => exact absurd rfl hk9
  | real h =>
    cases h with
    | mk hx hdx hp hn hb =>
    kqd_sub
    exact hret _ _ _ _ (by k_asm) (by k_asm) ⟨rfl, rfl⟩
  | int =>
    kqd_sub
    exact hret _ _ _ _ (by k_asm) (by k_asm) ⟨rfl, rfl⟩
  | name h =>
    cases h with
    | mk hx hdx =>
    kqd_sub
    exact hret _ _ _ _ (by k_asm) (by k_asm) ⟨rfl, rfl⟩
  | string h =>
    cases h with
    | mk hx hdx hb =>
    kqd_sub
    exact hret _ _ _ _ (by k_asm) (by k_asm) ⟨rfl, rfl⟩
  | truth =>
    kqd_sub
    exact hret _ _ _ _ (by k_asm) (by k_asm) ⟨rfl, rfl⟩
local macro_rules | `(tactic| walk_at "eval ListComp") => `(tactic| (k_here; refine Stop.out ?_; walk_say "STOP COMP"))
local macro_rules | `(tactic| walk_at "CompSrcT") => `(tactic| (k_here; refine Stop.out ?_; walk_say "STOP SRC"))
local macro_rules | `(tactic| walk_at "TestQ") => `(tactic| (k_here; refine Stop.out ?_; walk_say "STOP TEST"))
theorem fits_arr_ok {w : World} {mean : ExcName → Option Value} {mg mb : Str → Option Value} {l z : Led} {x : Addr} {arr : Array Value} {e : Nat} {t : Tok} (hs : ∀ p ∈ z, p ∈ l) (h : (x, W.listOf arr e) ∈ z) (hp : ∀ v ∈ arr, KindAt z v "real" ∨ KindAt z v "int" ∨ KindAt z v "string") (hsz : arr.size ≤ 10) :
    Fn w mean mg mb 415 12 [.ref x, .str (Str.ofString "shown") t] l (fun r l' => l' = l ∧ r = .bool true) := by
  unfold Fn
  k_fill
  intro dp un gd cn cs aa ccd cl outer A₀ base h₀ L m s Q E B F X N T hk hdd hu hret
  have hxl := hs _ h
  kqd_sub
  refine Stop.in ?_
  refine LCt.ListComp_T (by k_asm) (by rfl) (by decide) (by rfl) (by decide) (by rfl) ?_
  k_steps
  refine Stop.in ?_
  refine LCt.CompSrcT.ledger rfl (by k_asm) (by k_asm) hxl (by rw [sizeLine_eq]; omega) fun g => ?_
  refine compT_read (fun i ys => ys = []) rfl ?_ ?_
  · rintro i ys rfl hi v I oI C oC D m₂ h1 tk1 E' hv hC hx F1 N1 off ne
    have hpv := hp v (Array.mem_of_getElem? hv)
    have o3 := off3_off off
    rcases hpv with hkd | hkd | hkd
    all_goals
      k_steps
      refine Stop.in ?_
      refine TestQ.no (by decide) (by k_asm) (by k_asm) off (.inr ⟨_, hxl, rfl, _, rfl⟩) rfl
  rintro ys rfl D h1 tk1 F' N' o1
  (try dsimp only); (try k_fold)
  k_steps
  exact hret _ _ _ _ (by k_asm) (News.tl (News.tl (by k_asm))) ⟨rfl, rfl⟩
local macro_rules | `(tactic| walk_at "compareOp Eq ref ref") => `(tactic| (k_here; refine Stop.out ?_; walk_say "STOP EQ"))
theorem fits_bad_ok {w : World} {mean : ExcName → Option Value} {mg mb : Str → Option Value} {l z : Led} {x : Addr} {v : Value} {e : Nat} {t : Tok} (hs : ∀ p ∈ z, p ∈ l) (h : (x, W.listOf #[v] e) ∈ z) (hkd : KindAt z v "name") :
    Fn w mean mg mb 415 12 [.ref x, .str (Str.ofString "shown") t] l (fun r l' => l' = l ∧ r = .bool false) := by
  unfold Fn
  k_fill
  intro dp un gd cn cs aa ccd cl outer A₀ base h₀ L m s Q E B F X N T hk hdd hu hret
  have hxl := hs _ h
  kqd_sub
  refine Stop.in ?_
  refine LCt.ListComp_T (by k_asm) (by rfl) (by decide) (by rfl) (by decide) (by rfl) ?_
  k_steps
  refine Stop.in ?_
  refine LCt.CompSrcT.ledger rfl (by k_asm) (by k_asm) hxl (by rw [sizeLine_eq]; exact Nat.le_of_ble_eq_true rfl) fun g => ?_
  refine compT_read (fun i ys => ys = if i = 0 then [] else [v]) rfl ?_ ?_
  · rintro i ys rfl hi v9 I oI C oC D m₂ h1 tk1 E' hv hC hx F1 N1 off ne
    obtain rfl : i = 0 := Nat.lt_one_iff.mp hi
    obtain rfl : v9 = v := (Option.some.inj hv).symm
    have o3 := off3_off off
    k_steps
    refine Stop.in ?_
    refine TestQ.yes (by decide) ?_
    k_steps
    exact compEnd_keep (by k_asm) (by k_asm) off (.inr ⟨_, hxl, rfl, _, rfl⟩) ⟨rfl, rfl⟩
  rintro ys rfl D h1 tk1 F' N' o1
  (try dsimp only); (try k_fold)
  k_steps
  refine Stop.in ?_
  refine PySem.SeqAt.eq_list_lengthsAt (News.isArr (by k_asm) (by k_mem)) (News.isArr (by k_asm) (by k_mem)) (by rfl) (by k_units) ?_
  k_steps
  exact hret _ _ _ _ (by k_asm) (News.tl (News.tl (by k_asm))) ⟨rfl, rfl⟩
end
local macro_rules | `(tactic| walk_at "pad") => `(tactic| skip)
local macro_rules | `(tactic| walk_at "pad") => `(tactic| skip)
local macro_rules | `(tactic| walk_at "pad") => `(tactic| skip)
local macro_rules | `(tactic| walk_at "pad") => `(tactic| skip)
local macro_rules | `(tactic| walk_at "pad") => `(tactic| skip)

theorem rng_size (n : Nat) : Builtin.Range.rangeSize 0 (n : Int) 1 = ((n : Nat) : Int) := by
  unfold Builtin.Range.rangeSize
  rw [if_pos (by decide)]
  split
  · omega
  · omega
theorem rng_fits {x : Int} (a : 0 ≤ x) (b : x ≤ 2000) : Builtin.Range.rangeFitsLong x = true := by
  unfold Builtin.Range.rangeFitsLong
  rw [Bool.and_eq_true, decide_eq_true_eq, decide_eq_true_eq]
  constructor <;> omega
theorem rng_small {n : Nat} (h : n ≤ 1000) : Builtin.Range.small 0 (n : Int) 1 = true := by
  unfold Builtin.Range.small
  rw [rng_size, if_pos (by decide), rng_fits (x := 0) (by decide) (by decide), rng_fits (x := n) (by omega) (by omega), rng_fits (x := 1) (by decide) (by decide), rng_fits (x := (n : Int) + (1 - 1)) (by omega) (by omega), Bool.or_true]
  rfl
def TurnR (h₀ : Heap) (L : Addr) (s₁ : Shared) (I : Addr) (oI : Obj) (J : (Str → Option Value) → Led → Prop) (Q : Flow → Shared → Prop) (f : Flow) (s₃ : Shared) : Prop := match f with
  | .next | .cont => ∃ h' tk m' news', s₃ = { s₁ with heap := h', toks := tk } ∧ Fr h₀ L h' m' ∧ News h₀ L h' ((I, oI) :: news') ∧ (∀ p ∈ news', p.1 ≠ I) ∧ J m' news'
  | .brk => Q .next s₃
  | .ret v => Q (.ret v) s₃
theorem TurnR.nxt {h₀ : Heap} {L : Addr} {s₁ : Shared} {I : Addr} {oI : Obj} {J : (Str → Option Value) → Led → Prop} {Q : Flow → Shared → Prop} {h' : Heap} {tk : Nat} {m' : Str → Option Value} {all : Led} (news' : Led)
    (F : Fr h₀ L h' m') (N : News h₀ L h' all) (sub : ∀ p ∈ (I, oI) :: news', p ∈ all) (off : ∀ p ∈ news', p.1 ≠ I) (hJ : J m' news') : TurnR h₀ L s₁ I oI J Q .next { s₁ with heap := h', toks := tk } :=
  ⟨h', tk, m', news', rfl, F, fun p hp => N p (sub p hp), off, hJ⟩
def RngSrc (prog : Program) (w : World) (A : Around) (E : Value → Shared → Prop) (env : Env) (h₀ : Heap) (Q : Flow → Shared → Prop) (target : Expr) (body : List Stmt) (xv : Value) (s₁ : Shared) : Prop :=
  ∃ (r : Addr) (n : Nat) (t u v : Tok) (news : Led) (m : Str → Option Value) (J : Nat → (Str → Option Value) → Led → Prop), xv = .ref r ∧ A.handled = none ∧ Fr h₀ env.locals s₁.heap m ∧ News h₀ env.locals s₁.heap news ∧ IsRange s₁.heap r 0 (n : Int) 1 t u v ∧ n ≤ 1000 ∧ J 0 m news ∧
      (∀ (i : Nat) (t' : Tok) I oI m₁ news₁ h tk, i < n → J i m₁ news₁ → Fr h₀ env.locals h m₁ → News h₀ env.locals h ((I, oI) :: news₁) → (∀ p ∈ news₁, p.1 ≠ I) →
        wpAny (model prog w) A (assign target env (.int (i : Int) t')) (fun _ s₂ => wpAny (model prog w) A (execs body env) (TurnR h₀ env.locals { s₁ with heap := h, toks := tk } I oI (J (i + 1)) Q) E s₂) E { s₁ with heap := h, toks := tk }) ∧
      (∀ h tk m' news', Fr h₀ env.locals h m' → News h₀ env.locals h news' → J n m' news' → Q .next { s₁ with heap := h, toks := tk })
theorem RngSrc.of {prog : Program} {w : World} {A : Around} {E : Value → Shared → Prop} {env : Env} {h₀ : Heap} {Q : Flow → Shared → Prop} {target : Expr} {body : List Stmt} {s₁ : Shared} {r : Addr} {n : Nat} {t u v : Tok} {news : Led} {m : Str → Option Value}
    (J : (Str → Option Value) → Led → Nat → (Str → Option Value) → Led → Prop) (hh : A.handled = none) (F : Fr h₀ env.locals s₁.heap m) (N : News h₀ env.locals s₁.heap news) (hr : IsRange s₁.heap r 0 (n : Int) 1 t u v) (hn : n ≤ 1000) (h0 : J m news 0 m news)
    (step : ∀ (i : Nat) (t' : Tok) I oI m₁ news₁ h tk, i < n → J m news i m₁ news₁ → Fr h₀ env.locals h m₁ → News h₀ env.locals h ((I, oI) :: news₁) → (∀ p ∈ news₁, p.1 ≠ I) →
        wpAny (model prog w) A (assign target env (.int (i : Int) t')) (fun _ s₂ => wpAny (model prog w) A (execs body env) (TurnR h₀ env.locals { s₁ with heap := h, toks := tk } I oI (J m news (i + 1)) Q) E s₂) E { s₁ with heap := h, toks := tk })
    (done : ∀ h tk m' news', Fr h₀ env.locals h m' → News h₀ env.locals h news' → J m news n m' news' → Q .next { s₁ with heap := h, toks := tk }) :
    RngSrc prog w A E env h₀ Q target body (.ref r) s₁ := ⟨r, n, t, u, v, news, m, J m news, rfl, hh, F, N, hr, hn, h0, step, done⟩
theorem For_rng {prog : Program} {w : World} {A : Around} {E : Value → Shared → Prop} {s : Shared} {env : Env} {h₀ : Heap} {Q : Flow → Shared → Prop} {x : Str} {px : Pos} {iter : Expr} {pos : Pos} {body : List Stmt} {m₀ : Str → Option Value} (F₀ : Fr h₀ env.locals s.heap m₀)
    (h : wpAny (model prog w) A (eval iter env) (RngSrc prog w A E env h₀ Q (.Name x px) body) E s)
    (hs : ∀ x, foldedSetIterable iter env x = pure x := by intro _; rfl) (hE : PassesOwn (model prog w) A env E := by passes_own) :
    wpAny (model prog w) A (exec (.For (.Name x px) iter body [] pos) env) Q E s := by
  refine wpAny_For (wpAny_mono h (fun xv s₁ h₁ => ?_) fun _ _ e => e) hs
  obtain ⟨r, n, t, u, v, news, m, J, rfl, hh, F, N, hr, hn, h0, step, done⟩ := h₁
  refine wpAny_pyIter_range hr (rng_small hn) ?_
  generalize hI : s₁.heap.objs.size = I
  have up : ∀ b o, s₁.heap.get? b = some o → (s₁.heap.push { cls := .type "range_iterator", data := .fields #[rawInt 0, rawInt (Builtin.Range.rangeSize 0 (n : Int) 1), rawInt 1] }).get? b = some o := fun b o e => Heap.get?_push_of_some _ e
  have hLI : env.locals ≠ I := hI ▸ Nat.ne_of_lt F.ns.lt
  have hI₀ : h₀.get? I = none := hI ▸ next_is_new F
  have W := LCg.range_walks (prog := prog) (w := w) (A := A) (I := I) hh 0 n
  refine codeAny_forLoop_any (fun k s' => ∃ h' tk m' news' i, s' = { s₁ with heap := h', toks := tk } ∧ IsRangeIter h' I (0 + (i : Nat) * 1) ((n : Int) - (i : Nat)) 1 ∧ Fr h₀ env.locals h' m' ∧ News h₀ env.locals h' news' ∧ (∀ p ∈ news', p.1 ≠ I) ∧ J i m' news' ∧ i ≤ n ∧ k = n + 1 - i) ?_ (n + 1)
    ⟨_, s₁.toks, m, news, 0, rfl, (by rw [rng_size]; show IsRangeIter _ _ _ _ _; simpa using hI ▸ Heap.get?_push_size _ rfl), F.keeps up, N.grown up, fun p hp => hI ▸ Nat.ne_of_lt (Heap.lt_size (N p hp).1), h0, Nat.zero_le _, rfl⟩
  rintro k s' ⟨h', tk, m', news', i, rfl, hst', F', N', off', hJ, hi, rfl⟩
  by_cases hlt' : i < n
  · refine W.item i _ _ _ hlt' hst' fun v h₁ tk₁ hP hst₁ hk₁ => ?_
    obtain ⟨t', rfl⟩ := hP
    rw [Int.zero_add]
    obtain ⟨oI, hoI⟩ : ∃ oI : Obj, h₁.get? I = some oI := ⟨_, hst₁⟩
    have eoI := hoI.symm.trans hst₁
    have F₁ : Fr h₀ env.locals h₁ m' := LCg.fr_but F' hk₁ hLI hI₀
    have N₁ : News h₀ env.locals h₁ news' := LCg.news_but N' hk₁ off'
    refine wpAny_pure ?_
    refine wpAny_mono (step i t' I oI m' news' h₁ tk₁ hlt' hJ F₁ (fun p hp => (List.mem_cons.mp hp).elim (fun q => q ▸ ⟨hoI, Ne.symm hLI, hI₀⟩) (N₁ p)) off') (fun _ s₂ h₂ => wpAny_passesOwn hE (wpAny_mono h₂ (fun f s₃ h₃ => ?_) fun _ _ e => e)) hE
    have nxt : (∃ h' tk m' news', s₃ = { s₁ with heap := h', toks := tk } ∧ Fr h₀ env.locals h' m' ∧ News h₀ env.locals h' ((I, oI) :: news') ∧ (∀ p ∈ news', p.1 ≠ I) ∧ J (i + 1) m' news') →
        ∃ m, m < n + 1 - i ∧ ∃ h' tk m' news' i, s₃ = { s₁ with heap := h', toks := tk } ∧ IsRangeIter h' I (0 + (i : Nat) * 1) ((n : Int) - (i : Nat)) 1 ∧ Fr h₀ env.locals h' m' ∧ News h₀ env.locals h' news' ∧ (∀ p ∈ news', p.1 ≠ I) ∧ J i m' news' ∧ i ≤ n ∧ m = n + 1 - i := by
      rintro ⟨h₄, tk₄, m₄, news₄, rfl, F₄, N₄, off₄, J₄⟩
      have N₄' : News h₀ env.locals h₄ news₄ := fun p hp => N₄ p (.tail _ hp)
      exact ⟨n + 1 - (i + 1), by omega, h₄, tk₄, m₄, news₄, i + 1, rfl, (N₄ _ (.head _)).1.trans eoI, F₄, N₄', off₄, J₄, hlt', rfl⟩
    cases f with
    | next => exact nxt h₃
    | cont => exact nxt h₃
    | brk => exact h₃
    | ret v => exact h₃
  · obtain rfl : i = n := by omega
    refine W.done _ _ _ hst' fun h₁ tk₁ hk₁ => wpAny_execs_nil ?_
    exact done h₁ tk₁ m' news' (LCg.fr_but F' hk₁ hLI hI₀) (LCg.news_but N' hk₁ off') hJ
theorem Fn.more {w : World} {mean : ExcName → Option Value} {mg mb : Str → Option Value} {f : Addr} {k k' : Nat} {vs : List Value} {news : Led} {Post : Value → Led → Prop} (C : Fn w mean mg mb f k vs news Post) (h : k ≤ k') : Fn w mean mg mb f k' vs news Post :=
  fun _ _ _ _ _ _ _ _ _ _ _ _ _ _ _ _ _ B F X N T hk hd hu ret => C _ _ _ _ _ _ _ _ _ _ _ _ _ _ _ _ _ B F X N T hk (by omega) (by omega) ret
theorem Fn.post {w : World} {mean : ExcName → Option Value} {mg mb : Str → Option Value} {f : Addr} {k : Nat} {vs : List Value} {news : Led} {P P' : Value → Led → Prop} (C : Fn w mean mg mb f k vs news P) (h : ∀ r l, P r l → P' r l) : Fn w mean mg mb f k vs news P' :=
  fun _ _ _ _ _ _ _ _ _ _ _ _ _ _ _ _ _ B F X N T hk hd hu ret => C _ _ _ _ _ _ _ _ _ _ _ _ _ _ _ _ _ B F X N T hk hd hu fun r l h' tk F' N' p => ret r l h' tk F' N' (h r l p)
theorem IsNum.kind {z : Led} {v : Value} {n : Nat} (h : IsNum z v n) : KindAt z v "real" ∨ KindAt z v "int" := by
  cases h with
  | dec h => exact .inl (.real h)
  | int h => exact .inr .int
theorem PartsAt.kinds {z : Led} : ∀ {vs : List Value} {ps : List (Option Nat)}, PartsAt z vs ps → ∀ v ∈ vs, KindAt z v "real" ∨ KindAt z v "int" ∨ KindAt z v "string"
  | _, _, .nil => fun _ h => nomatch h
  | _, _, .num h r => fun v hv => by
    rcases List.mem_cons.mp hv with rfl | hv
    · rcases h.kind with h | h
      · exact .inl h
      · exact .inr (.inl h)
    · exact r.kinds v hv
  | _, _, .str h r => fun v hv => by
    rcases List.mem_cons.mp hv with rfl | hv
    · exact .inr (.inr (.string h))
    · exact r.kinds v hv
theorem PartsAt.len {z : Led} : ∀ {vs : List Value} {ps : List (Option Nat)}, PartsAt z vs ps → vs.length = ps.length
  | _, _, .nil => rfl
  | _, _, .num _ r => congrArg (· + 1) r.len
  | _, _, .str _ r => congrArg (· + 1) r.len
theorem arrays_len {ps : List (Option Nat)} (h : ps ∈ arrays) : ps.length ≤ 3 := by
  simp only [arrays, List.mem_cons, List.not_mem_nil, or_false] at h
  rcases h with rfl | rfl | rfl | rfl | rfl <;> decide
theorem fits_ok {w : World} {mean : ExcName → Option Value} {mg mb : Str → Option Value} {l z : Led} {v : Value} {o : OpV} {tg : Tag} {t : Tok} (hs : ∀ p ∈ z, p ∈ l) (h : Opd z o v) (htg : tg ∈ [Tag.n, Tag.m, Tag.s, Tag.a]) :
    Fn w mean mg mb 415 12 [v, .str (kindStr tg) t] l (fun r l' => l' = l ∧ r = .bool (decide (o.tag = tg))) := by
  have plain : ∀ k, KindAt z v k → numKind k = decide (o.tag = .n) → (Str.ofString k == Str.ofString "name") = decide (o.tag = .m) → (Str.ofString k == Str.ofString "string") = decide (o.tag = .s) → k ≠ "array" → o.tag ≠ .a →
      Fn w mean mg mb 415 12 [v, .str (kindStr tg) t] l (fun r l' => l' = l ∧ r = .bool (decide (o.tag = tg))) := by
    intro k hk e1 e2 e3 e4 e5
    simp only [List.mem_cons, List.not_mem_nil, or_false] at htg
    rcases htg with rfl | rfl | rfl | rfl
    · exact (Fn.more (fits_num_ok hs hk) (by decide)).post fun r l h => ⟨h.1, by rw [h.2, e1]⟩
    · exact (Fn.more (fits_name_ok hs hk) (by decide)).post fun r l h => ⟨h.1, by rw [h.2, e2]⟩
    · exact (Fn.more (fits_str_ok hs hk) (by decide)).post fun r l h => ⟨h.1, by rw [h.2, e3]⟩
    · exact (Fn.more (fits_no_ok hs hk e4) (by decide)).post fun r l h => ⟨h.1, by rw [h.2, decide_eq_false e5]⟩
  have other : KindAt z v "array" → o.tag ≠ .n → o.tag ≠ .m → o.tag ≠ .s → Fn w mean mg mb 415 12 [v, .str (kindStr .a) t] l (fun r l' => l' = l ∧ r = .bool (decide (o.tag = .a))) →
      Fn w mean mg mb 415 12 [v, .str (kindStr tg) t] l (fun r l' => l' = l ∧ r = .bool (decide (o.tag = tg))) := by
    intro hk e1 e2 e3 ha
    simp only [List.mem_cons, List.not_mem_nil, or_false] at htg
    rcases htg with rfl | rfl | rfl | rfl
    · exact (Fn.more (fits_num_ok hs hk) (by decide)).post fun r l h => ⟨h.1, by rw [h.2, decide_eq_false e1]; exact congrArg Value.bool (by decide +kernel)⟩
    · exact (Fn.more (fits_name_ok hs hk) (by decide)).post fun r l h => ⟨h.1, by rw [h.2, decide_eq_false e2]; exact congrArg Value.bool (by decide +kernel)⟩
    · exact (Fn.more (fits_str_ok hs hk) (by decide)).post fun r l h => ⟨h.1, by rw [h.2, decide_eq_false e3]; exact congrArg Value.bool (by decide +kernel)⟩
    · exact ha
  cases h with
  | num h =>
    rcases h.kind with h | h
    · exact plain _ h (by decide +kernel) (by decide +kernel) (by decide +kernel) (by decide) (by decide)
    · exact plain _ h (by decide +kernel) (by decide +kernel) (by decide +kernel) (by decide) (by decide)
  | nam h => exact plain _ (.name h) (by show _ = false; decide +kernel) (by show _ = true; decide +kernel) (by show _ = false; decide +kernel) (by decide) (fun q => nomatch q)
  | str h => exact plain _ (.string h) (by show _ = false; decide +kernel) (by show _ = false; decide +kernel) (by show _ = true; decide +kernel) (by decide) (fun q => nomatch q)
  | tru => exact plain _ .truth (by decide +kernel) (by decide +kernel) (by decide +kernel) (by decide) (by decide)
  | arr h hp hsz =>
    refine other (.array h) (fun q => nomatch q) (fun q => nomatch q) (fun q => nomatch q) ?_
    exact (fits_arr_ok hs h (fun v hv => hp.kinds v (by simpa using hv)) (by rw [← Array.length_toList, hp.len]; exact Nat.le_trans (arrays_len hsz) (by decide))).post fun r l h => ⟨h.1, h.2⟩
  | bad h hv =>
    refine other (.array h) (by decide) (by decide) (by decide) ?_
    exact (fits_bad_ok hs h (.name hv)).post fun r l h => ⟨h.1, h.2⟩

theorem noFill_tuple_mul : fillsNumberSlot (.type "tuple") "mul" = pure false :=
  PySem.fillsNumberSlot_seq (id := "tuple.__mul__") (r := some (.builtin "tuple.__rmul__")) PySem.F.slot_tuple_mul.lookup (by decide +kernel) PySem.F.slot_tuple_rmul.lookup (by decide +kernel)
theorem repeat_tuple : seqRepeat? (.type "tuple") = pure (some (.builtin "tuple.__mul__")) := by
  unfold seqRepeat?
  rw [PySem.seqSlot_of (T := "tuple") (name := "__mul__") (id := "tuple.__mul__") PySem.F.slot_tuple_mul.lookup (by decide +kernel), PySem.seqSlot_of (T := "tuple") (name := "__rmul__") (id := "tuple.__rmul__") PySem.F.slot_tuple_rmul.lookup (by decide +kernel)]
  rfl
theorem rmul_int_tuple (a : Int) (t : Tok) (l : Addr) (items : Array Value) :
    Meets (Builtin.«int.__rmul__» ⟨[.int a t, .ref l], []⟩) (fun _ R s => s.heap.get? l = some { cls := .type "tuple", data := .seq items } ∧ R (.ok (.ret Value.notImplemented)) s) :=
  .of_wp fun prog w A R s h => by obtain ⟨hp, g, d, tk, os⟩ := s; obtain ⟨hl, h⟩ := h; wp_walk; exact ⟨_, rfl, h⟩
theorem mul_tuple_int (l : Addr) (v : Value) (x : Int) (u : Tok) (h0 : 2 ≤ x) (h1 : x ≤ 10) :
    Meets (Builtin.«tuple.__mul__» ⟨[.ref l, .int x u], []⟩) (fun _ R s => s.heap.get? l = some { cls := .type "tuple", data := .seq #[v] } ∧ R (.ok (.ret (Value.ref s.heap.objs.size))) { s with heap := s.heap.push { cls := Value.type "tuple", data := Data.seq (List.foldl (fun x1 x2 => x1 ++ x2) #[] (List.replicate x.toNat #[v])) } }) :=
  .of_wp fun prog w A R s h => by
    obtain ⟨hp, g, d, tk, os⟩ := s; obtain ⟨hl, h⟩ := h
    have c1 : (decide (x < -(2 ^ 63)) || decide (x ≥ 2 ^ 63)) = false := by rw [Bool.or_eq_false_iff]; exact ⟨decide_eq_false (by omega), decide_eq_false (by omega)⟩
    have c2 : (x == 1) = false := by rw [beq_eq_false_iff_ne]; omega
    have c3 : ¬ x ≤ 0 := by omega
    have c4 : ¬ ((↑(#[v] : Array Value).size : Int) * x > (2 ^ 63 - 1) / 8) := by rw [show ((#[v] : Array Value).size : Int) = 1 from rfl]; omega
    have c5 : ¬ (Builtin.Tuple.tupleTooMany (↑(#[v] : Array Value).size * x) = true) := by
      rw [show ((#[v] : Array Value).size : Int) = 1 from rfl]
      unfold Builtin.Tuple.tupleTooMany
      rw [decide_eq_true_eq, sizeLine_eq]
      omega
    wp_walk
    rw [if_neg (by rw [c1]; decide)]
    wp_walk
    rw [if_neg c4]
    wp_walk
    rw [if_neg c5]
    wp_walk
    refine wpAny_ite_false (decide_eq_false (Nat.not_lt.mpr ?_)) ?_
    · show (List.foldl (fun x1 x2 => x1 ++ x2) #[] (List.replicate x.toNat (#[v] : Array Value))).size ≤ sizeLine
      rw [PySem.AutoListH.size_joined, sizeLine_eq]
      simp
      omega
    wp_walk
    exact ⟨_, rfl, h⟩
theorem mul_tup {prog : Program} {w : World} {A : Around} {E : Value → Shared → Prop} {s : Shared} {h₀ : Heap} {L l : Addr} {m : Str → Option Value} {news : Led} {v : Value} {x : Int} {u : Tok} {Q : Value → Shared → Prop} (F : Fr h₀ L s.heap m) (N : News h₀ L s.heap news)
    (hl : (l, ({ cls := .type "tuple", data := .seq #[v] } : Obj)) ∈ news) (h0 : 2 ≤ x) (h1 : x ≤ 10)
    (h : ∀ D h', Fr h₀ L h' m → News h₀ L h' ((D, ({ cls := .type "tuple", data := .seq (List.foldl (fun x1 x2 => x1 ++ x2) #[] (List.replicate x.toNat #[v])) } : Obj)) :: news) → (∀ p ∈ news, p.1 < D) → Q (.ref D) { s with heap := h' }) :
    wpAny (model prog w) A (binaryOp .Mult (.ref l) (.int x u)) Q E s :=
  wpAny_binaryOp_repeat_ref (T := "tuple") (U := "int") (by decide) ⟨_, (N _ hl).1, rfl⟩ (fun s' => typeIs_int s' x u) noFill_tuple_mul PySem.F.fills_int_mul PySem.F.slot_int_rmul repeat_tuple PySem.F.slot_int_index.lookup
    (call_meets PySem.F.slot_int_rmul (typeIs_int s x u) PySem.F.entry_int_rmul (PySem.F.args_int_rmul_2 _ _) (rmul_int_tuple x u l #[v])
      ⟨(N _ hl).1, rfl, ⟨_, (N _ hl).1, rfl⟩, call_meets PySem.F.slot_tuple_mul ⟨_, (N _ hl).1, rfl⟩ PySem.F.entry_tuple_mul (PySem.F.args_tuple_mul_2 _ _) (mul_tuple_int l v x u h0 h1)
        ⟨(N _ hl).1, h _ _ (F.push _) (News.push F N _) (fun p hp => Heap.lt_size (N p hp).1)⟩⟩)

abbrev tupA (its : Array Value) : Obj := { cls := .type "tuple", data := .seq its }
theorem tup_of {h₀ h : Heap} {L ax : Addr} {its : Array Value} {news : Led} (N : News h₀ L h news) (hm : (ax, tupA its) ∈ news) : h.IsTuple ax its := ⟨_, (N _ hm).1, rfl, _, rfl⟩
theorem go_nameU {x : Str} {p : Pos} {I : Addr} {v : Value} {M : Model} {A : Around} {E : Value → Shared → Prop} {s : Shared} {Q : Unit → Shared → Prop} (h : Q () s) : wpAny M A (letOwnedTupleGo (.Name x p) (.ref I) v) Q E s := wpAny_pure h
/-- the end of a turn -/
def TurnU (h₀ : Heap) (L : Addr) (s₁ : Shared) (I : Addr) (oI : Obj) (ax : Addr) (its : Array Value) (J : (Str → Option Value) → Led → Prop) (Q : Flow → Shared → Prop) (f : Flow) (s₃ : Shared) : Prop := match f with
  | .next | .cont => ∃ h' tk m' news', s₃ = { s₁ with heap := h', toks := tk } ∧ Fr h₀ L h' m' ∧ News h₀ L h' ((I, oI) :: news') ∧ (∀ p ∈ news', p.1 ≠ I) ∧ (ax, tupA its) ∈ news' ∧ J m' news'
  | .brk => Q .next s₃
  | .ret v => Q (.ret v) s₃
theorem TurnU.nxt {h₀ : Heap} {L : Addr} {s₁ : Shared} {I : Addr} {oI : Obj} {ax : Addr} {its : Array Value} {J : (Str → Option Value) → Led → Prop} {Q : Flow → Shared → Prop} {h' : Heap} {tk : Nat} {m' : Str → Option Value} {all : Led} (news' : Led)
    (F : Fr h₀ L h' m') (N : News h₀ L h' all) (sub : ∀ p ∈ (I, oI) :: news', p ∈ all) (off : ∀ p ∈ news', p.1 ≠ I) (hS : (ax, tupA its) ∈ news') (hJ : J m' news') : TurnU h₀ L s₁ I oI ax its J Q .next { s₁ with heap := h', toks := tk } :=
  ⟨h', tk, m', news', rfl, F, fun p hp => N p (sub p hp), off, hS, hJ⟩
def TupSrc (prog : Program) (w : World) (A : Around) (E : Value → Shared → Prop) (env : Env) (h₀ : Heap) (Q : Flow → Shared → Prop) (target : Expr) (body : List Stmt) (xv : Value) (s₁ : Shared) : Prop :=
  ∃ (ax : Addr) (its : Array Value) (news : Led) (m : Str → Option Value) (J : Nat → (Str → Option Value) → Led → Prop), xv = .ref ax ∧ A.handled = none ∧ Fr h₀ env.locals s₁.heap m ∧ News h₀ env.locals s₁.heap news ∧ (ax, tupA its) ∈ news ∧ J 0 m news ∧
      (∀ i v I oI m₁ news₁ h tk, i < its.size → its[i]? = some v → J i m₁ news₁ → Fr h₀ env.locals h m₁ → News h₀ env.locals h ((I, oI) :: news₁) → (∀ p ∈ news₁, p.1 ≠ I) → (ax, tupA its) ∈ news₁ →
        wpAny (model prog w) A (assign target env v) (fun _ s₂ => wpAny (model prog w) A (execs body env) (TurnU h₀ env.locals { s₁ with heap := h, toks := tk } I oI ax its (J (i + 1)) Q) E s₂) E { s₁ with heap := h, toks := tk }) ∧
      (∀ h tk m' news', Fr h₀ env.locals h m' → News h₀ env.locals h news' → J its.size m' news' → Q .next { s₁ with heap := h, toks := tk })
theorem For_tup {prog : Program} {w : World} {A : Around} {E : Value → Shared → Prop} {s : Shared} {env : Env} {h₀ : Heap} {Q : Flow → Shared → Prop} {target iter : Expr} {pos : Pos} {body : List Stmt} {m₀ : Str → Option Value} (F₀ : Fr h₀ env.locals s.heap m₀)
    (hgo : ∀ (I : Addr) (v : Value) (s' : Shared) (Q' : Unit → Shared → Prop) (E' : Value → Shared → Prop), Q' () s' → wpAny (model prog w) A (letOwnedTupleGo target (.ref I) v) Q' E' s')
    (h : wpAny (model prog w) A (eval iter env) (TupSrc prog w A E env h₀ Q target body) E s)
    (hs : ∀ x, foldedSetIterable iter env x = pure x := by intro _; rfl) (hE : PassesOwn (model prog w) A env E := by passes_own) :
    wpAny (model prog w) A (exec (.For target iter body [] pos) env) Q E s := by
  refine wpAny_For (wpAny_mono h (fun xv s₁ h₁ => ?_) fun _ _ e => e) hs
  obtain ⟨ax, its, news, m, J, rfl, hh, F, N, S, h0, step, done⟩ := h₁
  have hl := tup_of N S
  have hlt : ax < s₁.heap.objs.size := by obtain ⟨_, e, _⟩ := hl; exact Heap.lt_size e
  refine wpAny_pyIter_tuple hl ?_
  generalize hI : s₁.heap.objs.size = I
  have up : ∀ b o, s₁.heap.get? b = some o → (s₁.heap.push { cls := .type "tuple_iterator", data := .fields #[.ref ax, .int 0 0] }).get? b = some o := fun b o e => Heap.get?_push_of_some _ e
  have hLI : env.locals ≠ I := hI ▸ Nat.ne_of_lt F.ns.lt
  have hI₀ : h₀.get? I = none := hI ▸ next_is_new F
  have hax : ax ≠ I := hI ▸ Nat.ne_of_lt hlt
  have W : Walks prog w A I [I, ax] [I] its.size (fun i v => its[i]? = some v) (fun i h => h.IsTupleIter I ax i ∧ h.IsTuple ax its) := Walks.tuple hh I ax hax its
  refine codeAny_forLoop_any (fun k s' => ∃ h' tk m' news' i, s' = { s₁ with heap := h', toks := tk } ∧ (h'.IsTupleIter I ax i ∧ h'.IsTuple ax its) ∧ Fr h₀ env.locals h' m' ∧ News h₀ env.locals h' news' ∧ (∀ p ∈ news', p.1 ≠ I) ∧ (ax, tupA its) ∈ news' ∧ J i m' news' ∧ i ≤ its.size ∧ k = its.size + 1 - i) ?_ (its.size + 1)
    ⟨_, s₁.toks, m, news, 0, rfl, ⟨⟨_, hI ▸ Heap.get?_push_size _ rfl, rfl, rfl⟩, tup_of (N.grown up) S⟩, F.keeps up, N.grown up, fun p hp => hI ▸ Nat.ne_of_lt (Heap.lt_size (N p hp).1), S, h0, Nat.zero_le _, rfl⟩
  rintro k s' ⟨h', tk, m', news', i, rfl, hst', F', N', off', S', hJ, hi, rfl⟩
  by_cases hlt' : i < its.size
  · refine W.item i _ _ _ hlt' hst' fun v h₁ tk₁ hP hst₁ hk₁ => ?_
    refine hgo I v _ _ _ ?_
    obtain ⟨oI, heI, r⟩ := hst₁.1
    have F₁ : Fr h₀ env.locals h₁ m' := LCg.fr_but F' hk₁ hLI hI₀
    have N₁ : News h₀ env.locals h₁ news' := LCg.news_but N' hk₁ off'
    refine wpAny_mono (step i v I oI m' news' h₁ tk₁ hlt' hP hJ F₁ (fun p hp => (List.mem_cons.mp hp).elim (fun q => q ▸ ⟨heI, Ne.symm hLI, hI₀⟩) (N₁ p)) off' S') (fun _ s₂ h₂ => wpAny_passesOwn hE (wpAny_mono h₂ (fun f s₃ h₃ => ?_) fun _ _ e => e)) hE
    have nxt : (∃ h' tk m' news', s₃ = { s₁ with heap := h', toks := tk } ∧ Fr h₀ env.locals h' m' ∧ News h₀ env.locals h' ((I, oI) :: news') ∧ (∀ p ∈ news', p.1 ≠ I) ∧ (ax, tupA its) ∈ news' ∧ J (i + 1) m' news') →
        ∃ m, m < its.size + 1 - i ∧ ∃ h' tk m' news' i, s₃ = { s₁ with heap := h', toks := tk } ∧ (h'.IsTupleIter I ax i ∧ h'.IsTuple ax its) ∧ Fr h₀ env.locals h' m' ∧ News h₀ env.locals h' news' ∧ (∀ p ∈ news', p.1 ≠ I) ∧ (ax, tupA its) ∈ news' ∧ J i m' news' ∧ i ≤ its.size ∧ m = its.size + 1 - i := by
      rintro ⟨h₄, tk₄, m₄, news₄, rfl, F₄, N₄, off₄, S₄, J₄⟩
      have N₄' : News h₀ env.locals h₄ news₄ := fun p hp => N₄ p (.tail _ hp)
      exact ⟨its.size + 1 - (i + 1), by omega, h₄, tk₄, m₄, news₄, i + 1, rfl, ⟨⟨oI, (N₄ _ (.head _)).1, r⟩, tup_of N₄' S₄⟩, F₄, N₄', off₄, S₄, J₄, hlt', rfl⟩
    cases f with
    | next => exact nxt h₃
    | cont => exact nxt h₃
    | brk => exact h₃
    | ret v => exact h₃
  · obtain rfl : i = its.size := by omega
    refine W.done _ _ _ hst' fun h₁ tk₁ hk₁ => wpAny_execs_nil ?_
    exact done h₁ tk₁ m' news' (LCg.fr_but F' hk₁ hLI hI₀) (LCg.news_but N' hk₁ off') hJ

theorem map_find {k k' : Str} {v : Value} : ∀ (kvs : List (Str × Value)), ((kvs.map fun kv => if kv.1 = k then (kv.1, v) else kv).find? fun kv => kv.1 = k') = (kvs.find? fun kv => kv.1 = k').map fun kv => if kv.1 = k then (kv.1, v) else kv
  | [] => rfl
  | (a, b) :: r => by
    simp only [List.map_cons, List.find?_cons]
    by_cases e : a = k
    · simp only [e, if_true]
      by_cases e' : k = k'
      · simp [e']
      · simp only [e', decide_false]
        exact map_find r
    · simp only [e, if_false]
      by_cases e' : a = k'
      · subst e'
        simp [e]
      · simp only [e', decide_false]
        exact map_find r
theorem valueAt_stored {kvs : List (Str × Value)} {k k' : Str} {v : Value} : valueAt (stored kvs k v) k' = if k' = k then some v else valueAt kvs k' := by
  unfold stored
  split
  · rename_i h
    unfold valueAt
    rw [map_find]
    by_cases e : k' = k
    · rw [if_pos e, e]
      obtain ⟨kv, hkv, e2⟩ := List.any_eq_true.mp h
      have e3 : kv.1 = k := of_decide_eq_true e2
      cases q : kvs.find? fun kv => kv.1 = k with
      | none => exact absurd e2 (by simpa using List.find?_eq_none.mp q kv hkv)
      | some x =>
        have := List.find?_some q
        simp only [Option.map_some, of_decide_eq_true this, if_true]
    · rw [if_neg e]
      cases q : kvs.find? fun kv => kv.1 = k' with
      | none => rfl
      | some x =>
        have e3 : x.1 = k' := of_decide_eq_true (List.find?_some (p := fun kv : Str × Value => decide (kv.1 = k')) q)
        have : ¬ x.1 = k := fun q2 => e (e3.symm.trans q2)
        simp only [Option.map_some, this, if_false]
  · rename_i h
    unfold valueAt
    rw [List.find?_append]
    by_cases e : k' = k
    · rw [if_pos e, e]
      have : kvs.find? (fun kv => kv.1 = k) = none := by
        rw [List.find?_eq_none]
        intro x hx q
        exact h (List.any_eq_true.mpr ⟨x, hx, q⟩)
      rw [this]
      simp
    · rw [if_neg e]
      have : ¬ k = k' := fun q => e q.symm
      simp [this]
def KindTup (z : Led) (v : Value) (tgs : List Tag) : Prop := ∃ p arr, v = .ref p ∧ (p, tupA arr) ∈ z ∧ arr.size = tgs.length ∧ ∀ (i : Nat) (tg : Tag), tgs[i]? = some tg → ∃ t, arr[i]? = some (.str (kindStr tg) t)
theorem KindTup.mono {z z' : Led} {v : Value} {tgs : List Tag} (h : KindTup z v tgs) (s : ∀ p ∈ z, p ∈ z') : KindTup z' v tgs := by
  obtain ⟨p, arr, e, hp, a, b⟩ := h
  exact ⟨p, arr, e, s _ hp, a, b⟩
def KTab (z : Led) (D : List (Str × Value)) (S : List (Str × List Tag)) : Prop := (∀ k tgs, (k, tgs) ∈ S → ∃ v, valueAt D k = some v ∧ KindTup z v tgs) ∧ ∀ k, k ∉ S.map (·.1) → valueAt D k = none
theorem KTab.mono {z z' : Led} {D : List (Str × Value)} {S : List (Str × List Tag)} (h : KTab z D S) (s : ∀ p ∈ z, p ∈ z') : KTab z' D S :=
  ⟨fun k tgs hk => (h.1 k tgs hk).imp fun _ q => ⟨q.1, q.2.mono s⟩, h.2⟩
theorem KTab.nil {z : Led} : KTab z [] [] := ⟨fun _ _ h => (nomatch h), fun _ _ => rfl⟩
theorem KTab.store {z : Led} {D : List (Str × Value)} {S : List (Str × List Tag)} {k : Str} {v : Value} {tgs : List Tag} (h : KTab z D S) (hk : k ∉ S.map (·.1)) (hv : KindTup z v tgs) : KTab z (stored D k v) ((k, tgs) :: S) := by
  refine ⟨fun k' tgs' hm => ?_, fun k' hm => ?_⟩
  · rw [valueAt_stored]
    rcases List.mem_cons.mp hm with e | hm
    · cases e
      exact ⟨v, if_pos rfl, hv⟩
    · have : k' ≠ k := fun e => hk (e ▸ List.mem_map_of_mem hm)
      rw [if_neg this]
      exact h.1 k' tgs' hm
  · rw [List.map_cons, List.mem_cons, not_or] at hm
    rw [valueAt_stored, if_neg hm.1]
    exact h.2 k' hm.2
theorem newTup_M {prog : Program} {w : World} {A : Around} {E : Value → Shared → Prop} {s : Shared} {h₀ : Heap} {L : Addr} {m : Str → Option Value} {M l z : Led} {vs : List Value} {Q : Value → Shared → Prop} (F : Fr h₀ L s.heap m) (N : News h₀ L s.heap (M ++ l)) (hs : ∀ p ∈ z, p ∈ l) (O : Off (M.map (·.1)) l) (hz : vs.length ≤ sizeLine)
    (h : ∀ D l₂ z₂ h', Fr h₀ L h' m → News h₀ L h' (M ++ l₂) → Ex l z l₂ z₂ → (∀ p ∈ z, p ∈ z₂) → (∀ p ∈ z₂, p ∈ l₂) → Off (M.map (·.1)) l₂ → (D, tupA vs.toArray) ∈ z₂ → Q (.ref D) { s with heap := h' }) :
    wpAny (model prog w) A (newTuple vs) Q E s := by
  refine kup_newTuple F N (fun D h' F' N' lt => ?_) hz
  have l1 : ∀ p ∈ l, p.1 < D := fun p hp => lt p (List.mem_append_right _ hp)
  have G : Ex l z ((D, tupA vs.toArray) :: l) ((D, tupA vs.toArray) :: z) := Ex.one Ex.refl l1
  refine h D _ _ h' F' (News.sub N' fun p hp => ?_) G G.zz (G.zl hs) (fun p hp e => ?_) (.head _)
  · rcases List.mem_append.mp hp with hp | hp
    · exact .tail _ (List.mem_append_left _ hp)
    · rcases List.mem_cons.mp hp with rfl | hp
      · exact .head _
      · exact .tail _ (List.mem_append_right _ hp)
  · rcases List.mem_cons.mp hp with rfl | hp
    · obtain ⟨q, hq, e⟩ := List.mem_map.mp e
      exact absurd e (Nat.ne_of_lt (lt q (List.mem_append_left _ hq)))
    · exact O p hp e
theorem mulTup_M {prog : Program} {w : World} {A : Around} {E : Value → Shared → Prop} {s : Shared} {h₀ : Heap} {L t : Addr} {m : Str → Option Value} {M l z : Led} {v : Value} {x : Int} {u : Tok} {Q : Value → Shared → Prop} (F : Fr h₀ L s.heap m) (N : News h₀ L s.heap (M ++ l)) (hs : ∀ p ∈ z, p ∈ l) (O : Off (M.map (·.1)) l)
    (hl : (t, tupA #[v]) ∈ z) (h0 : 2 ≤ x) (h1 : x ≤ 10)
    (h : ∀ D l₂ z₂ h', Fr h₀ L h' m → News h₀ L h' (M ++ l₂) → Ex l z l₂ z₂ → (∀ p ∈ z, p ∈ z₂) → (∀ p ∈ z₂, p ∈ l₂) → Off (M.map (·.1)) l₂ → (D, tupA (List.foldl (fun x1 x2 => x1 ++ x2) #[] (List.replicate x.toNat #[v]))) ∈ z₂ → Q (.ref D) { s with heap := h' }) :
    wpAny (model prog w) A (binaryOp .Mult (.ref t) (.int x u)) Q E s := by
  refine mul_tup F N (List.mem_append_right _ (hs _ hl)) h0 h1 (fun D h' F' N' lt => ?_)
  have l1 : ∀ p ∈ l, p.1 < D := fun p hp => lt p (List.mem_append_right _ hp)
  have G : Ex l z ((D, tupA (List.foldl (fun x1 x2 => x1 ++ x2) #[] (List.replicate x.toNat #[v]))) :: l) ((D, tupA (List.foldl (fun x1 x2 => x1 ++ x2) #[] (List.replicate x.toNat #[v]))) :: z) := Ex.one Ex.refl l1
  refine h D _ _ h' F' (News.sub N' fun p hp => ?_) G G.zz (G.zl hs) (fun p hp e => ?_) (.head _)
  · rcases List.mem_append.mp hp with hp | hp
    · exact .tail _ (List.mem_append_left _ hp)
    · rcases List.mem_cons.mp hp with rfl | hp
      · exact .head _
      · exact .tail _ (List.mem_append_right _ hp)
  · rcases List.mem_cons.mp hp with rfl | hp
    · obtain ⟨q, hq, e⟩ := List.mem_map.mp e
      exact absurd e (Nat.ne_of_lt (lt q (List.mem_append_left _ hq)))
    · exact O p hp e
theorem TupSrc.of {prog : Program} {w : World} {A : Around} {E : Value → Shared → Prop} {env : Env} {h₀ : Heap} {Q : Flow → Shared → Prop} {target : Expr} {body : List Stmt} {s₁ : Shared} {ax : Addr} {its : Array Value} {news : Led} {m : Str → Option Value}
    (J : (Str → Option Value) → Led → Nat → (Str → Option Value) → Led → Prop) (hh : A.handled = none) (F : Fr h₀ env.locals s₁.heap m) (N : News h₀ env.locals s₁.heap news) (hS : (ax, tupA its) ∈ news) (h0 : J m news 0 m news)
    (step : ∀ i v I oI m₁ news₁ h tk, i < its.size → its[i]? = some v → J m news i m₁ news₁ → Fr h₀ env.locals h m₁ → News h₀ env.locals h ((I, oI) :: news₁) → (∀ p ∈ news₁, p.1 ≠ I) → (ax, tupA its) ∈ news₁ →
        wpAny (model prog w) A (assign target env v) (fun _ s₂ => wpAny (model prog w) A (execs body env) (TurnU h₀ env.locals { s₁ with heap := h, toks := tk } I oI ax its (J m news (i + 1)) Q) E s₂) E { s₁ with heap := h, toks := tk })
    (done : ∀ h tk m' news', Fr h₀ env.locals h m' → News h₀ env.locals h news' → J m news its.size m' news' → Q .next { s₁ with heap := h, toks := tk }) :
    TupSrc prog w A E env h₀ Q target body (.ref ax) s₁ := ⟨ax, its, news, m, J m news, rfl, hh, F, N, hS, h0, step, done⟩
theorem kindTup_of {z : Led} {D : Addr} {vs : List Value} {tgs : List Tag} (hm : (D, tupA vs.toArray) ∈ z) (h : StrsAre vs (tgs.map kindStr)) : KindTup z (.ref D) tgs := by
  refine ⟨D, _, rfl, hm, by rw [List.size_toArray, StrsAre.len h, List.length_map], fun i tg e => ?_⟩
  have e2 : (tgs.map kindStr)[i]? = some (kindStr tg) := by rw [List.getElem?_map, e]; rfl
  obtain ⟨t, ht⟩ := StrsAre.at h e2
  exact ⟨t, by simpa using ht⟩
theorem kindTup_six {z : Led} {D : Addr} {t : Tok} (hm : (D, tupA (List.foldl (fun x1 x2 => x1 ++ x2) #[] (List.replicate (Int.toNat 6) (#[.str (Str.ofString "number") t] : Array Value)))) ∈ z) : KindTup z (.ref D) [Tag.n, Tag.n, Tag.n, Tag.n, Tag.n, Tag.n] :=
  kindTup_of (vs := [.str (Str.ofString "number") t, .str (Str.ofString "number") t, .str (Str.ofString "number") t, .str (Str.ofString "number") t, .str (Str.ofString "number") t, .str (Str.ofString "number") t]) hm (.cons _ _ (.cons _ _ (.cons _ _ (.cons _ _ (.cons _ _ (.cons _ _ .nil))))))
theorem kindTup_two {z : Led} {D : Addr} {t : Tok} (hm : (D, tupA (List.foldl (fun x1 x2 => x1 ++ x2) #[] (List.replicate (Int.toNat 2) (#[.str (Str.ofString "number") t] : Array Value)))) ∈ z) : KindTup z (.ref D) [Tag.n, Tag.n] :=
  kindTup_of (vs := [.str (Str.ofString "number") t, .str (Str.ofString "number") t]) hm (.cons _ _ (.cons _ _ .nil))
def S0 : List (Str × List Tag) := [(Str.ofString "TJ", [Tag.a]), (Str.ofString "Tm", [Tag.n, Tag.n, Tag.n, Tag.n, Tag.n, Tag.n]), (Str.ofString "Tf", [Tag.m, Tag.n]), (Str.ofString "T*", []), (Str.ofString "ET", []), (Str.ofString "BT", [])]
theorem KTab.six {z : Led} {v1 v2 v3 v4 v5 v6 : Value} {t1 t2 t3 t4 t5 t6 : Tok} (h1 : KindTup z v1 []) (h2 : KindTup z v2 []) (h3 : KindTup z v3 []) (h4 : KindTup z v4 [Tag.m, Tag.n]) (h5 : KindTup z v5 [Tag.n, Tag.n, Tag.n, Tag.n, Tag.n, Tag.n]) (h6 : KindTup z v6 [Tag.a]) :
    KTab z (strPairs [(.str (Str.ofString "BT") t1, v1), (.str (Str.ofString "ET") t2, v2), (.str (Str.ofString "T*") t3, v3), (.str (Str.ofString "Tf") t4, v4), (.str (Str.ofString "Tm") t5, v5), (.str (Str.ofString "TJ") t6, v6)]) S0 := by
  have e : strPairs [(.str (Str.ofString "BT") t1, v1), (.str (Str.ofString "ET") t2, v2), (.str (Str.ofString "T*") t3, v3), (.str (Str.ofString "Tf") t4, v4), (.str (Str.ofString "Tm") t5, v5), (.str (Str.ofString "TJ") t6, v6)] =
    stored (stored (stored (stored (stored (stored [] (Str.ofString "BT") v1) (Str.ofString "ET") v2) (Str.ofString "T*") v3) (Str.ofString "Tf") v4) (Str.ofString "Tm") v5) (Str.ofString "TJ") v6 := by rfl
  rw [e]
  exact (((((KTab.nil.store (by decide) h1).store (by decide) h2).store (by decide) h3).store (by decide) h4).store (by decide) h5).store (by decide) h6
def sOf (tgs : List Tag) (ws : List Str) (S0 : List (Str × List Tag)) : List (Str × List Tag) := (ws.map fun y => (y, tgs)).reverse ++ S0
theorem sOf_succ {tgs : List Tag} {ws : List Str} {S0 : List (Str × List Tag)} {i : Nat} {y : Str} (h : ws[i]? = some y) : sOf tgs (ws.take (i + 1)) S0 = (y, tgs) :: sOf tgs (ws.take i) S0 := by
  unfold sOf
  rw [List.take_add_one, h]
  simp
def freshIn (tgs : List Tag) (ws : List Str) (S : List (Str × List Tag)) : Bool := (List.range ws.length).all fun i => match ws[i]? with | some y => !(((sOf tgs (ws.take i) S).map (·.1)).contains y) | none => true
theorem fresh_of {tgs : List Tag} {ws : List Str} {S : List (Str × List Tag)} {i : Nat} {y : Str} (h : freshIn tgs ws S = true) (hy : ws[i]? = some y) : y ∉ (sOf tgs (ws.take i) S).map (·.1) := by
  unfold freshIn at h
  have hi : i < ws.length := by
    rcases Nat.lt_or_ge i ws.length with q | q
    · exact q
    · rw [List.getElem?_eq_none q] at hy; cases hy
  have := List.all_eq_true.mp h i (List.mem_range.mpr hi)
  rw [hy] at this
  intro hm
  have this2 : (!(((sOf tgs (ws.take i) S).map (·.1)).contains y)) = true := this
  rw [List.contains_iff_mem.mpr hm] at this2
  cases this2
def W1 : List Str := [Str.ofString "Tc", Str.ofString "Tw", Str.ofString "Tz", Str.ofString "TL", Str.ofString "Tr", Str.ofString "Ts"]
def W2 : List Str := [Str.ofString "Td", Str.ofString "TD", Str.ofString "d0"]
def W4 : List Str := [Str.ofString "Tj", Str.ofString "'"]
def S1 : List (Str × List Tag) := sOf [Tag.n] W1 S0
def S2 : List (Str × List Tag) := sOf [Tag.n, Tag.n] W2 S1
def S3 : List (Str × List Tag) := (Str.ofString "d1", [Tag.n, Tag.n, Tag.n, Tag.n, Tag.n, Tag.n]) :: S2
def S4 : List (Str × List Tag) := sOf [Tag.s] W4 S3
def S5 : List (Str × List Tag) := (Str.ofString "\"", [Tag.n, Tag.n, Tag.s]) :: S4
theorem sOf_len (tgs : List Tag) (ws : List Str) (S : List (Str × List Tag)) {i : Nat} (h : ws.length ≤ 10) (h2 : S.length ≤ 50) : (sOf tgs (ws.take i) S).length ≤ 100 := by
  unfold sOf
  rw [List.length_append, List.length_reverse, List.length_map, List.length_take]
  omega
theorem stored_le {kvs : List (Str × Value)} {k : Str} {v : Value} : (stored kvs k v).length ≤ kvs.length + 1 := by
  unfold stored
  split
  · rw [List.length_map]; omega
  · simp
/-- all found of the table so far, over the dict d -/
def KT (w : World) (d : Addr) (l0 z0 : Led) (S : List (Str × List Tag)) (news : Led) : Prop :=
  ∃ o D l₁ z₁, (d == sysModules) = false ∧ news = (d, o) :: l₁ ∧ Ex l0 z0 l₁ z₁ ∧ Off [d] l₁ ∧ o.IsDictOf (PySem.strKind PySem.Challenge.rw_og0194_01.row.prog w) D ∧ D.length ≤ S.length ∧ KTab z₁ D S
section
local macro_rules | `(tactic| walk_at "eval Dict") => `(tactic| (k_here; k_dflt (refine' kdn_str ?q ?F ?N ?b ?a ?l ?e ?n ?_; (case q => rfl); (case F => k_asm); (case N => k_asm); (case b => exact Top.nolimit (by k_asm)); (case a => rfl); (case l => rfl); (case e => exact List.cons_ne_nil _ _); (case n => exact Nat.le_of_ble_eq_true rfl)); intro d' h' o' F' N' l1 lo' hd'; (have o9 := Off.one (ne_of_ltAll l1)); (try k_lt l1)))
local macro_rules | `(tactic| walk_at "newTuple") => `(tactic| (k_here; k_dflt (refine' newTup_M (M := [_]) ?F ?N ?hs ?O ?z ?_; (case F => k_asm); (case N => k_asm); (case hs => with_reducible assumption); (case O => (show Off [_] _); with_reducible assumption); (case z => exact Nat.le_of_ble_eq_true rfl)); intro D' l' z' h' F' N' G' hz' hl' O' hm'; (have hG' := Grow.of G'); (try simp only [List.cons_append, List.nil_append, List.map_cons, List.map_nil] at N' O')))
local macro_rules | `(tactic| walk_at "binaryOp Mult ref int") => `(tactic| (k_here; k_dflt (refine' mulTup_M (M := [_]) ?F ?N ?hs ?O ?l ?a ?b ?_; (case F => k_asm); (case N => k_asm); (case hs => with_reducible assumption); (case O => (show Off [_] _); with_reducible assumption); (case l => with_reducible assumption); (case a => decide); (case b => decide)); intro D' l' z' h' F' N' G' hz' hl' O' hm'; (have hG' := Grow.of G'); (try simp only [List.cons_append, List.nil_append, List.map_cons, List.map_nil] at N' O')))
local macro_rules | `(tactic| walk_at "binaryOp Mult ref int") => `(tactic| (k_here; k_dflt (refine' mulTup_M (M := [_, _]) ?F ?N ?hs ?O ?l ?a ?b ?_; (case F => k_asm); (case N => k_asm); (case hs => with_reducible assumption); (case O => (show Off [_, _] _); with_reducible assumption); (case l => with_reducible assumption); (case a => decide); (case b => decide)); intro D' l' z' h' F' N' G' hz' hl' O' hm'; (have hG' := Grow.of G'); (try simp only [List.cons_append, List.nil_append, List.map_cons, List.map_nil] at N' O')))
local macro_rules | `(tactic| walk_at "newTuple") => `(tactic| (k_here; k_dflt (refine' newTup_M (M := [_, _]) ?F ?N ?hs ?O ?z ?_; (case F => k_asm); (case N => k_asm); (case hs => with_reducible assumption); (case O => (show Off [_, _] _); with_reducible assumption); (case z => exact Nat.le_of_ble_eq_true rfl)); intro D' l' z' h' F' N' G' hz' hl' O' hm'; (have hG' := Grow.of G'); (try simp only [List.cons_append, List.nil_append, List.map_cons, List.map_nil] at N' O')))
local macro_rules | `(tactic| kst_p) => `(tactic| (refine' KindTup.mono ?h9 ?s9; (case h9 => first | (refine kindTup_of (by with_reducible assumption) ?_; first | exact .nil | exact .cons _ _ .nil | exact .cons _ _ (.cons _ _ .nil) | exact .cons _ _ (.cons _ _ (.cons _ _ .nil))) | exact kindTup_six (by with_reducible assumption) | exact kindTup_two (by with_reducible assumption)); (case s9 => kt_eqs)))
local macro_rules | `(tactic| walk_at "setItem ref str") => `(tactic| (k_here; k_dflt (refine' kda_set (knd := PySem.strKind _ _) ?F ?N ?U ?d (strKind_is _ _ _ _) ?z ?_; (case F => k_asm); (case N => k_asm); (case U => k_updF); (case d => with_reducible assumption); (case z => rw [sizeLine_eq]; omega)); intro h' o' F' N' hd'; (try dsimp only at N')))
local macro_rules | `(tactic| walk_at "exec For Name Tuple cons nil") => `(tactic| (k_here; refine Stop.out ?_; walk_say "STOP FOR"))
local macro_rules | `(tactic| walk_at "TupSrc") => `(tactic| (k_here; refine Stop.out ?_; walk_say "STOP SRC"))
local macro_rules | `(tactic| walk_at "TurnU") => `(tactic| (k_here; refine Stop.out ?_; walk_say "STOP TURN"))
theorem kinds_ok {w : World} {mean : ExcName → Option Value} {mg mb : Str → Option Value} {l z : Led} (hs : ∀ p ∈ z, p ∈ l) :
    Fn w mean mg mb 410 6 [] l (fun r l' => ∃ d, r = .ref d ∧ KT w d l z S5 l') := by
  unfold Fn
  k_fill
  intro dp un gd cn cs aa ccd cl outer A₀ base h₀ L m s Q E B F X N T hk hdd hu hret
  kqd_sub
  refine Stop.in ?_
  rename (Obj.IsDictOf _ _ _) => hD0
  refine For_tup (by k_asm) (fun _ _ _ _ _ a => go_nameU a) ?_
  k_steps
  refine Stop.in ?_
  rename Led => z8
  rename Led => z8
  refine TupSrc.of (fun m₀ news₀ i m' news' => match news₀ with | [] => False | (d, _) :: l8 => (∃ q, m' = gl m₀ [Str.ofString "word"] (Str.ofString "found") (.ref d) q) ∧ KT w d l8 z8 (sOf [Tag.n] (W1.take i) S0) news') rfl (by k_asm) (by k_asm) (.tail _ (by k_mem)) ?_ ?_ ?_
  · refine ⟨⟨_, gl_self _ _ rfl⟩, _, _, _, _, by with_reducible assumption, rfl, Ex.refl, by with_reducible assumption, hD0, Nat.le_refl _, ?_⟩
    refine KTab.six ?_ ?_ ?_ ?_ ?_ ?_
    all_goals kst_p
  · rintro i v I oI m₁ news₁ h1 tk1 hi hv ⟨⟨q, rfl⟩, o, D, l₁, z₁, hlo, rfl, G, O, hD, hDl, hT⟩ F1 N1 off hS
    obtain ⟨y, ty, rfl, hy⟩ := StrsAre.item (ys := W1) (.cons _ _ (.cons _ _ (.cons _ _ (.cons _ _ (.cons _ _ (.cons _ _ .nil)))))) i v (by simpa only [List.getElem?_toArray] using hv)
    have hG := G.ll
    have hzz := G.zz
    have hzl := G.zl (by with_reducible assumption)
    have hG' := Grow.of G
    have o2 : Off [I, _] l₁ := Off.cons (fun p hp => off p (.tail _ hp)) O
    have hne : @Ne Nat _ I := off _ (.head _)
    have hD20 : D.length ≤ 100 := Nat.le_trans hDl (sOf_len _ _ _ (by decide) (by decide))
    k_steps
    refine Stop.in ?_
    refine TurnU.nxt _ (by k_asm) (by k_asm) (fun _ h => h) ?_ (.tail _ (by k_mem)) ⟨gl_of _ _ rfl (by keq_hits), _, _, _, _, hlo, rfl, by ktu_off1L, Off.tail (by with_reducible assumption), by with_reducible assumption, ?_, ?_⟩
    · exact List.forall_mem_cons.mpr ⟨hne, Off.ne (by with_reducible assumption) (.head _)⟩
    · rw [sOf_succ hy]
      exact Nat.le_trans stored_le (Nat.succ_le_succ hDl)
    · rw [sOf_succ hy]
      exact KTab.store (hT.mono (by kt_eqs)) (fresh_of (by decide +kernel) hy) (by kst_p)
  rintro h1 tk1 m1 news1 F1 N1 ⟨⟨q, rfl⟩, o, D, l₁, z₁, hlo, rfl, G, O, hD, hDl, hT⟩
  have hG := G.ll
  have hzz := G.zz
  have hzl := G.zl (by with_reducible assumption)
  have hG' := Grow.of G
  have hDl1 : D.length ≤ S1.length := hDl
  have hT1 : KTab z₁ D S1 := hT
  have hD20 : D.length ≤ 100 := Nat.le_trans hDl1 (by decide)
  clear hDl hT
  (try dsimp only); (try k_fold)
  k_steps
  refine Stop.in ?_
  refine For_tup (by k_asm) (fun _ _ _ _ _ a => go_nameU a) ?_
  k_steps
  refine Stop.in ?_
  rename Led => z2
  refine TupSrc.of (fun m₀ news₀ i m' news' => match news₀ with | [] => False | (d, _) :: l8 => (∃ q, m' = gl m₀ [Str.ofString "word"] (Str.ofString "found") (.ref d) q) ∧ KT w d l8 z2 (sOf [Tag.n, Tag.n] (W2.take i) S1) news') rfl (by k_asm) (by k_asm) (.tail _ (by k_mem)) ?_ ?_ ?_
  · exact ⟨⟨_, gl_self _ _ rfl⟩, _, _, _, _, by with_reducible assumption, rfl, Ex.refl, by with_reducible assumption, by with_reducible assumption, hDl1, KTab.mono hT1 (by kt_eqs)⟩
  · rintro i v I oI m₁ news₁ h1 tk1 hi hv ⟨⟨q, rfl⟩, o, D, l₁, z₁, hlo, rfl, G, O, hD, hDl, hT⟩ F1 N1 off hS
    obtain ⟨y, ty, rfl, hy⟩ := StrsAre.item (ys := W2) (.cons _ _ (.cons _ _ (.cons _ _ .nil))) i v (by simpa only [List.getElem?_toArray] using hv)
    have hG := G.ll
    have hzz := G.zz
    have hzl := G.zl (by with_reducible assumption)
    have hG' := Grow.of G
    have o2 : Off [I, _] l₁ := Off.cons (fun p hp => off p (.tail _ hp)) O
    have hne : @Ne Nat _ I := off _ (.head _)
    have hD20 : D.length ≤ 100 := Nat.le_trans hDl (sOf_len _ _ _ (by decide) (by decide))
    k_steps
    refine Stop.in ?_
    refine TurnU.nxt _ (by k_asm) (by k_asm) (fun _ h => h) ?_ (.tail _ (by k_mem)) ⟨gl_of _ _ rfl (by keq_hits), _, _, _, _, hlo, rfl, by ktu_off1L, Off.tail (by with_reducible assumption), by with_reducible assumption, ?_, ?_⟩
    · exact List.forall_mem_cons.mpr ⟨hne, Off.ne (by with_reducible assumption) (.head _)⟩
    · rw [sOf_succ hy]
      exact Nat.le_trans stored_le (Nat.succ_le_succ hDl)
    · rw [sOf_succ hy]
      exact KTab.store (hT.mono (by kt_eqs)) (fresh_of (by decide +kernel) hy) (by kst_p)
  rintro h2 tk2 m2 news2 F2 N2 ⟨⟨q2, rfl⟩, o2, D2, l2, z12, hlo2, rfl, G2, O2, hD2, hDl, hT⟩
  have hG2 := G2.ll
  have hzz2 := G2.zz
  have hzl2 := G2.zl (by with_reducible assumption)
  have hG'2 := Grow.of G2
  have hDl2 : D2.length ≤ S2.length := hDl
  have hT2 : KTab z12 D2 S2 := hT
  have hD202 : D2.length ≤ 100 := Nat.le_trans hDl2 (by decide)
  clear hDl hT
  (try dsimp only); (try k_fold)
  k_steps
  refine Stop.in ?_
  refine For_tup (by k_asm) (fun _ _ _ _ _ a => go_nameU a) ?_
  k_steps
  refine Stop.in ?_
  rename Led => z4
  refine TupSrc.of (fun m₀ news₀ i m' news' => match news₀ with | [] => False | (d, _) :: l8 => (∃ q, m' = gl m₀ [Str.ofString "word"] (Str.ofString "found") (.ref d) q) ∧ KT w d l8 z4 (sOf [Tag.s] (W4.take i) S3) news') rfl (by k_asm) (by k_asm) (.tail _ (by k_mem)) ?_ ?_ ?_
  · exact ⟨⟨_, gl_self _ _ rfl⟩, _, _, _, _, by with_reducible assumption, rfl, Ex.refl, by with_reducible assumption, by with_reducible assumption, Nat.le_trans stored_le (Nat.succ_le_succ hDl2), KTab.store (hT2.mono (by kt_eqs)) (by decide) (by kst_p)⟩
  · rintro i v I oI m₁ news₁ h1 tk1 hi hv ⟨⟨q, rfl⟩, o, D, l₁, z₁, hlo, rfl, G, O, hD, hDl, hT⟩ F1 N1 off hS
    obtain ⟨y, ty, rfl, hy⟩ := StrsAre.item (ys := W4) (.cons _ _ (.cons _ _ .nil)) i v (by simpa only [List.getElem?_toArray] using hv)
    have hG := G.ll
    have hzz := G.zz
    have hzl := G.zl (by with_reducible assumption)
    have hG' := Grow.of G
    have o2 : Off [I, _] l₁ := Off.cons (fun p hp => off p (.tail _ hp)) O
    have hne : @Ne Nat _ I := off _ (.head _)
    have hD20 : D.length ≤ 100 := Nat.le_trans hDl (sOf_len _ _ _ (by decide) (by decide))
    k_steps
    refine Stop.in ?_
    refine TurnU.nxt _ (by k_asm) (by k_asm) (fun _ h => h) ?_ (.tail _ (by k_mem)) ⟨gl_of _ _ rfl (by keq_hits), _, _, _, _, hlo, rfl, by ktu_off1L, Off.tail (by with_reducible assumption), by with_reducible assumption, ?_, ?_⟩
    · exact List.forall_mem_cons.mpr ⟨hne, Off.ne (by with_reducible assumption) (.head _)⟩
    · rw [sOf_succ hy]
      exact Nat.le_trans stored_le (Nat.succ_le_succ hDl)
    · rw [sOf_succ hy]
      exact KTab.store (hT.mono (by kt_eqs)) (fresh_of (by decide +kernel) hy) (by kst_p)
  rintro h4 tk4 m4 news4 F4 N4 ⟨⟨q4, rfl⟩, o4, D4, l4, z14, hlo4, rfl, G4, O4, hD4, hDl, hT⟩
  have hG4 := G4.ll
  have hzz4 := G4.zz
  have hzl4 := G4.zl (by with_reducible assumption)
  have hG'4 := Grow.of G4
  have hDl4 : D4.length ≤ S4.length := hDl
  have hT4 : KTab z14 D4 S4 := hT
  have hD204 : D4.length ≤ 100 := Nat.le_trans hDl4 (by decide)
  clear hDl hT
  (try dsimp only); (try k_fold)
  k_steps
  exact hret _ _ _ _ (by k_asm) (by k_asm) ⟨_, rfl, _, _, _, _, hlo4, rfl, by ktu_off1L, by with_reducible assumption, by with_reducible assumption, Nat.le_trans stored_le (Nat.succ_le_succ hDl4), KTab.store (hT4.mono (by kt_eqs)) (by decide) (by kst_p)⟩
end
local macro_rules | `(tactic| walk_at "pad") => `(tactic| skip)
local macro_rules | `(tactic| walk_at "pad") => `(tactic| skip)
local macro_rules | `(tactic| walk_at "pad") => `(tactic| skip)
local macro_rules | `(tactic| walk_at "pad") => `(tactic| skip)
local macro_rules | `(tactic| walk_at "pad") => `(tactic| skip)
local macro_rules | `(tactic| walk_at "pad") => `(tactic| skip)
local macro_rules | `(tactic| walk_at "pad") => `(tactic| skip)
local macro_rules | `(tactic| walk_at "pad") => `(tactic| skip)
local macro_rules | `(tactic| walk_at "pad") => `(tactic| skip)
local macro_rules | `(tactic| walk_at "pad") => `(tactic| skip)
local macro_rules | `(tactic| walk_at "pad") => `(tactic| skip)

inductive OpsAt (z : Led) : List Value → List OpV → Prop
  | nil : OpsAt z [] []
  | cons {v : Value} {o : OpV} {vs : List Value} {os : List OpV} (h : Opd z o v) (r : OpsAt z vs os) : OpsAt z (v :: vs) (o :: os)
theorem OpsAt.mono {l l' : Led} (s : ∀ p ∈ l, p ∈ l') : ∀ {vs : List Value} {os : List OpV}, OpsAt l vs os → OpsAt l' vs os
  | _, _, .nil => .nil
  | _, _, .cons h r => .cons (h.mono s) (r.mono s)
theorem OpsAt.len {z : Led} : ∀ {vs : List Value} {os : List OpV}, OpsAt z vs os → vs.length = os.length
  | _, _, .nil => rfl
  | _, _, .cons _ r => congrArg (· + 1) r.len
theorem OpsAt.at {z : Led} : ∀ {vs : List Value} {os : List OpV}, OpsAt z vs os → ∀ {i : Nat}, i < os.length → ∃ v o, vs[i]? = some v ∧ os[i]? = some o ∧ Opd z o v
  | _, _, .cons h r, 0, _ => ⟨_, _, rfl, rfl, h⟩
  | _, _, .cons h r, i + 1, hi => r.at (i := i) (Nat.lt_of_succ_lt_succ hi)
/-- an operation: its word, its operands -/
inductive IsOp (z : Led) : Value → Str → List OpV → Prop
  | mk {x dx ol : Addr} {hop0 hop1 : Int} {kop0 kop1 : Tok} {word : Str} {tw : Tok} {arr : Array Value} {eo : Nat} {os : List OpV} (hx : (x, W.instObj 399 dx) ∈ z) (hdx : (dx, W.dictOf [⟨hop0, .str (Str.ofString "word") kop0, .str word tw⟩, ⟨hop1, .str (Str.ofString "operands") kop1, .ref ol⟩] 2) ∈ z) (hol : (ol, W.listOf arr eo) ∈ z) (ho : OpsAt z arr.toList os) : IsOp z (.ref x) word os
theorem kd_notin {prog : Program} {w : World} {K : Type} [DecidableEq K] {knd : KeyKind prog w K} {A : Around} {E : Value → Shared → Prop} {s : Shared} {h₀ : Heap} {L d : Addr} {key : Value} {k : K} {news : Led} {o : Obj} {kvs : List (K × Value)} {Q : Value → Shared → Prop} (N : News h₀ L s.heap news) (hp : (d, o) ∈ news) (hd : o.IsDictOf knd kvs) (lo : (d == sysModules) = false) (hkey : knd.is k key = true) (b : Bool) (hb : (valueAt kvs k).isSome = b) (h : Q (.bool (!b)) { s with toks := s.toks + 1 }) :
    wpAny (model prog w) A (compareOp .NotIn key (.ref d)) Q E s := wpAny_notIn_of hkey lo (kda_dict N hp hd).mapOf (by rw [hb]; exact h)
section
local macro_rules | `(tactic| walk_at "compareOp NotIn str ref") => `(tactic| (k_here; k_dflt (refine' kd_notin (knd := PySem.strKind _ _) ?N ?p ?d ?lo (strKind_is _ _ _ _) _ ?b ?_; (case N => k_asm); (case p => k_mem); (case d => with_reducible assumption); (case lo => with_reducible assumption); (case b => with_reducible assumption))))
theorem check_free {w : World} {mean : ExcName → Option Value} {mg mb : Str → Option Value} {l z : Led} {kd : Addr} {okd : Obj} {D : List (Str × Value)} {x : Value} {word : Str} {os : List OpV} (hs : ∀ p ∈ z, p ∈ l)
    (hx : IsOp z x word os) (hkd : (kd, okd) ∈ l) (hD : okd.IsDictOf (PySem.strKind PySem.Challenge.rw_og0194_01.row.prog w) D) (hlo : (kd == sysModules) = false) (hl : (valueAt D word).isSome = false) :
    Fn w mean mg mb 529 6 [.ref kd, x] l (fun r l' => l' = l ∧ r = .none) := by
  unfold Fn
  k_fill
  intro dp un gd cn cs aa ccd cl outer A₀ base h₀ L m s Q E B F X N T hk hdd hu hret
  cases hx with
  | mk hx hdx hol ho =>
  have hxl := hs _ hx
  have hdl := hs _ hdx
  kqd_sub
  exact hret _ _ _ _ (by k_asm) (by k_asm) ⟨rfl, rfl⟩
end
local macro_rules | `(tactic| walk_at "pad") => `(tactic| skip)
local macro_rules | `(tactic| walk_at "pad") => `(tactic| skip)
theorem item_tup {prog : Program} {w : World} {A : Around} {E : Value → Shared → Prop} {s : Shared} {value slice : PySem.Expr} {l : Addr} {arr : Array Value} {k : Int} {u : Tok} {v : Value} {Q : Value → Shared → Prop}
    (hl : s.heap.IsTuple l arr) (h0 : 0 ≤ k) (hhi : k < 2 ^ 62) (hx : arr[k.toNat]? = some v) (h : Q v s)
    (hs : subscripted slice false (.ref l) (.int k u) = operate [.ref l, .int k u] (getItem (.ref l) (.int k u)) := by with_unfolding_all rfl) :
    wpAny (model prog w) A (subscriptTail value slice (.ref l) (.int k u)) Q E s := by
  have hlt : k.toNat < arr.size := by
    rcases Nat.lt_or_ge k.toNat arr.size with q | q
    · exact q
    · rw [Array.getElem?_eq_none q] at hx; cases hx
  refine tail_any hl.typeIs slot_tuple_getitem.lookup (getItem_tuple (j := k.toNat) hl (by omega) (by omega) ?_ hx h) hs
  unfold seqIndex?
  simp only [show ¬ k < 0 from by omega, if_false]
  rw [if_pos (by rw [Bool.and_eq_true, decide_eq_true_eq, decide_eq_true_eq]; omega)]
theorem fits_yes {w : World} {mean : ExcName → Option Value} {mg mb : Str → Option Value} {l z : Led} {v : Value} {o : OpV} {t : Tok} (hs : ∀ p ∈ z, p ∈ l) (h : Opd z o v) (htg : o.tag ∈ [Tag.n, Tag.m, Tag.s, Tag.a]) :
    Fn w mean mg mb 415 12 [v, .str (kindStr o.tag) t] l (fun r l' => l' = l ∧ r = .bool true) :=
  (fits_ok hs h htg).post fun r l p => ⟨p.1, by rw [p.2]; simp⟩
theorem fits_not {w : World} {mean : ExcName → Option Value} {mg mb : Str → Option Value} {l z : Led} {v : Value} {o : OpV} {tg : Tag} {t : Tok} (hs : ∀ p ∈ z, p ∈ l) (h : Opd z o v) (htg : tg ∈ [Tag.n, Tag.m, Tag.s, Tag.a]) (hne : o.tag ≠ tg) :
    Fn w mean mg mb 415 12 [v, .str (kindStr tg) t] l (fun r l' => l' = l ∧ r = .bool false) :=
  (fits_ok hs h htg).post fun r l p => ⟨p.1, by rw [p.2, decide_eq_false hne]⟩
theorem ieq_ne {a b : Nat} (h : a = b) : (!decide ((a : Int) = (b : Int))) = false := by rw [h]; simp
section
local macro_rules | `(tactic| walk_at "call ref") => `(tactic| (k_here; (with_reducible show wpAny _ _ (call (Value.ref _) _) _ _ _); (refine Stop.out ?_; walk_say "STOP")))
local macro_rules | `(tactic| walk_at "compareOp NotIn str ref") => `(tactic| (k_here; k_dflt (refine' kd_notin (knd := PySem.strKind _ _) ?N ?p ?d ?lo (strKind_is _ _ _ _) _ ?b ?_; (case N => k_asm); (case p => k_mem); (case d => with_reducible assumption); (case lo => with_reducible assumption); (case b => with_reducible assumption))))
local macro_rules | `(tactic| walk_at "subscriptTail") => `(tactic| (k_here; (with_reducible show wpAny _ _ (subscriptTail _ _ (Value.ref _) (Value.int _ _)) _ _ _); k_dflt (refine' item_arr ?l ?a ?b ?c ?_; (case l => exact News.isArr (by k_asm) (by k_mem)); (case a => omega); (case b => omega); (case c => with_reducible assumption))))
local macro_rules | `(tactic| walk_at "subscriptTail") => `(tactic| (k_here; (with_reducible show wpAny _ _ (subscriptTail _ _ (Value.ref _) (Value.int _ _)) _ _ _); k_dflt (refine' item_tup ?l ?a ?b ?c ?_; (case l => exact tup_of (by k_asm) (by k_mem)); (case a => omega); (case b => omega); (case c => with_reducible assumption))))
local macro_rules | `(tactic| walk_at "call builtin:len") => `(tactic| (k_here; (with_reducible show wpAny _ _ (call (Value.builtin "len") [Value.ref _]) _ _ _); k_dflt (refine' call_len_list ?l ?f ?_; (case l => exact News.isArr (by k_asm) (by k_mem)); (case f => omega))))
local macro_rules | `(tactic| walk_at "call builtin:len") => `(tactic| (k_here; (with_reducible show wpAny _ _ (call (Value.builtin "len") [Value.ref _]) _ _ _); k_dflt (refine' len_tuple ?l ?f ?_; (case l => exact tup_of (by k_asm) (by k_mem)); (case f => omega))))
local macro_rules | `(tactic| walk_at "call ref") => `(tactic| (k_here; (with_reducible show wpAny _ _ (call (Value.ref 415) _) _ _ _); k_dflt (refine' Fn.use (fits_not ?hs ?h1 ?h2 ?h3) ?B ?F ?X ?N ?T ?kK ?kd ?ku ?_); kaf_pre; (case h1 => with_reducible assumption); (case h2 => with_reducible assumption); (case h3 => with_reducible assumption); (case hs => kpt_turns); rintro r' l' h' tk' F' N' ⟨e', er'⟩; subst e'; subst er'; (try dsimp only); (try k_fold)))
local macro_rules | `(tactic| walk_at "call ref") => `(tactic| (k_here; (with_reducible show wpAny _ _ (call (Value.ref 415) _) _ _ _); k_dflt (refine' Fn.use (fits_yes ?hs ?h1 ?h2) ?B ?F ?X ?N ?T ?kK ?kd ?ku ?_); kaf_pre; (case h1 => with_reducible assumption); (case h2 => with_reducible assumption); (case hs => kpt_turns); rintro r' l' h' tk' F' N' ⟨e', er'⟩; subst e'; subst er'; (try dsimp only); (try k_fold)))
local macro_rules | `(tactic| walk_at "subscriptTail") => `(tactic| (k_here; (with_reducible show wpAny _ _ (subscriptTail _ _ (Value.ref _) (Value.str _ _)) _ _ _); k_dflt (refine' kda_item (knd := PySem.strKind _ _) ?N ?hp ?hd (strKind_is _ _ _ _) ?hl ?_; (case N => k_asm); (case hp => k_mem); (case hd => with_reducible assumption); (case hl => with_reducible assumption))))
local macro_rules | `(tactic| walk_at "RngSrc") => `(tactic| (k_here; refine Stop.out ?_; walk_say "STOP SRC"))
local macro_rules | `(tactic| walk_at "TurnR") => `(tactic| (k_here; refine Stop.out ?_; walk_say "STOP TURN"))
theorem check_ok {w : World} {mean : ExcName → Option Value} {mg mb : Str → Option Value} {l z : Led} {kd : Addr} {okd : Obj} {D : List (Str × Value)} {x v : Value} {word : Str} {os : List OpV} {tgs : List Tag} (hs : ∀ p ∈ z, p ∈ l)
    (hx : IsOp z x word os) (hkd : (kd, okd) ∈ l) (hD : okd.IsDictOf (PySem.strKind PySem.Challenge.rw_og0194_01.row.prog w) D) (hlo : (kd == sysModules) = false) (hl : valueAt D word = some v) (hv : KindTup z v tgs)
    (heq : os.map OpV.tag = tgs) (hn : tgs.length ≤ 6) (htg : ∀ tg ∈ tgs, tg ∈ [Tag.n, Tag.m, Tag.s, Tag.a]) :
    Fn w mean mg mb 529 20 [.ref kd, x] l (fun r l' => ∃ z', Ex l z l' z' ∧ r = .none) := by
  unfold Fn
  k_fill
  intro dp un gd cn cs aa ccd cl outer A₀ base h₀ L m s Q E B F X N T hk hdd hu hret
  cases hx with
  | @mk x dx ol _ _ _ _ _ tw arr eo _ hx hdx hol ho =>
  obtain ⟨tp, arr2, rfl, htp, hsz, hits⟩ := hv
  have hxl := hs _ hx
  have hdl := hs _ hdx
  have holl := hs _ hol
  have htpl := hs _ htp
  have hsome : (valueAt D word).isSome = true := by rw [hl]; rfl
  have hlen : arr.size = arr2.size := by rw [hsz, ← heq, List.length_map, ← ho.len, Array.length_toList]
  have hle : arr2.size ≤ 6 := by rw [hsz]; exact hn
  kqd_sub
  · exfalso
    omega
  refine Stop.in ?_
  refine For_rng (by k_asm) ?_
  k_steps
  refine Stop.in ?_
  refine RngSrc.of (n := arr2.size) (fun m₀ news₀ i m' news' => (∃ q, m' = gl m₀ [Str.ofString "at"] (Str.ofString "wanted") (.ref tp) q) ∧ news' = news₀) rfl (by k_asm) (by k_asm) (by assumption) (Nat.le_trans hle (by decide)) ⟨⟨_, gl_self _ _ rfl⟩, rfl⟩ ?_ ?_
  · rintro i t' I oI m₁ news₁ h1 tk1 hi ⟨⟨q, rfl⟩, rfl⟩ F1 N1 off
    have hi2 : i < os.length := by rw [← ho.len, Array.length_toList]; omega
    obtain ⟨v, o, hvi, hoi, hopd⟩ := ho.at hi2
    have hvi2 : arr[(i : Int).toNat]? = some v := by simpa using hvi
    have htgi : tgs[i]? = some o.tag := by rw [← heq, List.getElem?_map, hoi]; rfl
    obtain ⟨tk9, hki⟩ := hits i _ htgi
    have hki2 : arr2[(i : Int).toNat]? = some (.str (kindStr o.tag) tk9) := by simpa using hki
    have htm : o.tag ∈ [Tag.n, Tag.m, Tag.s, Tag.a] := htg _ (List.mem_of_getElem? htgi)
    have hin : (i : Int) < 10 := by omega
    k_steps
    refine Stop.in ?_
    exact TurnR.nxt _ (by k_asm) (by k_asm) (fun _ h => h) off ⟨gl_of _ _ rfl (by keq_hits), rfl⟩
  rintro h1 tk1 m1 news1 F1 N1 ⟨⟨q, rfl⟩, rfl⟩
  k_steps
  exact hret _ _ _ _ (by k_asm) (by k_asm) ⟨_, Ex.refl, rfl⟩
/-- the operands are wrong: PaintFault -/
theorem check_bad {w : World} {mean : ExcName → Option Value} {mg mb : Str → Option Value} {l z : Led} {kd : Addr} {okd : Obj} {D : List (Str × Value)} {x v : Value} {word : Str} {os : List OpV} {tgs : List Tag} (hs : ∀ p ∈ z, p ∈ l)
    (hx : IsOp z x word os) (hkd : (kd, okd) ∈ l) (hD : okd.IsDictOf (PySem.strKind PySem.Challenge.rw_og0194_01.row.prog w) D) (hlo : (kd == sysModules) = false) (hl : valueAt D word = some v) (hv : KindTup z v tgs)
    (heq : os.map OpV.tag ≠ tgs) (hn : tgs.length ≤ 6) (hno : os.length ≤ 10) (hword : word.length ≤ 10) (htg : ∀ tg ∈ tgs, tg ∈ [Tag.n, Tag.m, Tag.s, Tag.a]) :
    Th w mean mg mb 529 30 [.ref kd, x] l z 59 := by
  unfold Th
  k_fill
  intro dp un gd cn cs aa ccd cl outer A₀ base h₀ L m s Q E B F X N T hk hdd hu hthr
  cases hx with
  | @mk x dx ol _ _ _ _ _ tw arr eo _ hx hdx hol ho =>
  obtain ⟨tp, arr2, rfl, htp, hsz, hits⟩ := hv
  have hxl := hs _ hx
  have hdl := hs _ hdx
  have holl := hs _ hol
  have htpl := hs _ htp
  have hsome : (valueAt D word).isSome = true := by rw [hl]; rfl
  have hlen : arr.size = os.length := by rw [← ho.len, Array.length_toList]
  have hle : arr2.size ≤ 6 := by rw [hsz]; exact hn
  have hle2 : arr.size ≤ 10 := by omega
  kqd_sub
  · refine Stop.in ?_
    refine raise_fault (C := 59) (by k_asm) (by k_asm) (topRead_of (by k_asm)) (by k_is) fault59 rfl ?_ (by rfl) (by rfl)
    k_steps
    refine' Fn.use (fault_ok fault59) ?B ?F ?X ?N ?T ?kK ?kd ?ku ?_
    kaf_pre
    kqd_all
    exact fun h2 R2 U2 => hthr _ _ _ _ _ _ (by with_reducible assumption) U2 (RaisedS.sub R2 hs)
  refine Stop.in ?_
  refine For_rng (by k_asm) ?_
  k_steps
  refine Stop.in ?_
  refine RngSrc.of (n := arr2.size) (fun m₀ news₀ i m' news' => (∃ q, m' = gl m₀ [Str.ofString "at"] (Str.ofString "wanted") (.ref tp) q) ∧ news' = news₀ ∧ ∀ j, j < i → (os.map OpV.tag)[j]? = tgs[j]?) rfl (by k_asm) (by k_asm) (by assumption) (Nat.le_trans hle (by decide)) ⟨⟨_, gl_self _ _ rfl⟩, rfl, fun _ h => absurd h (Nat.not_lt_zero _)⟩ ?_ ?_
  · rintro i t' I oI m₁ news₁ h1 tk1 hi ⟨⟨q, rfl⟩, hnews, hall⟩ F1 N1 off
    subst hnews
    have hi2 : i < os.length := by omega
    have hi3 : i < tgs.length := by omega
    obtain ⟨v, o, hvi, hoi, hopd⟩ := ho.at hi2
    have hvi2 : arr[(i : Int).toNat]? = some v := by simpa using hvi
    have htgi : tgs[i]? = some tgs[i] := List.getElem?_eq_getElem hi3
    have htm : tgs[i] ∈ [Tag.n, Tag.m, Tag.s, Tag.a] := htg _ (List.getElem_mem hi3)
    obtain ⟨tk9, hki⟩ := hits i _ htgi
    have hki2 : arr2[(i : Int).toNat]? = some (.str (kindStr tgs[i]) tk9) := by simpa using hki
    have hin : (i : Int) < 10 := by omega
    by_cases htag : o.tag = tgs[i]
    · rw [← htag] at hki2 htm
      k_steps
      refine Stop.in ?_
      refine TurnR.nxt _ (by k_asm) (by k_asm) (fun _ h => h) off ⟨gl_of _ _ rfl (by keq_hits), rfl, fun j hj => ?_⟩
      rcases Nat.lt_succ_iff_lt_or_eq.mp hj with hj | rfl
      · exact hall j hj
      · rw [List.getElem?_map, hoi, htgi, ← htag]; rfl
    · k_steps
      refine Stop.in ?_
      refine raise_fault (C := 59) (by k_asm) (by k_asm) (topRead_of (by k_asm)) (by k_is) fault59 rfl ?_ (by rfl) (by rfl)
      k_steps
      refine' Fn.use (fault_ok fault59) ?B ?F ?X ?N ?T ?kK ?kd ?ku ?_
      kaf_pre
      kqd_all
      exact fun h2 R2 U2 => hthr _ _ _ _ _ _ (by with_reducible assumption) U2 (RaisedS.sub R2 (sub_cons hs))
  rintro h1 tk1 m1 news1 F1 N1 ⟨⟨q, rfl⟩, hnews, hall⟩
  refine absurd (List.ext_getElem? fun j => ?_) heq
  by_cases hj : j < arr2.size
  · exact hall j hj
  · rw [List.getElem?_eq_none (by rw [List.length_map]; omega), List.getElem?_eq_none (by omega)]
end
local macro_rules | `(tactic| walk_at "pad") => `(tactic| skip)
local macro_rules | `(tactic| walk_at "pad") => `(tactic| skip)
local macro_rules | `(tactic| walk_at "pad") => `(tactic| skip)
local macro_rules | `(tactic| walk_at "pad") => `(tactic| skip)
local macro_rules | `(tactic| walk_at "pad") => `(tactic| skip)
local macro_rules | `(tactic| walk_at "pad") => `(tactic| skip)
local macro_rules | `(tactic| walk_at "pad") => `(tactic| skip)
local macro_rules | `(tactic| walk_at "pad") => `(tactic| skip)
local macro_rules | `(tactic| walk_at "pad") => `(tactic| skip)
local macro_rules | `(tactic| walk_at "pad") => `(tactic| skip)
local macro_rules | `(tactic| walk_at "pad") => `(tactic| skip)
local macro_rules | `(tactic| walk_at "pad") => `(tactic| skip)

theorem item_lst {prog : Program} {w : World} {A : Around} {E : Value → Shared → Prop} {s : Shared} {h₀ : Heap} {L : Addr} {news : Led} {n : Nat} {value slice : PySem.Expr} {l : Addr} {vs : List Value} {k : Int} {u : Tok} {v : Value} {Q : Value → Shared → Prop}
    (N : News h₀ L s.heap news) (hm : (l, W.listOf vs.toArray n) ∈ news) (h0 : 0 ≤ k) (hhi : k < 2 ^ 63) (hx : vs[k.toNat]? = some v) (h : Q v s)
    (hs : subscripted slice false (.ref l) (.int k u) = operate [.ref l, .int k u] (getItem (.ref l) (.int k u)) := by with_unfolding_all rfl) :
    wpAny (model prog w) A (subscriptTail value slice (.ref l) (.int k u)) Q E s :=
  item_arr (News.isArr N hm) h0 hhi (by simpa using hx) h hs
local macro_rules | `(tactic| walk_at "subscriptTail") => `(tactic| (k_here; (with_reducible show wpAny _ _ (subscriptTail _ _ (Value.ref _) (Value.int _ _)) _ _ _); k_dflt (refine' item_lst ?N ?l ?a ?b ?c ?_; (case N => k_asm); (case l => k_mem); (case a => decide); (case b => decide); (case c => rfl))))
/-- the sheet: its font A, no forms -/
inductive IsSheet (w : World) (z : Led) : Value → Value → Prop
  | mk {x dx fo fm : Addr} {hsh0 hsh1 hsh2 hsh3 : Int} {ksh0 ksh1 ksh2 ksh3 : Tok} {ops own f : Value} {ofo ofm : Obj} (hx : (x, W.instObj 462 dx) ∈ z) (hdx : (dx, W.dictOf [⟨hsh0, .str (Str.ofString "operations") ksh0, ops⟩, ⟨hsh1, .str (Str.ofString "fonts") ksh1, .ref fo⟩, ⟨hsh2, .str (Str.ofString "forms") ksh2, .ref fm⟩, ⟨hsh3, .str (Str.ofString "own") ksh3, own⟩] 4) ∈ z) (hfo : (fo, ofo) ∈ z) (hD : ofo.IsDictOf (PySem.strKind PySem.Challenge.rw_og0194_01.row.prog w) [(Str.ofString "A", f)]) (lo : (fo == sysModules) = false) (hf : IsFont z f)
      (hfm : (fm, ofm) ∈ z) (hDm : ofm.IsDictOf (PySem.strKind PySem.Challenge.rw_og0194_01.row.prog w) []) (lom : (fm == sysModules) = false) : IsSheet w z (.ref x) f
theorem IsSheet.mono {w : World} {z z' : Led} {v f : Value} (h : IsSheet w z v f) (s : ∀ p ∈ z, p ∈ z') : IsSheet w z' v f := by
  cases h with
  | mk hx hdx hfo hD lo hf hfm hDm lom => exact .mk (s _ hx) (s _ hdx) (s _ hfo) hD lo (hf.mono s) (s _ hfm) hDm lom
section
local macro_rules | `(tactic| walk_at "call ref") => `(tactic| (k_here; (with_reducible show wpAny _ _ (call (Value.ref _) _) _ _ _); (refine Stop.out ?_; walk_say "STOP")))
local macro_rules | `(tactic| walk_at "call ref") => `(tactic| (k_here; (with_reducible show wpAny _ _ (call (Value.ref 185) _) _ _ _); k_dflt ((refine' Fn.useM (M := [_, _, _, _, _, _, _]) ?N ?hs (decOf_ok (sub_on ?hs) ?h1) ?B ?F ?X ?T ?kK ?kd ?ku ?O ?_); (case N => k_asm); (case hs => with_reducible assumption); kaf_suf; (case h1 => kwd_rel); rintro r' l' z' h' tk' F' N' G' hz' hl' O' D'; (have hG' := Grow.of G')); (try simp only [List.cons_append, List.nil_append, List.map_cons, List.map_nil] at N' O'); (obtain ⟨x', er'⟩ := IsD.isRef D'); subst er'; (try dsimp only); (try k_fold)))
local macro_rules | `(tactic| walk_at "compareOp NotIn str ref") => `(tactic| (k_here; k_dflt (refine' kd_notin (knd := PySem.strKind _ _) ?N ?p ?d ?lo (strKind_is _ _ _ _) _ ?b ?_; (case N => k_asm); (case p => k_mem); (case d => with_reducible assumption); (case lo => with_reducible assumption); (case b => first | (show _ = true; rfl) | (show _ = false; rfl)))))
local macro_rules | `(tactic| walk_at "subscriptTail") => `(tactic| (k_here; (with_reducible show wpAny _ _ (subscriptTail _ _ (Value.ref _) (Value.str _ _)) _ _ _); k_dflt (refine' kda_item (knd := PySem.strKind _ _) ?N ?hp ?hd (strKind_is _ _ _ _) ?hl ?_; (case N => k_asm); (case hp => k_mem); (case hd => with_reducible assumption); (case hl => rfl))))
theorem choose_ok {w : World} {mean : ExcName → Option Value} {mg mb : Str → Option Value} {l z : Led} {tour dt pl fd st ds sp : Addr} {sheet : Value} {htw0 htw1 htw2 htw3 htw4 htw5 : Int} {ktw0 ktw1 ktw2 ktw3 ktw4 ktw5 : Tok} {hst0 hst1 hst2 hst3 : Int} {kst0 kst1 kst2 kst3 : Tok} {row place ctm font size : Value} {parr farr : Array Value} {pn fn : Nat} {osp : Obj} {ol : Addr} {v1 v2 f : Value} {eo : Nat} (hs : ∀ p ∈ z, p ∈ l)
    (hA : Ap7 tour dt pl fd st ds sp) (O : Off [tour, dt, pl, fd, st, ds, sp] l) (hsh : IsSheet w z sheet f) (hol : (ol, W.listOf #[v1, v2] eo) ∈ z) (h1 : IsName z v1 true) (h2 : IsNum z v2 1) :
    Fn w mean mg mb 599 12 [.ref tour, .ref ol] ([(tour, W.instObj 581 dt), (dt, W.dictOf [⟨htw0, .str (Str.ofString "sheet") ktw0, sheet⟩, ⟨htw1, .str (Str.ofString "state") ktw1, .ref st⟩, ⟨htw2, .str (Str.ofString "pile") ktw2, .ref pl⟩, ⟨htw3, .str (Str.ofString "row") ktw3, row⟩, ⟨htw4, .str (Str.ofString "place") ktw4, place⟩, ⟨htw5, .str (Str.ofString "found") ktw5, .ref fd⟩] 6), (pl, W.listOf parr pn), (fd, W.listOf farr fn), (st, W.instObj 497 ds), (ds, W.dictOf [⟨hst0, .str (Str.ofString "ctm") kst0, ctm⟩, ⟨hst1, .str (Str.ofString "font") kst1, font⟩, ⟨hst2, .str (Str.ofString "size") kst2, size⟩, ⟨hst3, .str (Str.ofString "spacing") kst3, .ref sp⟩] 4), (sp, osp)] ++ l)
      (TP [tour, dt, pl, fd, st, ds, sp] l z (fun M' z' r => r = .none ∧ ∃ size', M' = [(tour, W.instObj 581 dt), (dt, W.dictOf [⟨htw0, .str (Str.ofString "sheet") ktw0, sheet⟩, ⟨htw1, .str (Str.ofString "state") ktw1, .ref st⟩, ⟨htw2, .str (Str.ofString "pile") ktw2, .ref pl⟩, ⟨htw3, .str (Str.ofString "row") ktw3, row⟩, ⟨htw4, .str (Str.ofString "place") ktw4, place⟩, ⟨htw5, .str (Str.ofString "found") ktw5, .ref fd⟩] 6), (pl, W.listOf parr pn), (fd, W.listOf farr fn), (st, W.instObj 497 ds), (ds, W.dictOf [⟨hst0, .str (Str.ofString "ctm") kst0, ctm⟩, ⟨hst1, .str (Str.ofString "font") kst1, f⟩, ⟨hst2, .str (Str.ofString "size") kst2, size'⟩, ⟨hst3, .str (Str.ofString "spacing") kst3, .ref sp⟩] 4), (sp, osp)] ∧ IsD z' size' 1)) := by
  unfold Fn
  k_fill
  intro dp un gd cn cs aa ccd cl outer A₀ base h₀ L m s Q E B F X N T hk hdd hu hret
  simp only [List.cons_append, List.nil_append] at N
  have hA9 := hA
  obtain ⟨n1, n2, n3, n4, n5, n6, n7, n8, n9, n10, n11, n12, n13, n14, n15, n16, n17, n18, n19, n20, n21⟩ := hA9
  cases hsh with
  | mk hx hdx hfo hD lo hf hfm hDm lom =>
  cases h1 with
  | mk hnx hndx =>
  simp only [if_true] at hndx
  have m1 := hs _ hx
  have m2 := hs _ hdx
  have m3 := hs _ hfo
  have m4 := hs _ hol
  have m5 := hs _ hnx
  have m6 := hs _ hndx
  kqd_sub
  exact hret _ _ _ _ (by k_asm) (by k_asm) ⟨_, _, _, app7, by ktu_off1L, by with_reducible assumption, rfl, _, rfl, by kwd_rel⟩
theorem choose_bad {w : World} {mean : ExcName → Option Value} {mg mb : Str → Option Value} {l z : Led} {tour dt pl fd st ds sp : Addr} {sheet : Value} {htw0 htw1 htw2 htw3 htw4 htw5 : Int} {ktw0 ktw1 ktw2 ktw3 ktw4 ktw5 : Tok} {hst0 hst1 hst2 hst3 : Int} {kst0 kst1 kst2 kst3 : Tok} {row place ctm font size : Value} {parr farr : Array Value} {pn fn : Nat} {osp : Obj} {ol : Addr} {v1 v2 f : Value} {eo : Nat} (hs : ∀ p ∈ z, p ∈ l)
    (hA : Ap7 tour dt pl fd st ds sp) (O : Off [tour, dt, pl, fd, st, ds, sp] l) (hsh : IsSheet w z sheet f) (hol : (ol, W.listOf #[v1, v2] eo) ∈ z) (h1 : IsName z v1 false) :
    Th w mean mg mb 599 12 [.ref tour, .ref ol] ([(tour, W.instObj 581 dt), (dt, W.dictOf [⟨htw0, .str (Str.ofString "sheet") ktw0, sheet⟩, ⟨htw1, .str (Str.ofString "state") ktw1, .ref st⟩, ⟨htw2, .str (Str.ofString "pile") ktw2, .ref pl⟩, ⟨htw3, .str (Str.ofString "row") ktw3, row⟩, ⟨htw4, .str (Str.ofString "place") ktw4, place⟩, ⟨htw5, .str (Str.ofString "found") ktw5, .ref fd⟩] 6), (pl, W.listOf parr pn), (fd, W.listOf farr fn), (st, W.instObj 497 ds), (ds, W.dictOf [⟨hst0, .str (Str.ofString "ctm") kst0, ctm⟩, ⟨hst1, .str (Str.ofString "font") kst1, font⟩, ⟨hst2, .str (Str.ofString "size") kst2, size⟩, ⟨hst3, .str (Str.ofString "spacing") kst3, .ref sp⟩] 4), (sp, osp)] ++ l) z 71 := by
  unfold Th
  k_fill
  intro dp un gd cn cs aa ccd cl outer A₀ base h₀ L m s Q E B F X N T hk hdd hu hthr
  simp only [List.cons_append, List.nil_append] at N
  cases hsh with
  | mk hx hdx hfo hD lo hf hfm hDm lom =>
  cases h1 with
  | mk hnx hndx =>
  simp only [Bool.false_eq_true, if_false] at hndx
  have m1 := hs _ hx
  have m2 := hs _ hdx
  have m3 := hs _ hfo
  have m4 := hs _ hol
  have m5 := hs _ hnx
  have m6 := hs _ hndx
  kqd_sub
  refine Stop.in ?_
  refine raise_fault (C := 71) (by k_asm) (by k_asm) (topRead_of (by k_asm)) (by k_is) fault71 rfl ?_ (by rfl) (by rfl)
  k_steps
  refine' Fn.use (fault_ok fault71) ?B ?F ?X ?N ?T ?kK ?kd ?ku ?_
  kaf_pre
  kqd_all
  exact fun h2 R2 U2 => hthr _ _ _ _ _ _ (by with_reducible assumption) U2 (RaisedS.sub R2 (by kpt_turns))
end
local macro_rules | `(tactic| walk_at "pad") => `(tactic| skip)
local macro_rules | `(tactic| walk_at "pad") => `(tactic| skip)
local macro_rules | `(tactic| walk_at "pad") => `(tactic| skip)
local macro_rules | `(tactic| walk_at "pad") => `(tactic| skip)
local macro_rules | `(tactic| walk_at "pad") => `(tactic| skip)

section
local macro_rules | `(tactic| walk_at "call ref") => `(tactic| (k_here; (with_reducible show wpAny _ _ (call (Value.ref _) _) _ _ _); (refine Stop.out ?_; walk_say "STOP")))
local macro_rules | `(tactic| walk_at "call ref") => `(tactic| (k_here; (with_reducible show wpAny _ _ (call (Value.ref 522) _) _ _ _); k_dflt (refine' Th.use (shown_raises ?hs ?hx ?hds) ?B ?F ?X ?N ?T ?kK ?kd ?ku ?_); kaf_pre; (case hs => kpt_turns); (case hx => k_mem); (case hds => k_mem); refine Stop.out ?_; walk_say "STOP THROWN"))
theorem show_bad {w : World} {mean : ExcName → Option Value} {mg mb : Str → Option Value} {l z : Led} {tour dt pl fd st ds sp : Addr} {sheet : Value} {htw0 htw1 htw2 htw3 htw4 htw5 : Int} {ktw0 ktw1 ktw2 ktw3 ktw4 ktw5 : Tok} {hst0 hst1 hst2 hst3 : Int} {kst0 kst1 kst2 kst3 : Tok} {row place ctm size oc : Value} {parr farr : Array Value} {pn fn : Nat} {osp : Obj} {np : Nat} (hs : ∀ p ∈ z, p ∈ l) (hp : IsM z place np) :
    Th w mean mg mb 550 20 [.ref tour, oc] ([(tour, W.instObj 581 dt), (dt, W.dictOf [⟨htw0, .str (Str.ofString "sheet") ktw0, sheet⟩, ⟨htw1, .str (Str.ofString "state") ktw1, .ref st⟩, ⟨htw2, .str (Str.ofString "pile") ktw2, .ref pl⟩, ⟨htw3, .str (Str.ofString "row") ktw3, row⟩, ⟨htw4, .str (Str.ofString "place") ktw4, place⟩, ⟨htw5, .str (Str.ofString "found") ktw5, .ref fd⟩] 6), (pl, W.listOf parr pn), (fd, W.listOf farr fn), (st, W.instObj 497 ds), (ds, W.dictOf [⟨hst0, .str (Str.ofString "ctm") kst0, ctm⟩, ⟨hst1, .str (Str.ofString "font") kst1, .none⟩, ⟨hst2, .str (Str.ofString "size") kst2, size⟩, ⟨hst3, .str (Str.ofString "spacing") kst3, .ref sp⟩] 4), (sp, osp)] ++ l) z 71 := by
  unfold Th
  k_fill
  intro dp un gd cn cs aa ccd cl outer A₀ base h₀ L m s Q E B F X N T hk hdd hu hthr
  simp only [List.cons_append, List.nil_append] at N
  obtain ⟨apl, rfl⟩ := hp.isRef
  kqd_sub
  refine Stop.in ?_
  intro e t vs g2 h2 tk2 F2 U2 R2
  refine leave_onS (by k_asm) F2 R2 U2 ?_
  exact fun h3 R3 _ U3 => hthr _ _ _ _ _ _ (by with_reducible assumption) U3 R3
end
local macro_rules | `(tactic| walk_at "pad") => `(tactic| skip)
local macro_rules | `(tactic| walk_at "pad") => `(tactic| skip)
local macro_rules | `(tactic| walk_at "pad") => `(tactic| skip)

/-- the octets' counts of the strings in an array -/
def octs (ps : List (Option Nat)) : List Nat := ps.filterMap id
theorem octs_take {ps : List (Option Nat)} {i : Nat} {o : Option Nat} (h : ps[i]? = some o) : octs (ps.take (i + 1)) = octs (ps.take i) ++ o.toList := by
  unfold octs
  rw [List.take_add_one, h, List.filterMap_append]
  cases o <;> rfl
theorem octs_mem {ps : List (Option Nat)} {i k : Nat} (h : ps[i]? = some (some k)) : k ∈ octs ps := by
  unfold octs
  rw [List.mem_filterMap]
  exact ⟨_, List.mem_of_getElem? h, rfl⟩
theorem octs_all (ps : List (Option Nat)) : octs (ps.take ps.length) = octs ps := by rw [List.take_length]
theorem PartsAt.at {z : Led} : ∀ {vs : List Value} {ps : List (Option Nat)}, PartsAt z vs ps → ∀ (i : Nat) (v : Value), vs[i]? = some v → (ps[i]? = some none ∧ IsNum z v 1) ∨ ∃ k, ps[i]? = some (some k) ∧ IsStr z v k
  | _, _, .nil => fun _ _ h => by simp at h
  | _, _, .num h r => fun i v e => by
    cases i with
    | zero => cases e; exact .inl ⟨rfl, h⟩
    | succ i => exact r.at i _ e
  | _, _, .str h r => fun i v e => by
    cases i with
    | zero => cases e; exact .inr ⟨_, rfl, h⟩
    | succ i => exact r.at i _ e
/-- a mutable cell I kept behind the seven is taken out again -/
theorem Ex.out {I : Addr} {oI : Obj} {l z l₂ z₂ : Led} (g : Ex ((I, oI) :: l) z l₂ z₂) (h : ∀ p ∈ l, p.1 ≠ I) : ∃ l₃, Ex l z l₃ z₂ ∧ (∀ p ∈ (I, oI) :: l₃, p ∈ l₂) ∧ (∀ p ∈ l₃, p.1 ≠ I) := by
  obtain ⟨t, rfl, rfl, u⟩ := g
  refine ⟨t ++ l, ⟨t, rfl, rfl, u.sub fun p hp => .tail _ hp⟩, fun p hp => ?_, fun p hp => ?_⟩
  · rcases List.mem_cons.mp hp with rfl | hp
    · exact List.mem_append_right _ (.head _)
    · exact (List.mem_append.mp hp).elim (List.mem_append_left _) fun h => List.mem_append_right _ (.tail _ h)
  · rcases List.mem_append.mp hp with hp | hp
    · exact fun e => u p hp _ (.head _) e.symm
    · exact h p hp
theorem Off.sub {as : List Addr} {l l' : Led} (o : Off as l) (s : ∀ p ∈ l', p ∈ l) : Off as l' := fun p hp => o p (s p hp)
theorem News.turn {h₀ h : Heap} {L I : Addr} {oI : Obj} {M l : Led} (N : News h₀ L h ((I, oI) :: (M ++ l))) : News h₀ L h (M ++ (I, oI) :: l) := News.sub N fun p hp => by
  rcases List.mem_append.mp hp with hp | hp
  · exact .tail _ (List.mem_append_left _ hp)
  · rcases List.mem_cons.mp hp with rfl | hp
    · exact .head _
    · exact .tail _ (List.mem_append_right _ hp)
theorem off_app {I : Addr} {M l : Led} (h : ∀ p ∈ M ++ l, p.1 ≠ I) : ∀ p ∈ l, p.1 ≠ I := fun p hp => h p (List.mem_append_right _ hp)
theorem off_in {I : Addr} {oI : Obj} {M l : Led} (h : ∀ p ∈ M ++ l, p.1 ≠ I) (O : Off (M.map (·.1)) l) : Off (M.map (·.1)) ((I, oI) :: l) := fun p hp => by
  rcases List.mem_cons.mp hp with rfl | hp
  · intro q
    obtain ⟨y, hy, e⟩ := List.mem_map.mp q
    exact h y (List.mem_append_left _ hy) e
  · exact O p hp
theorem inM {I : Addr} {M l : Led} (h : ∀ p ∈ M ++ l, p.1 ≠ I) : I ∉ M.map (·.1) := fun q => by
  obtain ⟨y, hy, e⟩ := List.mem_map.mp q
  exact h y (List.mem_append_left _ hy) e
theorem offM {I : Addr} {M : Led} {as : List Addr} (h : I ∉ as) (e : M.map (·.1) = as) : ∀ p ∈ M, p.1 ≠ I := fun p hp q => h (by rw [← e, ← q]; exact List.mem_map_of_mem hp)
theorem sub_app {I : Addr} {oI : Obj} {M l l' : Led} (h : ∀ p ∈ (I, oI) :: l, p ∈ l') : ∀ p ∈ (I, oI) :: (M ++ l), p ∈ M ++ l' := fun p hp => by
  rcases List.mem_cons.mp hp with rfl | hp
  · exact List.mem_append_right _ (h _ (.head _))
  · rcases List.mem_append.mp hp with hp | hp
    · exact List.mem_append_left _ hp
    · exact List.mem_append_right _ (h _ (.tail _ hp))
theorem app_off {I : Addr} {M l : Led} (hM : ∀ p ∈ M, p.1 ≠ I) (h : ∀ p ∈ l, p.1 ≠ I) : ∀ p ∈ M ++ l, p.1 ≠ I := fun p hp => (List.mem_append.mp hp).elim (hM p) (h p)
section
local macro_rules | `(tactic| walk_at "call ref") => `(tactic| (k_here; (with_reducible show wpAny _ _ (call (Value.ref _) _) _ _ _); (refine Stop.out ?_; walk_say "STOP")))
local macro_rules | `(tactic| walk_at "call ref") => `(tactic| (k_here; (with_reducible show wpAny _ _ (call (Value.ref 494) _) _ _ _); k_dflt ((refine' Fn.useM (M := [_, _, _, _, _, _, _]) ?N ?hs (stretched_ok (sub_on ?hs) ?hx ?hds ?hsp ?ho ?hw ?hz ?hn ?hb) ?B ?F ?X ?T ?kK ?kd ?ku ?O ?_); (case N => k_asm); (case hs => with_reducible assumption); kaf_suf; (case hx => k_mem); (case hds => k_mem); (case hsp => k_mem); (case ho => with_reducible assumption); (case hw => kwd_rel); (case hz => kwd_rel); (case hn => exact Nat.le_refl _); (case hb => omega); rintro r' l' z' h' tk' F' N' G' hz' hl' O' D'; (have hG' := Grow.of G')); (try simp only [List.cons_append, List.nil_append, List.map_cons, List.map_nil] at N' O'); (obtain ⟨x', er'⟩ := IsD.isRef D'); subst er'; (try dsimp only); (try k_fold)))
local macro_rules | `(tactic| walk_at "call ref") => `(tactic| (k_here; (with_reducible show wpAny _ _ (call (Value.ref 108) _) _ _ _); k_dflt ((refine' Fn.useM (M := [_, _, _, _, _, _, _]) ?N ?hs (times_ok (sub_on ?hs) ?h1 ?h2 ?h3 ?h4) ?B ?F ?X ?T ?kK ?kd ?ku ?O ?_); (case N => k_asm); (case hs => with_reducible assumption); kaf_suf; (case h1 => kwd_rel); (case h2 => kwd_rel); (case h3 => exact Nat.le_refl _); (case h4 => omega); rintro r' l' z' h' tk' F' N' G' hz' hl' O' D'; (have hG' := Grow.of G')); (try simp only [List.cons_append, List.nil_append, List.map_cons, List.map_nil] at N' O'); (obtain ⟨x', er'⟩ := IsD.isRef D'); subst er'; (try dsimp only); (try k_fold)))
local macro_rules | `(tactic| walk_at "call ref") => `(tactic| (k_here; (with_reducible show wpAny _ _ (call (Value.ref 515) _) _ _ _); k_dflt ((refine' Fn.useM (M := [_, _, _, _, _, _, _]) ?N ?hs (along_ok (sub_on ?hs) ?h1 ?h2 ?h3) ?B ?F ?X ?T ?kK ?kd ?ku ?O ?_); (case N => k_asm); (case hs => with_reducible assumption); kaf_suf; (case h1 => kfm_turns); (case h2 => kwd_rel); (case h3 => omega); rintro r' l' z' h' tk' F' N' G' hz' hl' O' D'; (have hG' := Grow.of G')); (try simp only [List.cons_append, List.nil_append, List.map_cons, List.map_nil] at N' O'); (obtain ⟨x', er'⟩ := IsM.isRef D'); subst er'; (try dsimp only); (try k_fold)))
local macro_rules | `(tactic| walk_at "call ref") => `(tactic| (k_here; (with_reducible show wpAny _ _ (call (Value.ref 167) _) _ _ _); k_dflt ((refine' Fn.useM (M := [_, _, _, _, _, _, _]) ?N ?hs (decNew_ok (n := 3) (sub_on ?hs) ?h1 ?h2 ?h3) ?B ?F ?X ?T ?kK ?kd ?ku ?O ?_); (case N => k_asm); (case hs => with_reducible assumption); kaf_suf; (case h1 => decide); (case h2 => decide); (case h3 => decide); rintro r' l' z' h' tk' F' N' G' hz' hl' O' D'; (have hG' := Grow.of G')); (try simp only [List.cons_append, List.nil_append, List.map_cons, List.map_nil] at N' O'); (obtain ⟨x', er'⟩ := IsD.isRef D'); subst er'; (try dsimp only); (try k_fold)))
local macro_rules | `(tactic| walk_at "call ref") => `(tactic| (k_here; (with_reducible show wpAny _ _ (call (Value.ref 550) _) _ _ _); k_dflt ((refine' Fn.useT (M := [_, _, _, _, _, _, _]) ?N ?hs ?O (show_ok ?hs ?hA ?O ?ho ?hf ?h5 ?h1 ?h2 ?h3 ?h4 ?hc ?hp ?hb ?hn ?hz) ?B ?F ?X ?T ?kK ?kd ?ku ?_); (case N => k_asm); (case hs => with_reducible assumption); (case O => with_reducible assumption); (case hA => with_reducible assumption); kt_ors; (case ho => with_reducible assumption); (case hf => ktu_offI); (case h5 => kwd_rel); (case h1 => kwd_rel); (case h2 => kwd_rel); (case h3 => kwd_rel); (case h4 => kwd_rel); (case hc => kfm_turns); (case hp => kfm_turns); (case hb => with_reducible assumption); (case hn => omega); (case hz => omega); rintro r' M' l' z' h' tk' F' N' G' hz' hl' O' D'; (have hG' := Grow.of G')); (obtain ⟨e1', pc', fa', fn', e2', hm', hsz'⟩ := D'); subst e1'; subst e2'; (obtain ⟨x', er'⟩ := IsM.isRef hm'); subst er'; (try simp only [List.cons_append, List.nil_append, List.map_cons, List.map_nil] at N' O'); (try dsimp only); (try k_fold)))
local macro_rules | `(tactic| walk_at "call ref") => `(tactic| (k_here; (with_reducible show wpAny _ _ (call (Value.ref 291) _) _ _ _); k_dflt (refine' Fn.use (kind_ok ?hs ?h1) ?B ?F ?X ?N ?T ?kK ?kd ?ku ?_); kaf_pre; (case h1 => kpf_close); (case hs => kpt_turns); rintro r' l' h' tk' F' N' ⟨e', t', er'⟩; subst e'; subst er'; (try dsimp only); (try k_fold)))
theorem show_parts_ok {w : World} {mean : ExcName → Option Value} {mg mb : Str → Option Value} {l z : Led} {tour dt pl fd st ds sp : Addr} {sheet : Value} {htw0 htw1 htw2 htw3 htw4 htw5 : Int} {ktw0 ktw1 ktw2 ktw3 ktw4 ktw5 : Tok} {hst0 hst1 hst2 hst3 : Int} {kst0 kst1 kst2 kst3 : Tok} {row place ctm font size : Value} {parr farr : Array Value} {pn fn : Nat} {osp : Obj} {tc tw tz tl ts : Value} {ax : Addr} {arr : Array Value} {e : Nat} {ps : List (Option Nat)} {nc np : Nat} (hs : ∀ p ∈ z, p ∈ l)
    (hA : Ap7 tour dt pl fd st ds sp) (O : Off [tour, dt, pl, fd, st, ds, sp] l) (ho : spD w osp tc tw tz tl ts) (hax : (ax, W.listOf arr e) ∈ z) (hps : PartsAt z arr.toList ps) (hle : ps.length ≤ 3) (hf : octs ps ≠ [] → IsFont z font) (h5 : IsD z size 1) (h1 : IsD z tc 2) (h2 : IsD z tw 2) (h3 : IsD z tz 2) (h4 : IsD z ts 2)
    (hc : IsM z ctm nc) (hp : IsM z place np) (hn : np + nc ≤ 1900) (hz : farr.size ≤ 800) :
    Fn w mean mg mb 557 60 [.ref tour, .ref ax] ([(tour, W.instObj 581 dt), (dt, W.dictOf [⟨htw0, .str (Str.ofString "sheet") ktw0, sheet⟩, ⟨htw1, .str (Str.ofString "state") ktw1, .ref st⟩, ⟨htw2, .str (Str.ofString "pile") ktw2, .ref pl⟩, ⟨htw3, .str (Str.ofString "row") ktw3, row⟩, ⟨htw4, .str (Str.ofString "place") ktw4, place⟩, ⟨htw5, .str (Str.ofString "found") ktw5, .ref fd⟩] 6), (pl, W.listOf parr pn), (fd, W.listOf farr fn), (st, W.instObj 497 ds), (ds, W.dictOf [⟨hst0, .str (Str.ofString "ctm") kst0, ctm⟩, ⟨hst1, .str (Str.ofString "font") kst1, font⟩, ⟨hst2, .str (Str.ofString "size") kst2, size⟩, ⟨hst3, .str (Str.ofString "spacing") kst3, .ref sp⟩] 4), (sp, osp)] ++ l)
      (TP [tour, dt, pl, fd, st, ds, sp] l z (fun M' z' r => r = .none ∧ ∃ place' farr' fn', M' = [(tour, W.instObj 581 dt), (dt, W.dictOf [⟨htw0, .str (Str.ofString "sheet") ktw0, sheet⟩, ⟨htw1, .str (Str.ofString "state") ktw1, .ref st⟩, ⟨htw2, .str (Str.ofString "pile") ktw2, .ref pl⟩, ⟨htw3, .str (Str.ofString "row") ktw3, row⟩, ⟨htw4, .str (Str.ofString "place") ktw4, place'⟩, ⟨htw5, .str (Str.ofString "found") ktw5, .ref fd⟩] 6), (pl, W.listOf parr pn), (fd, W.listOf farr' fn'), (st, W.instObj 497 ds), (ds, W.dictOf [⟨hst0, .str (Str.ofString "ctm") kst0, ctm⟩, ⟨hst1, .str (Str.ofString "font") kst1, font⟩, ⟨hst2, .str (Str.ofString "size") kst2, size⟩, ⟨hst3, .str (Str.ofString "spacing") kst3, .ref sp⟩] 4), (sp, osp)] ∧ IsM z' place' (np + 54) ∧ farr'.size = farr.size + (octs ps).sum)) := by
  unfold Fn
  k_fill
  intro dp un gd cn cs aa ccd cl outer A₀ base h₀ L m s Q E B F X N T hk hdd hu hret
  simp only [List.cons_append, List.nil_append] at N
  have hA9 := hA
  obtain ⟨n1, n2, n3, n4, n5, n6, n7, n8, n9, n10, n11, n12, n13, n14, n15, n16, n17, n18, n19, n20, n21⟩ := hA9
  have haxl := hs _ hax
  kqd_sub
  refine Stop.in ?_
  refine For_led (by k_asm) (fun _ _ _ _ _ a b => go_name a b) ?_
  k_steps
  refine Stop.in ?_
  refine ForSrc.of (fun m₀ news₀ i m' news' => (∃ q, m' = gl m₀ [Str.ofString "part", Str.ofString "way"] (Str.ofString "self") (.ref tour) q) ∧ ∃ place' farr' fn' l₁ z₁, news' = [(tour, W.instObj 581 dt), (dt, W.dictOf [⟨htw0, .str (Str.ofString "sheet") ktw0, sheet⟩, ⟨htw1, .str (Str.ofString "state") ktw1, .ref st⟩, ⟨htw2, .str (Str.ofString "pile") ktw2, .ref pl⟩, ⟨htw3, .str (Str.ofString "row") ktw3, row⟩, ⟨htw4, .str (Str.ofString "place") ktw4, place'⟩, ⟨htw5, .str (Str.ofString "found") ktw5, .ref fd⟩] 6), (pl, W.listOf parr pn), (fd, W.listOf farr' fn'), (st, W.instObj 497 ds), (ds, W.dictOf [⟨hst0, .str (Str.ofString "ctm") kst0, ctm⟩, ⟨hst1, .str (Str.ofString "font") kst1, font⟩, ⟨hst2, .str (Str.ofString "size") kst2, size⟩, ⟨hst3, .str (Str.ofString "spacing") kst3, .ref sp⟩] 4), (sp, osp)] ++ l₁ ∧ Ex l z l₁ z₁ ∧ Off [tour, dt, pl, fd, st, ds, sp] l₁ ∧ IsM z₁ place' (np + 18 * i) ∧ farr'.size = farr.size + (octs (ps.take i)).sum ∧ farr'.size ≤ farr.size + 2 * i) rfl (by k_asm) (by k_asm) (.inr ⟨_, by k_mem, rfl, _, rfl⟩) ⟨⟨_, gl_self _ _ rfl⟩, _, _, _, _, _, rfl, Ex.refl, O, hp, rfl, Nat.le_refl _⟩ ?_ ?_
  · rintro i v I oI m₁ news₁ h1 tk1 hi hv ⟨⟨q, rfl⟩, place', farr', fn', l₁, z₁, rfl, G, O1, hp1, hsz1, hsz2⟩ F1 N1 off S
    have hG := G.ll
    have hzz := G.zz
    have hzl := sub_cons (q := (I, oI)) (G.zl hs)
    have hG' := Grow.of G
    have N2 := News.turn N1
    have offI := off_app off
    have hI : I ∉ [tour, dt, pl, fd, st, ds, sp] := inM off
    have O2 : Off [tour, dt, pl, fd, st, ds, sp] ((I, oI) :: l₁) := off_in off O1
    simp only [List.cons_append, List.nil_append] at N2
    clear N1
    have hn2 : i < 3 := Nat.lt_of_lt_of_le hi (by rw [← Array.length_toList, hps.len]; exact hle)
    obtain ⟨apl, rfl⟩ := hp1.isRef
    obtain ⟨asz, rfl⟩ := h5.isRef
    have step : ∀ o : Option Nat, ps[i]? = some o → (octs (ps.take (i + 1))).sum = (octs (ps.take i)).sum + o.getD 0 := fun o ho => by
      rw [octs_take ho, List.sum_append]
      cases o <;> rfl
    rcases hps.at i v (by rw [← Array.getElem?_toList] at hv; exact hv) with ⟨hpi, hnum⟩ | ⟨k, hpi, hstr⟩
    · have st0 := step _ hpi
      rcases hnum.kind with hkd | hkd
      all_goals
        have hkd := hkd.mono hzz
        k_steps
        refine Stop.in ?_
        rename Led => zF
        rename (Ex _ _ _ zF) => GF
        have GA := Ex.trans (l := (I, oI) :: l₁) (z := z₁) (by ktu_off1L) GF
        obtain ⟨l3, E3, s3, o3⟩ := Ex.out GA offI
        refine TurnQ.nxt (_ ++ l3) (by k_asm) (by k_asm) (sub_app (M := [_, _, _, _, _, _, _]) s3) (app_off (offM hI rfl) o3) (.inr ⟨_, List.mem_append_right _ (E3.zl (G.zl hs) _ (E3.zz _ (hzz _ hax))), rfl, _, rfl⟩) ⟨gl_of _ _ rfl (by keq_hits), _, _, _, _, _, rfl, G.trans E3, Off.sub (by with_reducible assumption) (fun p hp => s3 p (.tail _ hp)), by kfm_turns, ?_, ?_⟩
        · rw [st0]; exact hsz1
        · omega
    · have st0 := step _ hpi
      cases hstr with
      | mk hx0 hdx0 hb =>
      have hx := hs _ hx0
      have hdx := hs _ hdx0
      have hkd : KindAt z₁ (.ref _) "string" := (KindAt.string (.mk hx0 hdx0 hb)).mono hzz
      have hft := hf fun e => by
        have := octs_mem hpi
        rw [e] at this
        cases this
      k_steps
      refine Stop.in ?_
      rename Led => zF
      rename (Ex _ _ _ zF) => GF
      have GA := Ex.trans (l := (I, oI) :: l₁) (z := z₁) (by ktu_off1L) GF
      obtain ⟨l3, E3, s3, o3⟩ := Ex.out GA offI
      refine TurnQ.nxt (_ ++ l3) (by k_asm) (by k_asm) (sub_app (M := [_, _, _, _, _, _, _]) s3) (app_off (offM hI rfl) o3) (.inr ⟨_, List.mem_append_right _ (E3.zl (G.zl hs) _ (E3.zz _ (hzz _ hax))), rfl, _, rfl⟩) ⟨gl_of _ _ rfl (by keq_hits), _, _, _, _, _, rfl, G.trans E3, Off.sub (by with_reducible assumption) (fun p hp => s3 p (.tail _ hp)), by kfm_turns, ?_, ?_⟩
      · simp only [Option.getD_some] at st0
        omega
      · omega
  · rintro h1 tk1 m1 news1 F1 N1 ⟨⟨q, rfl⟩, place', farr', fn', l₁, z₁, rfl, G, O1, hp1, hsz1, hsz2⟩
    (try dsimp only); (try k_fold)
    k_steps
    have hsz9 : farr'.size = farr.size + (octs ps).sum := by rw [hsz1, show arr.size = ps.length from by rw [← Array.length_toList, hps.len], octs_all]
    exact hret _ _ _ _ (by k_asm) (by k_asm) ⟨_, _, _, rfl, G, O1, rfl, _, _, _, rfl, hp1.more (by rw [← hps.len, Array.length_toList] at hle; omega), hsz9⟩
end
local macro_rules | `(tactic| walk_at "pad") => `(tactic| skip)
local macro_rules | `(tactic| walk_at "pad") => `(tactic| skip)
local macro_rules | `(tactic| walk_at "pad") => `(tactic| skip)
local macro_rules | `(tactic| walk_at "pad") => `(tactic| skip)
local macro_rules | `(tactic| walk_at "pad") => `(tactic| skip)
local macro_rules | `(tactic| walk_at "pad") => `(tactic| skip)
local macro_rules | `(tactic| walk_at "pad") => `(tactic| skip)
local macro_rules | `(tactic| walk_at "pad") => `(tactic| skip)
section
local macro_rules | `(tactic| walk_at "call ref") => `(tactic| (k_here; (with_reducible show wpAny _ _ (call (Value.ref _) _) _ _ _); (refine Stop.out ?_; walk_say "STOP")))
local macro_rules | `(tactic| walk_at "call ref") => `(tactic| (k_here; (with_reducible show wpAny _ _ (call (Value.ref 494) _) _ _ _); k_dflt ((refine' Fn.useM (M := [_, _, _, _, _, _, _]) ?N ?hs (stretched_ok (sub_on ?hs) ?hx ?hds ?hsp ?ho ?hw ?hz ?hn ?hb) ?B ?F ?X ?T ?kK ?kd ?ku ?O ?_); (case N => k_asm); (case hs => with_reducible assumption); kaf_suf; (case hx => k_mem); (case hds => k_mem); (case hsp => k_mem); (case ho => with_reducible assumption); (case hw => kwd_rel); (case hz => kwd_rel); (case hn => exact Nat.le_refl _); (case hb => omega); rintro r' l' z' h' tk' F' N' G' hz' hl' O' D'; (have hG' := Grow.of G')); (try simp only [List.cons_append, List.nil_append, List.map_cons, List.map_nil] at N' O'); (obtain ⟨x', er'⟩ := IsD.isRef D'); subst er'; (try dsimp only); (try k_fold)))
local macro_rules | `(tactic| walk_at "call ref") => `(tactic| (k_here; (with_reducible show wpAny _ _ (call (Value.ref 108) _) _ _ _); k_dflt ((refine' Fn.useM (M := [_, _, _, _, _, _, _]) ?N ?hs (times_ok (sub_on ?hs) ?h1 ?h2 ?h3 ?h4) ?B ?F ?X ?T ?kK ?kd ?ku ?O ?_); (case N => k_asm); (case hs => with_reducible assumption); kaf_suf; (case h1 => kwd_rel); (case h2 => kwd_rel); (case h3 => exact Nat.le_refl _); (case h4 => omega); rintro r' l' z' h' tk' F' N' G' hz' hl' O' D'; (have hG' := Grow.of G')); (try simp only [List.cons_append, List.nil_append, List.map_cons, List.map_nil] at N' O'); (obtain ⟨x', er'⟩ := IsD.isRef D'); subst er'; (try dsimp only); (try k_fold)))
local macro_rules | `(tactic| walk_at "call ref") => `(tactic| (k_here; (with_reducible show wpAny _ _ (call (Value.ref 515) _) _ _ _); k_dflt ((refine' Fn.useM (M := [_, _, _, _, _, _, _]) ?N ?hs (along_ok (sub_on ?hs) ?h1 ?h2 ?h3) ?B ?F ?X ?T ?kK ?kd ?ku ?O ?_); (case N => k_asm); (case hs => with_reducible assumption); kaf_suf; (case h1 => kfm_turns); (case h2 => kwd_rel); (case h3 => omega); rintro r' l' z' h' tk' F' N' G' hz' hl' O' D'; (have hG' := Grow.of G')); (try simp only [List.cons_append, List.nil_append, List.map_cons, List.map_nil] at N' O'); (obtain ⟨x', er'⟩ := IsM.isRef D'); subst er'; (try dsimp only); (try k_fold)))
local macro_rules | `(tactic| walk_at "call ref") => `(tactic| (k_here; (with_reducible show wpAny _ _ (call (Value.ref 167) _) _ _ _); k_dflt ((refine' Fn.useM (M := [_, _, _, _, _, _, _]) ?N ?hs (decNew_ok (n := 3) (sub_on ?hs) ?h1 ?h2 ?h3) ?B ?F ?X ?T ?kK ?kd ?ku ?O ?_); (case N => k_asm); (case hs => with_reducible assumption); kaf_suf; (case h1 => decide); (case h2 => decide); (case h3 => decide); rintro r' l' z' h' tk' F' N' G' hz' hl' O' D'; (have hG' := Grow.of G')); (try simp only [List.cons_append, List.nil_append, List.map_cons, List.map_nil] at N' O'); (obtain ⟨x', er'⟩ := IsD.isRef D'); subst er'; (try dsimp only); (try k_fold)))
local macro_rules | `(tactic| walk_at "call ref") => `(tactic| (k_here; (with_reducible show wpAny _ _ (call (Value.ref 291) _) _ _ _); k_dflt (refine' Fn.use (kind_ok ?hs ?h1) ?B ?F ?X ?N ?T ?kK ?kd ?ku ?_); kaf_pre; (case h1 => kpf_close); (case hs => kpt_turns); rintro r' l' h' tk' F' N' ⟨e', t', er'⟩; subst e'; subst er'; (try dsimp only); (try k_fold)))
local macro_rules | `(tactic| walk_at "call ref") => `(tactic| (k_here; (with_reducible show wpAny _ _ (call (Value.ref 550) _) _ _ _); refine Stop.out ?_; walk_say "STOP SHOW"))
/-- a string is met without a font -/
theorem show_parts_bad {w : World} {mean : ExcName → Option Value} {mg mb : Str → Option Value} {l z : Led} {tour dt pl fd st ds sp : Addr} {sheet : Value} {htw0 htw1 htw2 htw3 htw4 htw5 : Int} {ktw0 ktw1 ktw2 ktw3 ktw4 ktw5 : Tok} {hst0 hst1 hst2 hst3 : Int} {kst0 kst1 kst2 kst3 : Tok} {row place ctm size : Value} {parr farr : Array Value} {pn fn : Nat} {osp : Obj} {tc tw tz tl ts : Value} {ax : Addr} {arr : Array Value} {e : Nat} {ps : List (Option Nat)} {np : Nat} (hs : ∀ p ∈ z, p ∈ l)
    (hA : Ap7 tour dt pl fd st ds sp) (O : Off [tour, dt, pl, fd, st, ds, sp] l) (ho : spD w osp tc tw tz tl ts) (hax : (ax, W.listOf arr e) ∈ z) (hps : PartsAt z arr.toList ps) (hle : ps.length ≤ 3) (hf : octs ps ≠ []) (h5 : IsD z size 1) (h3 : IsD z tz 2)
    (hp : IsM z place np) (hn : np ≤ 1900) :
    Th w mean mg mb 557 60 [.ref tour, .ref ax] ([(tour, W.instObj 581 dt), (dt, W.dictOf [⟨htw0, .str (Str.ofString "sheet") ktw0, sheet⟩, ⟨htw1, .str (Str.ofString "state") ktw1, .ref st⟩, ⟨htw2, .str (Str.ofString "pile") ktw2, .ref pl⟩, ⟨htw3, .str (Str.ofString "row") ktw3, row⟩, ⟨htw4, .str (Str.ofString "place") ktw4, place⟩, ⟨htw5, .str (Str.ofString "found") ktw5, .ref fd⟩] 6), (pl, W.listOf parr pn), (fd, W.listOf farr fn), (st, W.instObj 497 ds), (ds, W.dictOf [⟨hst0, .str (Str.ofString "ctm") kst0, ctm⟩, ⟨hst1, .str (Str.ofString "font") kst1, .none⟩, ⟨hst2, .str (Str.ofString "size") kst2, size⟩, ⟨hst3, .str (Str.ofString "spacing") kst3, .ref sp⟩] 4), (sp, osp)] ++ l) z 71 := by
  unfold Th
  k_fill
  intro dp un gd cn cs aa ccd cl outer A₀ base h₀ L m s Q E B F X N T hk hdd hu hthr
  simp only [List.cons_append, List.nil_append] at N
  have hA9 := hA
  obtain ⟨n1, n2, n3, n4, n5, n6, n7, n8, n9, n10, n11, n12, n13, n14, n15, n16, n17, n18, n19, n20, n21⟩ := hA9
  have haxl := hs _ hax
  kqd_sub
  refine Stop.in ?_
  refine For_led (by k_asm) (fun _ _ _ _ _ a b => go_name a b) ?_
  k_steps
  refine Stop.in ?_
  refine ForSrc.of (fun m₀ news₀ i m' news' => (∃ q, m' = gl m₀ [Str.ofString "part", Str.ofString "way"] (Str.ofString "self") (.ref tour) q) ∧ ∃ place' l₁ z₁, news' = [(tour, W.instObj 581 dt), (dt, W.dictOf [⟨htw0, .str (Str.ofString "sheet") ktw0, sheet⟩, ⟨htw1, .str (Str.ofString "state") ktw1, .ref st⟩, ⟨htw2, .str (Str.ofString "pile") ktw2, .ref pl⟩, ⟨htw3, .str (Str.ofString "row") ktw3, row⟩, ⟨htw4, .str (Str.ofString "place") ktw4, place'⟩, ⟨htw5, .str (Str.ofString "found") ktw5, .ref fd⟩] 6), (pl, W.listOf parr pn), (fd, W.listOf farr fn), (st, W.instObj 497 ds), (ds, W.dictOf [⟨hst0, .str (Str.ofString "ctm") kst0, ctm⟩, ⟨hst1, .str (Str.ofString "font") kst1, .none⟩, ⟨hst2, .str (Str.ofString "size") kst2, size⟩, ⟨hst3, .str (Str.ofString "spacing") kst3, .ref sp⟩] 4), (sp, osp)] ++ l₁ ∧ Ex l z l₁ z₁ ∧ Off [tour, dt, pl, fd, st, ds, sp] l₁ ∧ IsM z₁ place' (np + 18 * i) ∧ octs (ps.take i) = []) rfl (by k_asm) (by k_asm) (.inr ⟨_, by k_mem, rfl, _, rfl⟩) ⟨⟨_, gl_self _ _ rfl⟩, _, _, _, rfl, Ex.refl, O, hp, rfl⟩ ?_ ?_
  · rintro i v I oI m₁ news₁ h1 tk1 hi hv ⟨⟨q, rfl⟩, place', l₁, z₁, rfl, G, O1, hp1, hsz1⟩ F1 N1 off S
    have hG := G.ll
    have hzz := G.zz
    have hzl := sub_cons (q := (I, oI)) (G.zl hs)
    have hG' := Grow.of G
    have N2 := News.turn N1
    have offI := off_app off
    have hI : I ∉ [tour, dt, pl, fd, st, ds, sp] := inM off
    have O2 : Off [tour, dt, pl, fd, st, ds, sp] ((I, oI) :: l₁) := off_in off O1
    simp only [List.cons_append, List.nil_append] at N2
    clear N1
    have hn2 : i < 3 := Nat.lt_of_lt_of_le hi (by rw [← Array.length_toList, hps.len]; exact hle)
    obtain ⟨apl, rfl⟩ := hp1.isRef
    obtain ⟨asz, rfl⟩ := h5.isRef
    rcases hps.at i v (by rw [← Array.getElem?_toList] at hv; exact hv) with ⟨hpi, hnum⟩ | ⟨k, hpi, hstr⟩
    · rcases hnum.kind with hkd | hkd
      all_goals
        have hkd := hkd.mono hzz
        k_steps
        refine Stop.in ?_
        rename Led => zF
        rename (Ex _ _ _ zF) => GF
        have GA := Ex.trans (l := (I, oI) :: l₁) (z := z₁) (by ktu_off1L) GF
        obtain ⟨l3, E3, s3, o3⟩ := Ex.out GA offI
        refine TurnQ.nxt (_ ++ l3) (by k_asm) (by k_asm) (sub_app (M := [_, _, _, _, _, _, _]) s3) (app_off (offM hI rfl) o3) (.inr ⟨_, List.mem_append_right _ (E3.zl (G.zl hs) _ (E3.zz _ (hzz _ hax))), rfl, _, rfl⟩) ⟨gl_of _ _ rfl (by keq_hits), _, _, _, rfl, G.trans E3, Off.sub (by with_reducible assumption) (fun p hp => s3 p (.tail _ hp)), by kfm_turns, ?_⟩
        rw [octs_take hpi, hsz1]; rfl
    · cases hstr with
      | mk hx0 hdx0 hb =>
      have hx := hs _ hx0
      have hdx := hs _ hdx0
      have hkd : KindAt z₁ (.ref _) "string" := (KindAt.string (.mk hx0 hdx0 hb)).mono hzz
      k_steps
      refine Stop.in ?_
      refine' Th.use (show_bad (z := z₁) ?hs ?hp) ?B ?F ?X ?N ?T ?kK ?kd ?ku ?_
      kaf_pre
      case hs => with_reducible assumption
      case hp => with_reducible assumption
      intro e t vs g2 h2 tk2 F2 U2 R2
      refine leave_onS (by k_asm) F2 R2 U2 ?_
      exact fun h3 R3 _ U3 => hthr _ _ _ _ _ _ (by with_reducible assumption) U3 (RaisedS.sub R3 hzz)
  · rintro h1 tk1 m1 news1 F1 N1 ⟨⟨q, rfl⟩, place', l₁, z₁, rfl, G, O1, hp1, hsz1⟩
    refine absurd ?_ hf
    rw [show arr.size = ps.length from by rw [← Array.length_toList, hps.len], octs_all] at hsz1
    exact hsz1
end
local macro_rules | `(tactic| walk_at "pad") => `(tactic| skip)
local macro_rules | `(tactic| walk_at "pad") => `(tactic| skip)
local macro_rules | `(tactic| walk_at "pad") => `(tactic| skip)
local macro_rules | `(tactic| walk_at "pad") => `(tactic| skip)
local macro_rules | `(tactic| walk_at "pad") => `(tactic| skip)
local macro_rules | `(tactic| walk_at "pad") => `(tactic| skip)
local macro_rules | `(tactic| walk_at "pad") => `(tactic| skip)
local macro_rules | `(tactic| walk_at "pad") => `(tactic| skip)

theorem dict_copy {prog : Program} {w : World} {K : Type} [DecidableEq K] {knd : KeyKind prog w K} {A : Around} {E : Value → Shared → Prop} {s : Shared} {h₀ : Heap} {L src : Addr} {m : Str → Option Value} {news : Led} {o : Obj} {kvs : List (K × Value)} {Q : Value → Shared → Prop} (F : Fr h₀ L s.heap m) (N : News h₀ L s.heap news) (hbig : h₀.NoLimit)
    (hm : (src, o) ∈ news) (hd : o.IsDictOf knd kvs) (lo : (src == sysModules) = false) (hsz : kvs.length ≤ 1000)
    (k : ∀ d h' o', Fr h₀ L h' m → News h₀ L h' ((d, o') :: news) → (∀ p ∈ news, p.1 < d) → (d == sysModules) = false → o'.IsDictOf knd kvs → Q (.ref d) { s with heap := h' }) :
    wpAny (model prog w) A (call (.type "dict") [.ref src]) Q E s := by
  refine kt_call_dict lo (kda_dict N hm hd) (by rw [sizeLine_eq]; omega) fun h' hm' hs => ?_
  obtain ⟨o', ho', hd'⟩ := Heap.dictOf_iff.mp hm'
  have N1 := News.push F N { cls := .type "dict", data := .dict #[] }
  exact k _ h' o' ((F.push _).change hs (N1 _ (.head _)).2.1 (N1.fresh (.head _))) (N1.setHead N.apart hs ho') (fun p hp => Heap.lt_size (N p hp).1) (F.notModules (modules_low hbig)) hd'
/-- a state's parts: its dict of spacing at sp, its matrix, its font (f or none), its size -/
inductive StOk (w : World) (f : Value) (z : Led) : Addr → Obj → Value → Value → Value → Bool → Nat → Prop
  | mk {sp : Addr} {osp : Obj} {ctm font size tc tw tz tl ts : Value} {b : Bool} {n : Nat} (lo : (sp == sysModules) = false) (ho : spD w osp tc tw tz tl ts) (h1 : IsD z tc 2) (h2 : IsD z tw 2) (h3 : IsD z tz 2) (h4 : IsD z tl 2) (h5 : IsD z ts 2) (hs : IsD z size 1) (hc : IsM z ctm n) (hf : font = if b then f else .none) :
    StOk w f z sp osp ctm font size b n
theorem StOk.mono {w : World} {f : Value} {z z' : Led} {sp : Addr} {osp : Obj} {ctm font size : Value} {b : Bool} {n : Nat} (h : StOk w f z sp osp ctm font size b n) (s : ∀ p ∈ z, p ∈ z') : StOk w f z' sp osp ctm font size b n := by
  cases h with
  | mk lo ho h1 h2 h3 h4 h5 hs hc hf => exact .mk lo ho (h1.mono s) (h2.mono s) (h3.mono s) (h4.mono s) (h5.mono s) (hs.mono s) (hc.mono s) hf
theorem StOk.more {w : World} {f : Value} {z : Led} {sp : Addr} {osp : Obj} {ctm font size : Value} {b : Bool} {n n' : Nat} (h : StOk w f z sp osp ctm font size b n) (e : n ≤ n') : StOk w f z sp osp ctm font size b n' := by
  cases h with
  | mk lo ho h1 h2 h3 h4 h5 hs hc hf => exact .mk lo ho h1 h2 h3 h4 h5 hs (hc.more e) hf
/-- a call that makes cells C of its own -/
def MP (l z : Led) (P : Led → Led → Value → Prop) (r : Value) (l' : Led) : Prop := ∃ C l₂ z₂, l' = C ++ l₂ ∧ Ex l z l₂ z₂ ∧ Off (C.map (·.1)) l₂ ∧ P C z₂ r
theorem Fn.useC {w : World} {mean : ExcName → Option Value} {mg mb : Str → Option Value} {f : Addr} {k : Nat} {vs : List Value} {M l z : Led} {P : Led → Led → Value → Prop}
    {dp un : Nat} {gd : Option (List Code)} {cn : Str} {cs : Scope} {a : Addr} {ccd : Value} {cl : List (Str × Addr)} {outer : List Env} {A₀ : Around} {base h₀ : Heap} {L : Addr} {m : Str → Option Value} {s : Shared} {Q E : Value → Shared → Prop}
    (N : News h₀ L s.heap (M ++ l)) (hs : ∀ p ∈ z, p ∈ l) (O : Off (M.map (·.1)) l)
    (C : Fn w mean mg mb f k vs (M ++ l) (MP (M ++ l) z P))
    (B : Below A₀ base outer h₀) (F : Fr h₀ L s.heap m) (X : (hd.heap_39 w.params).In h₀) (T : Top hd.view_39 (looseW hd.view_39 [Str.ofString "PaperError", Str.ofString "OTHER_CODES"]) mean mg mb h₀) (hk : cs.kind = .function) (hd : dp + k < recursionLimit) (hu : un + 8 * k < cLine)
    (ret : ∀ r C l₂ z₂ h' tk', Fr h₀ L h' m → News h₀ L h' (C ++ (M ++ l₂)) → Ex l z l₂ z₂ → (∀ p ∈ z, p ∈ z₂) → (∀ p ∈ z₂, p ∈ l₂) → Off (M.map (·.1)) l₂ → Off (C.map (·.1)) (M ++ l₂) → P C z₂ r → Q r { s with heap := h', toks := tk' }) :
    wpAny (model PySem.Challenge.rw_og0194_01.row.prog w) (ktrTop dp un gd cn cs L a ccd cl outer) (call (.ref f) vs) Q E s := by
  refine Fn.use C B F X N T hk hd hu ?_
  rintro r l' h' tk' F' N' ⟨C', l₂, z₂, rfl, ⟨t, rfl, rfl, u⟩, O', p⟩
  have sb : ∀ p ∈ M ++ (t ++ l), p ∈ t ++ (M ++ l) := fun p h => by
    simp only [List.mem_append] at h ⊢
    rcases h with h | h | h <;> simp [h]
  refine ret r C' (t ++ l) (t ++ z) h' tk' F' (News.sub N' fun p h => (List.mem_append.mp h).elim (List.mem_append_left _) fun h => List.mem_append_right _ (sb p h)) ⟨t, rfl, rfl, u.sub fun p h => List.mem_append_right _ h⟩ (fun p h => List.mem_append_right _ h) (fun p h => (List.mem_append.mp h).elim (List.mem_append_left _) fun h => List.mem_append_right _ (hs p h)) (O.up fun p hp e => ?_) (fun p hp => O' p (sb p hp)) p
  obtain ⟨q, hq, e⟩ := List.mem_map.mp e
  exact u p hp q (List.mem_append_left _ hq) e
/-- the dict of a state -/
def StD (o : Obj) (c f s5 : Value) (sp : Addr) : Prop := ∃ (hst0 hst1 hst2 hst3 : Int) (kst0 kst1 kst2 kst3 : Tok), o = W.dictOf [⟨hst0, .str (Str.ofString "ctm") kst0, c⟩, ⟨hst1, .str (Str.ofString "font") kst1, f⟩, ⟨hst2, .str (Str.ofString "size") kst2, s5⟩, ⟨hst3, .str (Str.ofString "spacing") kst3, .ref sp⟩] 4
abbrev st3 (x ds sp : Addr) (dict osp : Obj) : Led := [(x, W.instObj 497 ds), (ds, dict), (sp, osp)]
theorem off3_of {x ds sp : Addr} {l l' : Led} (h : Off [x, ds] l) (k : ∀ p ∈ l', p.1 < sp) (s : ∀ p ∈ l, p ∈ l') : Off [x, ds, sp] l := .cons (fun p hp e => h p hp (by rw [e]; exact .head _)) (.cons (fun p hp e => h p hp (by rw [e]; exact .tail _ (.head _))) (.one fun p hp => Nat.ne_of_lt (k p (s p hp))))
theorem off_new2 {a b d : Addr} {oa ob : Obj} {l : Led} (h : ∀ p ∈ (a, oa) :: (b, ob) :: l, p.1 < d) (o : Off [a, b] l) : Off [d, a, b] l := .cons (fun p hp => Nat.ne_of_lt (h p (.tail _ (.tail _ hp)))) o
theorem Off.rot {a b c : Addr} {l : Led} (o : Off [c, a, b] l) : Off [a, b, c] l := fun p hp e => o p hp (by
  simp only [List.mem_cons, List.not_mem_nil, or_false] at e ⊢
  rcases e with h | h | h <;> simp [h])
theorem off_q {x ds sp d : Addr} {a b c : Addr × Obj} {l : Led} (o : Off [x, ds, sp] l) (h : ∀ p ∈ a :: b :: c :: l, p.1 < d) : Off [x, ds, d] l := fun p hp e => by
  simp only [List.mem_cons, List.not_mem_nil, or_false] at e
  rcases e with e | e | e
  · exact o p hp (by simp [e])
  · exact o p hp (by simp [e])
  · exact Nat.ne_of_lt (h p (.tail _ (.tail _ (.tail _ hp)))) e
theorem swap4 {a b c e : Addr × Obj} {l : Led} : ∀ p ∈ [a, b, c] ++ l, p ∈ c :: a :: b :: e :: l := fun p hp => by
  simp only [List.cons_append, List.nil_append, List.mem_cons] at hp ⊢
  rcases hp with h | h | h | h <;> simp [h]
theorem swap3 {a b c : Addr × Obj} {l : Led} : ∀ p ∈ [a, b, c] ++ l, p ∈ c :: a :: b :: l := fun p hp => by
  simp only [List.cons_append, List.nil_append, List.mem_cons] at hp ⊢
  rcases hp with h | h | h | h <;> simp [h]
section
local macro_rules | `(tactic| walk_at "call ref") => `(tactic| (k_here; (with_reducible show wpAny _ _ (call (Value.ref _) _) _ _ _); (refine Stop.out ?_; walk_say "STOP")))
local macro_rules | `(tactic| walk_at "call ref") => `(tactic| (k_here; (with_reducible show wpAny _ _ (call (Value.ref 167) _) _ _ _); k_dflt ((refine' Fn.useM (M := [_, _]) ?N ?hs (decNew_ok (n := 1) (sub_on ?hs) ?h1 ?h2 ?h3) ?B ?F ?X ?T ?kK ?kd ?ku ?O ?_); (case N => k_asm); (case hs => with_reducible assumption); kaf_suf; (case h1 => decide); (case h2 => decide); (case h3 => decide); rintro r' l' z' h' tk' F' N' G' hz' hl' O' D'; (have hG' := Grow.of G')); (try simp only [List.cons_append, List.nil_append, List.map_cons, List.map_nil] at N' O'); (obtain ⟨x', er'⟩ := IsD.isRef D'); subst er'; (try dsimp only); (try k_fold)))
local macro_rules | `(tactic| walk_at "call ref") => `(tactic| (k_here; (with_reducible show wpAny _ _ (call (Value.ref 167) _) _ _ _); k_dflt ((refine' Fn.useM (M := [_, _, _]) ?N ?hs (decNew_ok (n := 2) (sub_on ?hs) ?h1 ?h2 ?h3) ?B ?F ?X ?T ?kK ?kd ?ku ?O ?_); (case N => k_asm); (case hs => with_reducible assumption); kaf_suf; (case h1 => decide); (case h2 => decide); (case h3 => decide); rintro r' l' z' h' tk' F' N' G' hz' hl' O' D'; (have hG' := Grow.of G')); (try simp only [List.cons_append, List.nil_append, List.map_cons, List.map_nil] at N' O'); (obtain ⟨x', er'⟩ := IsD.isRef D'); subst er'; (try dsimp only); (try k_fold)))
local macro_rules | `(tactic| walk_at "eval Dict") => `(tactic| (k_here; k_dflt (refine' kdn_str ?q ?F ?N ?b ?a ?l ?e ?n ?_; (case q => rfl); (case F => k_asm); (case N => k_asm); (case b => exact Top.nolimit (by k_asm)); (case a => rfl); (case l => rfl); (case e => exact List.cons_ne_nil _ _); (case n => exact Nat.le_of_ble_eq_true rfl)); intro d' h' o' F' N' l1 lo' hd'; (have l9 := l1); (have o9 := off_new2 l1 (by with_reducible assumption)); (try k_lt l1)))
theorem stNew_ok {w : World} {mean : ExcName → Option Value} {mg mb : Str → Option Value} {l z : Led} {c : Value} {n : Nat} (hs : ∀ p ∈ z, p ∈ l) (hc : IsM z c n) :
    Fn w mean mg mb 497 8 [c] l (MP l z fun C z' r => ∃ x ds sp osp dd s5, r = .ref x ∧ C = st3 x ds sp dd osp ∧ @Ne Nat x ds ∧ @Ne Nat x sp ∧ @Ne Nat ds sp ∧ StD dd c .none s5 sp ∧ ∀ f, StOk w f z' sp osp c .none s5 false n) := by
  unfold Fn
  k_fill
  intro dp un gd cn cs aa ccd cl outer A₀ base h₀ L m s Q E B F X N T hk hdd hu hret
  obtain ⟨ac, rfl⟩ := hc.isRef
  kba_ints
  rename (_ ∧ _ ∧ AllLt _ _) => lA
  rename (Obj.IsDictOf _ _ _) => hD
  refine hret _ _ _ _ (by k_asm) (News.sub (by k_asm) swap3) ⟨[_, _, _], _, _, rfl, by ktu_off1L, Off.rot (by with_reducible assumption), _, _, _, _, _, _, rfl, rfl, Nat.ne_of_gt (by assumption), Nat.ne_of_lt lA.1, Nat.ne_of_lt lA.2.1, ⟨_, _, _, _, _, _, _, _, rfl⟩, fun f => .mk (by with_reducible assumption) hD ?_ ?_ ?_ ?_ ?_ ?_ ?_ rfl⟩
  all_goals first | kwd_rel | kfm_turns
end
local macro_rules | `(tactic| walk_at "pad") => `(tactic| skip)
local macro_rules | `(tactic| walk_at "pad") => `(tactic| skip)
local macro_rules | `(tactic| walk_at "pad") => `(tactic| skip)
local macro_rules | `(tactic| walk_at "pad") => `(tactic| skip)
local macro_rules | `(tactic| walk_at "pad") => `(tactic| skip)
section
local macro_rules | `(tactic| walk_at "call ref") => `(tactic| (k_here; (with_reducible show wpAny _ _ (call (Value.ref _) _) _ _ _); (refine Stop.out ?_; walk_say "STOP")))
local macro_rules | `(tactic| walk_at "call ref") => `(tactic| (k_here; (with_reducible show wpAny _ _ (call (Value.ref 497) _) _ _ _); k_dflt ((refine' Fn.useC (M := []) ?N ?hs ?O (stNew_ok (sub_on ?hs) ?hc) ?B ?F ?X ?T ?kK ?kd ?ku ?_); (case N => k_asm); (case hs => with_reducible assumption); (case O => first | exact Off.nil | ((show Off [] _); with_reducible assumption)); kt_ors; (case hc => kfm_turns); rintro r' C' l' z' h' tk' F' N' G' hz' hl' O' P' D'; (have hG' := Grow.of G')); k_dflt ((obtain ⟨x', ds', sp', osp', dd', s5', er', ec', n1', n2', n3', hd', ho'⟩ := D'); subst er'; subst ec'; (obtain ⟨q1', q2', q3', q4', q5', q6', q7', q8', ed'⟩ := hd'); subst ed'; skip); (try simp only [st3, List.cons_append, List.nil_append, List.map_cons, List.map_nil] at N' O' P'); (try dsimp only); (try k_fold)))
local macro_rules | `(tactic| k_ne) => `(tactic| (refine neN ?_; (try dsimp only); first | with_reducible assumption | exact Ne.symm (by with_reducible assumption) | omega))
local macro_rules | `(tactic| walk_at "call type:dict") => `(tactic| (k_here; (with_reducible show wpAny _ _ (call (Value.type "dict") [Value.ref _]) _ _ _); k_dflt (refine' dict_copy (knd := PySem.strKind _ _) ?F ?N ?b ?hm ?hd ?lo ?hz ?_; (case F => k_asm); (case N => k_asm); (case b => exact Top.nolimit (by k_asm)); (case hm => k_mem); (case hd => with_reducible assumption); (case lo => with_reducible assumption); (case hz => exact Nat.le_of_ble_eq_true rfl)); intro d' h' o' F' N' l1 lo' hd'; (have l9 := l1); (try k_lt l1)))
theorem copied_ok {w : World} {mean : ExcName → Option Value} {mg mb : Str → Option Value} {l z : Led} {st ds sp : Addr} {osp : Obj} {hst0 hst1 hst2 hst3 : Int} {kst0 kst1 kst2 kst3 : Tok} {c font size f : Value} {b : Bool} {n : Nat} (hs : ∀ p ∈ z, p ∈ l)
    (hx : (st, W.instObj 497 ds) ∈ l) (hds : (ds, W.dictOf [⟨hst0, .str (Str.ofString "ctm") kst0, c⟩, ⟨hst1, .str (Str.ofString "font") kst1, font⟩, ⟨hst2, .str (Str.ofString "size") kst2, size⟩, ⟨hst3, .str (Str.ofString "spacing") kst3, .ref sp⟩] 4) ∈ l) (hsp : (sp, osp) ∈ l) (hff : IsFont z f) (hst : StOk w f z sp osp c font size b n) :
    Fn w mean mg mb 487 16 [.ref st] l (MP l z fun C z' r => ∃ x ds' sp' osp' dd, r = .ref x ∧ C = st3 x ds' sp' dd osp' ∧ @Ne Nat x ds' ∧ @Ne Nat x sp' ∧ @Ne Nat ds' sp' ∧ StD dd c font size sp' ∧ StOk w f z' sp' osp' c font size b n) := by
  unfold Fn
  k_fill
  intro dp un gd cn cs aa ccd cl outer A₀ base h₀ L m s Q E B F X N T hk hdd hu hret
  have hst' := hst
  cases hst' with
  | mk lo ho h1 h2 h3 h4 h5 h6 hc hf =>
  obtain ⟨ac, rfl⟩ := hc.isRef
  obtain ⟨a5, rfl⟩ := h6.isRef
  obtain ⟨af, rfl⟩ := hff.isRef
  subst hf
  cases b
  all_goals
    simp only [if_true, Bool.false_eq_true, if_false] at hds hst
    kqd_sub
    rename (_ ∧ _ ∧ _ ∧ AllLt _ _) => lA
    rename (∀ p : Addr × Obj, p ∈ (_ : Led) → p.1 < _) => l9
    rename (Obj.IsDictOf _ _ _) => hD
    refine hret _ _ _ _ (by k_asm) (News.sub (by k_asm) swap4) ⟨[_, _, _], _, _, rfl, by ktu_off1L, off_q (by with_reducible assumption) l9, _, _, _, _, _, rfl, rfl, by with_reducible assumption, Nat.ne_of_lt lA.1, Nat.ne_of_lt lA.2.1, ⟨_, _, _, _, _, _, _, _, rfl⟩, .mk (by with_reducible assumption) hD ?_ ?_ ?_ ?_ ?_ ?_ ?_ rfl⟩
    all_goals first | kwd_rel | kfm_turns
end
local macro_rules | `(tactic| walk_at "pad") => `(tactic| skip)
local macro_rules | `(tactic| walk_at "pad") => `(tactic| skip)
local macro_rules | `(tactic| walk_at "pad") => `(tactic| skip)
local macro_rules | `(tactic| walk_at "pad") => `(tactic| skip)
local macro_rules | `(tactic| walk_at "pad") => `(tactic| skip)

theorem tag_n {o : OpV} (h : o.tag = .n) : o = .n := by cases o <;> first | rfl | cases h
theorem tag_m {o : OpV} (h : o.tag = .m) : ∃ b, o = .m b := by cases o <;> first | exact ⟨_, rfl⟩ | cases h
theorem tag_s {o : OpV} (h : o.tag = .s) : ∃ k, o = .s k := by cases o <;> first | exact ⟨_, rfl⟩ | cases h
theorem tag_a {o : OpV} (h : o.tag = .a) : ∃ ps, o = .a ps := by cases o <;> first | exact ⟨_, rfl⟩ | cases h
theorem Opd.num_of {z : Led} {v : Value} (h : Opd z .n v) : IsNum z v 1 := by cases h; assumption
theorem Opd.nam_of {z : Led} {v : Value} {b : Bool} (h : Opd z (.m b) v) : IsName z v b := by cases h; assumption
theorem Opd.str_of {z : Led} {v : Value} {k : Nat} (h : Opd z (.s k) v) : IsStr z v k := by cases h; assumption
theorem Opd.arr_of {z : Led} {v : Value} {ps : List (Option Nat)} (h : Opd z (.a ps) v) : ∃ x arr e, v = .ref x ∧ (x, W.listOf arr e) ∈ z ∧ PartsAt z arr.toList ps ∧ ps ∈ arrays := by
  cases h with
  | arr h hp hs => exact ⟨_, _, _, rfl, h, hp, hs⟩
theorem arr_eq {arr : Array Value} {vs : List Value} (h : arr.toList = vs) : arr = vs.toArray := by rw [← h, Array.toArray_toList]
theorem OpsAt.none_of {z : Led} {arr : Array Value} (h : OpsAt z arr.toList []) : arr = #[] := by
  generalize hv : arr.toList = vs at h
  cases h
  exact arr_eq hv
theorem OpsAt.one_of {z : Led} {arr : Array Value} {o : OpV} (h : OpsAt z arr.toList [o]) : ∃ v, arr = #[v] ∧ Opd z o v := by
  generalize hv : arr.toList = vs at h
  cases h with
  | cons h r =>
  cases r
  exact ⟨_, arr_eq hv, h⟩
theorem OpsAt.two_of {z : Led} {arr : Array Value} {o o2 : OpV} (h : OpsAt z arr.toList [o, o2]) : ∃ v v2, arr = #[v, v2] ∧ Opd z o v ∧ Opd z o2 v2 := by
  generalize hv : arr.toList = vs at h
  cases h with
  | cons h r =>
  cases r with
  | cons h2 r =>
  cases r
  exact ⟨_, _, arr_eq hv, h, h2⟩
theorem OpsAt.three_of {z : Led} {arr : Array Value} {o o2 o3 : OpV} (h : OpsAt z arr.toList [o, o2, o3]) : ∃ v v2 v3, arr = #[v, v2, v3] ∧ Opd z o v ∧ Opd z o2 v2 ∧ Opd z o3 v3 := by
  generalize hv : arr.toList = vs at h
  cases h with
  | cons h r =>
  cases r with
  | cons h2 r =>
  cases r with
  | cons h3 r =>
  cases r
  exact ⟨_, _, _, arr_eq hv, h, h2, h3⟩
theorem OpsAt.six_of {z : Led} {arr : Array Value} {o o2 o3 o4 o5 o6 : OpV} (h : OpsAt z arr.toList [o, o2, o3, o4, o5, o6]) : ∃ v v2 v3 v4 v5 v6, arr = #[v, v2, v3, v4, v5, v6] ∧ Opd z o v ∧ Opd z o2 v2 ∧ Opd z o3 v3 ∧ Opd z o4 v4 ∧ Opd z o5 v5 ∧ Opd z o6 v6 := by
  generalize hv : arr.toList = vs at h
  cases h with
  | cons h r =>
  cases r with
  | cons h2 r =>
  cases r with
  | cons h3 r =>
  cases r with
  | cons h4 r =>
  cases r with
  | cons h5 r =>
  cases r with
  | cons h6 r =>
  cases r
  exact ⟨_, _, _, _, _, _, arr_eq hv, h, h2, h3, h4, h5, h6⟩
/-- the place: within BT and ET, or outside -/
inductive PlAt (z : Led) : Value → Value → Bool → Nat → Prop
  | on {row place : Value} {n : Nat} (hr : IsM z row n) (hp : IsM z place n) : PlAt z row place true n
  | off {row : Value} {n : Nat} : PlAt z row .none false n
theorem PlAt.mono {z z' : Led} {row place : Value} {b : Bool} {n : Nat} (h : PlAt z row place b n) (s : ∀ p ∈ z, p ∈ z') : PlAt z' row place b n := by
  cases h with
  | on hr hp => exact .on (hr.mono s) (hp.mono s)
  | off => exact .off
theorem PlAt.more {z : Led} {row place : Value} {b : Bool} {n n' : Nat} (h : PlAt z row place b n) (s : n ≤ n') : PlAt z row place b n' := by
  cases h with
  | on hr hp => exact .on (hr.more s) (hp.more s)
  | off => exact .off
def FontFor (z : Led) (font : Value) (ps : List (Option Nat)) : Prop := octs ps ≠ [] → IsFont z font
theorem FontFor.mono {z z' : Led} {font : Value} {ps : List (Option Nat)} (h : FontFor z font ps) (s : ∀ p ∈ z, p ∈ z') : FontFor z' font ps := fun e => (h e).mono s
theorem sp_set {prog : Program} {w : World} {A : Around} {E : Value → Shared → Prop} {s : Shared} {h₀ : Heap} {L d : Addr} {m : Str → Option Value} {news : Led} {g : Obj → Led} {o : Obj} {tc tw tz tl ts tc' tw' tz' tl' ts' : Value} {key : Str} {kt : Tok} {v : Value} {Q : Unit → Shared → Prop}
    (F : Fr h₀ L s.heap m) (N : News h₀ L s.heap news) (U : UpdF d o news g) (hd : o.IsDictOf (PySem.strKind prog w) [(Str.ofString "Tc", tc), (Str.ofString "Tw", tw), (Str.ofString "Tz", tz), (Str.ofString "TL", tl), (Str.ofString "Ts", ts)])
    (e : stored [(Str.ofString "Tc", tc), (Str.ofString "Tw", tw), (Str.ofString "Tz", tz), (Str.ofString "TL", tl), (Str.ofString "Ts", ts)] key v = [(Str.ofString "Tc", tc'), (Str.ofString "Tw", tw'), (Str.ofString "Tz", tz'), (Str.ofString "TL", tl'), (Str.ofString "Ts", ts')])
    (h : ∀ h' o' tk, Fr h₀ L h' m → News h₀ L h' (g o') → o'.IsDictOf (PySem.strKind prog w) [(Str.ofString "Tc", tc'), (Str.ofString "Tw", tw'), (Str.ofString "Tz", tz'), (Str.ofString "TL", tl'), (Str.ofString "Ts", ts')] → Q () { s with heap := h', toks := tk }) :
    wpAny (model prog w) A (setItem (.ref d) (.str key kt) v) Q E s :=
  kda_set (knd := PySem.strKind _ _) F N U hd (strKind_is _ _ _ _) (by rw [sizeLine_eq]; exact Nat.le_of_ble_eq_true rfl) fun h' o' F' N' hd' => h h' o' _ F' N' (e ▸ hd')
section
local macro_rules | `(tactic| walk_at "call ref") => `(tactic| (k_here; (with_reducible show wpAny _ _ (call (Value.ref _) _) _ _ _); (refine Stop.out ?_; walk_say "STOP")))
local macro_rules | `(tactic| walk_at "call ref") => `(tactic| (k_here; (with_reducible show wpAny _ _ (call (Value.ref 185) _) _ _ _); k_dflt ((refine' Fn.useM (M := [_, _, _, _, _, _, _]) ?N ?hs (decOf_ok (sub_on ?hs) ?h1) ?B ?F ?X ?T ?kK ?kd ?ku ?O ?_); (case N => k_asm); (case hs => with_reducible assumption); kaf_suf; (case h1 => kwd_rel); rintro r' l' z' h' tk' F' N' G' hz' hl' O' D'; (have hG' := Grow.of G')); (try simp only [List.cons_append, List.nil_append, List.map_cons, List.map_nil] at N' O'); (obtain ⟨x', er'⟩ := IsD.isRef D'); subst er'; (try dsimp only); (try k_fold)))
local macro_rules | `(tactic| walk_at "call ref") => `(tactic| (k_here; (with_reducible show wpAny _ _ (call (Value.ref 115) _) _ _ _); k_dflt ((refine' Fn.useM (M := [_, _, _, _, _, _, _]) ?N ?hs (negated_ok (sub_on ?hs) ?h1) ?B ?F ?X ?T ?kK ?kd ?ku ?O ?_); (case N => k_asm); (case hs => with_reducible assumption); kaf_suf; (case h1 => kwd_rel); rintro r' l' z' h' tk' F' N' G' hz' hl' O' D'; (have hG' := Grow.of G')); (try simp only [List.cons_append, List.nil_append, List.map_cons, List.map_nil] at N' O'); (obtain ⟨x', er'⟩ := IsD.isRef D'); subst er'; (try dsimp only); (try k_fold)))
local macro_rules | `(tactic| walk_at "call ref") => `(tactic| (k_here; (with_reducible show wpAny _ _ (call (Value.ref 375) _) _ _ _); k_dflt ((refine' Fn.useM (M := [_, _, _, _, _, _, _]) ?N ?hs (from_array_ok (sub_on ?hs) ?hl ?h1 ?h2 ?h3 ?h4 ?h5 ?h6) ?B ?F ?X ?T ?kK ?kd ?ku ?O ?_); (case N => k_asm); (case hs => with_reducible assumption); kaf_suf; (case hl => k_mem); (case h1 => kwd_rel); (case h2 => kwd_rel); (case h3 => kwd_rel); (case h4 => kwd_rel); (case h5 => kwd_rel); (case h6 => kwd_rel); rintro r' l' z' h' tk' F' N' G' hz' hl' O' D'; (have hG' := Grow.of G')); (try simp only [List.cons_append, List.nil_append, List.map_cons, List.map_nil] at N' O'); (obtain ⟨x', er'⟩ := IsM.isRef D'); subst er'; (try dsimp only); (try k_fold)))
local macro_rules | `(tactic| walk_at "call ref") => `(tactic| (k_here; (with_reducible show wpAny _ _ (call (Value.ref 564) _) _ _ _); k_dflt ((refine' Fn.useT (M := [_, _, _, _, _, _, _]) ?N ?hs ?O (next_row_ok ?hs ?hA ?O ?hr ?h1 ?h2 ?hn) ?B ?F ?X ?T ?kK ?kd ?ku ?_); (case N => k_asm); (case hs => with_reducible assumption); (case O => with_reducible assumption); (case hA => with_reducible assumption); kt_ors; (case hr => kfm_turns); (case h1 => kwd_rel); (case h2 => kwd_rel); (case hn => omega); rintro r' M' l' z' h' tk' F' N' G' hz' hl' O' D'; (have hG' := Grow.of G')); (obtain ⟨e1', ro', e2', hm'⟩ := D'); subst e1'; subst e2'; (obtain ⟨x', er'⟩ := IsM.isRef hm'); subst er'; (try simp only [List.cons_append, List.nil_append, List.map_cons, List.map_nil] at N' O'); (try dsimp only); (try k_fold)))
local macro_rules | `(tactic| walk_at "call ref") => `(tactic| (k_here; (with_reducible show wpAny _ _ (call (Value.ref 571) _) _ _ _); k_dflt ((refine' Fn.useT (M := [_, _, _, _, _, _, _]) ?N ?hs ?O (feed_ok ?hs ?hA ?O ?hr ?ho ?h1 ?hn) ?B ?F ?X ?T ?kK ?kd ?ku ?_); (case N => k_asm); (case hs => with_reducible assumption); (case O => with_reducible assumption); (case hA => with_reducible assumption); kt_ors; (case hr => kfm_turns); (case ho => with_reducible assumption); (case h1 => kwd_rel); (case hn => omega); rintro r' M' l' z' h' tk' F' N' G' hz' hl' O' D'; (have hG' := Grow.of G')); (obtain ⟨e1', ro', e2', hm'⟩ := D'); subst e1'; subst e2'; (obtain ⟨x', er'⟩ := IsM.isRef hm'); subst er'; (try simp only [List.cons_append, List.nil_append, List.map_cons, List.map_nil] at N' O'); (try dsimp only); (try k_fold)))
local macro_rules | `(tactic| walk_at "call ref") => `(tactic| (k_here; (with_reducible show wpAny _ _ (call (Value.ref 578) _) _ _ _); k_dflt ((refine' Fn.useT (M := [_, _, _, _, _, _, _]) ?N ?hs ?O (set_matrix_ok ?hs ?hA ?O) ?B ?F ?X ?T ?kK ?kd ?ku ?_); (case N => k_asm); (case hs => with_reducible assumption); (case O => with_reducible assumption); (case hA => with_reducible assumption); kt_ors; skip; rintro r' M' l' z' h' tk' F' N' G' hz' hl' O' D'; (have hG' := Grow.of G')); (obtain ⟨e1', e2'⟩ := D'); subst e1'; subst e2'; (try simp only [List.cons_append, List.nil_append, List.map_cons, List.map_nil] at N' O'); (try dsimp only); (try k_fold)))
local macro_rules | `(tactic| walk_at "call ref") => `(tactic| (k_here; (with_reducible show wpAny _ _ (call (Value.ref 550) _) _ _ _); k_dflt ((refine' Fn.useT (M := [_, _, _, _, _, _, _]) ?N ?hs ?O (show_ok ?hs ?hA ?O ?ho ?hf ?h5 ?h1 ?h2 ?h3 ?h4 ?hc ?hp ?hb ?hn ?hz) ?B ?F ?X ?T ?kK ?kd ?ku ?_); (case N => k_asm); (case hs => with_reducible assumption); (case O => with_reducible assumption); (case hA => with_reducible assumption); kt_ors; (case ho => with_reducible assumption); (case hf => ktu_offI); (case h5 => kwd_rel); (case h1 => kwd_rel); (case h2 => kwd_rel); (case h3 => kwd_rel); (case h4 => kwd_rel); (case hc => kfm_turns); (case hp => kfm_turns); (case hb => with_reducible assumption); (case hn => omega); (case hz => omega); rintro r' M' l' z' h' tk' F' N' G' hz' hl' O' D'; (have hG' := Grow.of G')); (obtain ⟨e1', pc', fa', fn', e2', hm', hsz'⟩ := D'); subst e1'; subst e2'; (obtain ⟨x', er'⟩ := IsM.isRef hm'); subst er'; (try simp only [List.cons_append, List.nil_append, List.map_cons, List.map_nil] at N' O'); (try dsimp only); (try k_fold)))
local macro_rules | `(tactic| walk_at "call ref") => `(tactic| (k_here; (with_reducible show wpAny _ _ (call (Value.ref 557) _) _ _ _); k_dflt ((refine' Fn.useT (M := [_, _, _, _, _, _, _]) ?N ?hs ?O (show_parts_ok ?hs ?hA ?O ?ho ?hax ?hps ?hle ?hf ?h5 ?h1 ?h2 ?h3 ?h4 ?hc ?hp ?hn ?hz) ?B ?F ?X ?T ?kK ?kd ?ku ?_); (case N => k_asm); (case hs => with_reducible assumption); (case O => with_reducible assumption); (case hA => with_reducible assumption); kt_ors; (case ho => with_reducible assumption); (case hax => k_mem); (case hps => refine' PartsAt.mono ?s9 ?h9; (case h9 => with_reducible assumption); (case s9 => kt_eqs)); (case hle => with_reducible assumption); (case hf => refine' FontFor.mono ?h9 ?s9; (case h9 => with_reducible assumption); (case s9 => kt_eqs)); (case h5 => kwd_rel); (case h1 => kwd_rel); (case h2 => kwd_rel); (case h3 => kwd_rel); (case h4 => kwd_rel); (case hc => kfm_turns); (case hp => kfm_turns); (case hn => omega); (case hz => omega); rintro r' M' l' z' h' tk' F' N' G' hz' hl' O' D'; (have hG' := Grow.of G')); (obtain ⟨e1', pc', fa', fn', e2', hm', hsz'⟩ := D'); subst e1'; subst e2'; (obtain ⟨x', er'⟩ := IsM.isRef hm'); subst er'; (try simp only [List.cons_append, List.nil_append, List.map_cons, List.map_nil] at N' O'); (try dsimp only); (try k_fold)))
local macro_rules | `(tactic| walk_at "newTuple") => `(tactic| (k_here; k_dflt (refine' newTup_M (M := [_, _, _, _, _, _, _]) ?F ?N ?hs ?O ?z ?_; (case F => k_asm); (case N => k_asm); (case hs => with_reducible assumption); (case O => (show Off [_, _, _, _, _, _, _] _); with_reducible assumption); (case z => exact Nat.le_of_ble_eq_true rfl)); intro D' l' z' h' F' N' G' hz' hl' O' hm'; (have hG' := Grow.of G'); (try simp only [List.cons_append, List.nil_append, List.map_cons, List.map_nil] at N' O')))
local macro_rules | `(tactic| walk_at "setItem ref str") => `(tactic| (k_here; k_dflt (refine' sp_set ?F ?N ?U ?d ?e ?_; (case F => k_asm); (case N => k_asm); (case U => k_updF); (case d => with_reducible assumption); (case e => exact rfl)); intro h' o' tk' F' N' hd'; (try dsimp only at N')))
theorem fp_Td {w : World} {mean : ExcName → Option Value} {mg mb : Str → Option Value} {l z : Led} {tour dt pl fd st ds sp : Addr} {sheet : Value} {htw0 htw1 htw2 htw3 htw4 htw5 : Int} {ktw0 ktw1 ktw2 ktw3 ktw4 ktw5 : Tok} {hst0 hst1 hst2 hst3 : Int} {kst0 kst1 kst2 kst3 : Tok} {row place ctm font size f : Value} {parr farr : Array Value} {pn fn : Nat} {osp : Obj} {b : Bool} {ol : Addr} {arr : Array Value} {e : Nat} {n nc : Nat} {tkw : Tok} (hs : ∀ p ∈ z, p ∈ l) (hA : Ap7 tour dt pl fd st ds sp) (O : Off [tour, dt, pl, fd, st, ds, sp] l) (hst : StOk w f z sp osp ctm font size b nc) (hol : (ol, W.listOf arr e) ∈ z) (hn : n + nc ≤ 1800) (hz : farr.size ≤ 800) (hr : IsM z row n) (hp : IsM z place n) (hops : OpsAt z arr.toList [.n, .n]) :
    Fn w mean mg mb 592 80 [.ref tour, .str (Str.ofString "Td") tkw, .ref ol] ([(tour, W.instObj 581 dt), (dt, W.dictOf [⟨htw0, .str (Str.ofString "sheet") ktw0, sheet⟩, ⟨htw1, .str (Str.ofString "state") ktw1, .ref st⟩, ⟨htw2, .str (Str.ofString "pile") ktw2, .ref pl⟩, ⟨htw3, .str (Str.ofString "row") ktw3, row⟩, ⟨htw4, .str (Str.ofString "place") ktw4, place⟩, ⟨htw5, .str (Str.ofString "found") ktw5, .ref fd⟩] 6), (pl, W.listOf parr pn), (fd, W.listOf farr fn), (st, W.instObj 497 ds), (ds, W.dictOf [⟨hst0, .str (Str.ofString "ctm") kst0, ctm⟩, ⟨hst1, .str (Str.ofString "font") kst1, font⟩, ⟨hst2, .str (Str.ofString "size") kst2, size⟩, ⟨hst3, .str (Str.ofString "spacing") kst3, .ref sp⟩] 4), (sp, osp)] ++ l) (TP [tour, dt, pl, fd, st, ds, sp] l z (fun M' z' r => r = .none ∧ ∃ row' place' farr' fn' osp', M' = [(tour, W.instObj 581 dt), (dt, W.dictOf [⟨htw0, .str (Str.ofString "sheet") ktw0, sheet⟩, ⟨htw1, .str (Str.ofString "state") ktw1, .ref st⟩, ⟨htw2, .str (Str.ofString "pile") ktw2, .ref pl⟩, ⟨htw3, .str (Str.ofString "row") ktw3, row'⟩, ⟨htw4, .str (Str.ofString "place") ktw4, place'⟩, ⟨htw5, .str (Str.ofString "found") ktw5, .ref fd⟩] 6), (pl, W.listOf parr pn), (fd, W.listOf farr' fn'), (st, W.instObj 497 ds), (ds, W.dictOf [⟨hst0, .str (Str.ofString "ctm") kst0, ctm⟩, ⟨hst1, .str (Str.ofString "font") kst1, font⟩, ⟨hst2, .str (Str.ofString "size") kst2, size⟩, ⟨hst3, .str (Str.ofString "spacing") kst3, .ref sp⟩] 4), (sp, osp')] ∧ PlAt z' row' place' true (n + 60) ∧ StOk w f z' sp osp' ctm font size b nc ∧ farr'.size = farr.size + 0)) := by
  unfold Fn
  k_fill
  intro dp un gd cn cs aa ccd cl outer A₀ base h₀ L m s Q E B F X N T hk hdd hu hret
  simp only [List.cons_append, List.nil_append] at N
  obtain ⟨n1, n2, n3, n4, n5, n6, n7, n8, n9, n10, n11, n12, n13, n14, n15, n16, n17, n18, n19, n20, n21⟩ := id hA
  cases hst with
  | mk lo ho h1 h2 h3 h4 h5 h6 hc hf =>
  obtain ⟨v1, v2, rfl, q1, q2⟩ := hops.two_of
  have i1 := q1.num_of
  have i2 := q2.num_of
  obtain ⟨ar, rfl⟩ := hr.isRef
  obtain ⟨ap, rfl⟩ := hp.isRef
  have holl := hs _ hol
  kqd_sub
  refine hret _ _ _ _ (by k_asm) (by k_asm) ⟨_, _, _, app7, by ktu_off1L, by with_reducible assumption, rfl, _, _, _, _, _, rfl, .on (by kfm_turns) (by kfm_turns), .mk lo (by with_reducible assumption) ?_ ?_ ?_ ?_ ?_ ?_ ?_ hf, rfl⟩
  all_goals first | kwd_rel | kfm_turns
theorem fp_TD {w : World} {mean : ExcName → Option Value} {mg mb : Str → Option Value} {l z : Led} {tour dt pl fd st ds sp : Addr} {sheet : Value} {htw0 htw1 htw2 htw3 htw4 htw5 : Int} {ktw0 ktw1 ktw2 ktw3 ktw4 ktw5 : Tok} {hst0 hst1 hst2 hst3 : Int} {kst0 kst1 kst2 kst3 : Tok} {row place ctm font size f : Value} {parr farr : Array Value} {pn fn : Nat} {osp : Obj} {b : Bool} {ol : Addr} {arr : Array Value} {e : Nat} {n nc : Nat} {tkw : Tok} (hs : ∀ p ∈ z, p ∈ l) (hA : Ap7 tour dt pl fd st ds sp) (O : Off [tour, dt, pl, fd, st, ds, sp] l) (hst : StOk w f z sp osp ctm font size b nc) (hol : (ol, W.listOf arr e) ∈ z) (hn : n + nc ≤ 1800) (hz : farr.size ≤ 800) (hr : IsM z row n) (hp : IsM z place n) (hops : OpsAt z arr.toList [.n, .n]) :
    Fn w mean mg mb 592 80 [.ref tour, .str (Str.ofString "TD") tkw, .ref ol] ([(tour, W.instObj 581 dt), (dt, W.dictOf [⟨htw0, .str (Str.ofString "sheet") ktw0, sheet⟩, ⟨htw1, .str (Str.ofString "state") ktw1, .ref st⟩, ⟨htw2, .str (Str.ofString "pile") ktw2, .ref pl⟩, ⟨htw3, .str (Str.ofString "row") ktw3, row⟩, ⟨htw4, .str (Str.ofString "place") ktw4, place⟩, ⟨htw5, .str (Str.ofString "found") ktw5, .ref fd⟩] 6), (pl, W.listOf parr pn), (fd, W.listOf farr fn), (st, W.instObj 497 ds), (ds, W.dictOf [⟨hst0, .str (Str.ofString "ctm") kst0, ctm⟩, ⟨hst1, .str (Str.ofString "font") kst1, font⟩, ⟨hst2, .str (Str.ofString "size") kst2, size⟩, ⟨hst3, .str (Str.ofString "spacing") kst3, .ref sp⟩] 4), (sp, osp)] ++ l) (TP [tour, dt, pl, fd, st, ds, sp] l z (fun M' z' r => r = .none ∧ ∃ row' place' farr' fn' osp', M' = [(tour, W.instObj 581 dt), (dt, W.dictOf [⟨htw0, .str (Str.ofString "sheet") ktw0, sheet⟩, ⟨htw1, .str (Str.ofString "state") ktw1, .ref st⟩, ⟨htw2, .str (Str.ofString "pile") ktw2, .ref pl⟩, ⟨htw3, .str (Str.ofString "row") ktw3, row'⟩, ⟨htw4, .str (Str.ofString "place") ktw4, place'⟩, ⟨htw5, .str (Str.ofString "found") ktw5, .ref fd⟩] 6), (pl, W.listOf parr pn), (fd, W.listOf farr' fn'), (st, W.instObj 497 ds), (ds, W.dictOf [⟨hst0, .str (Str.ofString "ctm") kst0, ctm⟩, ⟨hst1, .str (Str.ofString "font") kst1, font⟩, ⟨hst2, .str (Str.ofString "size") kst2, size⟩, ⟨hst3, .str (Str.ofString "spacing") kst3, .ref sp⟩] 4), (sp, osp')] ∧ PlAt z' row' place' true (n + 60) ∧ StOk w f z' sp osp' ctm font size b nc ∧ farr'.size = farr.size + 0)) := by
  unfold Fn
  k_fill
  intro dp un gd cn cs aa ccd cl outer A₀ base h₀ L m s Q E B F X N T hk hdd hu hret
  simp only [List.cons_append, List.nil_append] at N
  obtain ⟨n1, n2, n3, n4, n5, n6, n7, n8, n9, n10, n11, n12, n13, n14, n15, n16, n17, n18, n19, n20, n21⟩ := id hA
  cases hst with
  | mk lo ho h1 h2 h3 h4 h5 h6 hc hf =>
  obtain ⟨v1, v2, rfl, q1, q2⟩ := hops.two_of
  have i1 := q1.num_of
  have i2 := q2.num_of
  obtain ⟨ar, rfl⟩ := hr.isRef
  obtain ⟨ap, rfl⟩ := hp.isRef
  have holl := hs _ hol
  kqd_sub
  refine hret _ _ _ _ (by k_asm) (by k_asm) ⟨_, _, _, app7, by ktu_off1L, by with_reducible assumption, rfl, _, _, _, _, _, rfl, .on (by kfm_turns) (by kfm_turns), .mk lo (by with_reducible assumption) ?_ ?_ ?_ ?_ ?_ ?_ ?_ hf, rfl⟩
  all_goals first | kwd_rel | kfm_turns
theorem fp_Ts {w : World} {mean : ExcName → Option Value} {mg mb : Str → Option Value} {l z : Led} {tour dt pl fd st ds sp : Addr} {sheet : Value} {htw0 htw1 htw2 htw3 htw4 htw5 : Int} {ktw0 ktw1 ktw2 ktw3 ktw4 ktw5 : Tok} {hst0 hst1 hst2 hst3 : Int} {kst0 kst1 kst2 kst3 : Tok} {row place ctm font size f : Value} {parr farr : Array Value} {pn fn : Nat} {osp : Obj} {b : Bool} {ol : Addr} {arr : Array Value} {e : Nat} {n nc : Nat} {tkw : Tok} (hs : ∀ p ∈ z, p ∈ l) (hA : Ap7 tour dt pl fd st ds sp) (O : Off [tour, dt, pl, fd, st, ds, sp] l) (hst : StOk w f z sp osp ctm font size b nc) (hol : (ol, W.listOf arr e) ∈ z) (hn : n + nc ≤ 1800) (hz : farr.size ≤ 800) (hr : IsM z row n) (hp : IsM z place n) (hops : OpsAt z arr.toList []) :
    Fn w mean mg mb 592 80 [.ref tour, .str (Str.ofString "T*") tkw, .ref ol] ([(tour, W.instObj 581 dt), (dt, W.dictOf [⟨htw0, .str (Str.ofString "sheet") ktw0, sheet⟩, ⟨htw1, .str (Str.ofString "state") ktw1, .ref st⟩, ⟨htw2, .str (Str.ofString "pile") ktw2, .ref pl⟩, ⟨htw3, .str (Str.ofString "row") ktw3, row⟩, ⟨htw4, .str (Str.ofString "place") ktw4, place⟩, ⟨htw5, .str (Str.ofString "found") ktw5, .ref fd⟩] 6), (pl, W.listOf parr pn), (fd, W.listOf farr fn), (st, W.instObj 497 ds), (ds, W.dictOf [⟨hst0, .str (Str.ofString "ctm") kst0, ctm⟩, ⟨hst1, .str (Str.ofString "font") kst1, font⟩, ⟨hst2, .str (Str.ofString "size") kst2, size⟩, ⟨hst3, .str (Str.ofString "spacing") kst3, .ref sp⟩] 4), (sp, osp)] ++ l) (TP [tour, dt, pl, fd, st, ds, sp] l z (fun M' z' r => r = .none ∧ ∃ row' place' farr' fn' osp', M' = [(tour, W.instObj 581 dt), (dt, W.dictOf [⟨htw0, .str (Str.ofString "sheet") ktw0, sheet⟩, ⟨htw1, .str (Str.ofString "state") ktw1, .ref st⟩, ⟨htw2, .str (Str.ofString "pile") ktw2, .ref pl⟩, ⟨htw3, .str (Str.ofString "row") ktw3, row'⟩, ⟨htw4, .str (Str.ofString "place") ktw4, place'⟩, ⟨htw5, .str (Str.ofString "found") ktw5, .ref fd⟩] 6), (pl, W.listOf parr pn), (fd, W.listOf farr' fn'), (st, W.instObj 497 ds), (ds, W.dictOf [⟨hst0, .str (Str.ofString "ctm") kst0, ctm⟩, ⟨hst1, .str (Str.ofString "font") kst1, font⟩, ⟨hst2, .str (Str.ofString "size") kst2, size⟩, ⟨hst3, .str (Str.ofString "spacing") kst3, .ref sp⟩] 4), (sp, osp')] ∧ PlAt z' row' place' true (n + 60) ∧ StOk w f z' sp osp' ctm font size b nc ∧ farr'.size = farr.size + 0)) := by
  unfold Fn
  k_fill
  intro dp un gd cn cs aa ccd cl outer A₀ base h₀ L m s Q E B F X N T hk hdd hu hret
  simp only [List.cons_append, List.nil_append] at N
  obtain ⟨n1, n2, n3, n4, n5, n6, n7, n8, n9, n10, n11, n12, n13, n14, n15, n16, n17, n18, n19, n20, n21⟩ := id hA
  cases hst with
  | mk lo ho h1 h2 h3 h4 h5 h6 hc hf =>
  obtain ⟨ar, rfl⟩ := hr.isRef
  obtain ⟨ap, rfl⟩ := hp.isRef
  have holl := hs _ hol
  kqd_sub
  refine hret _ _ _ _ (by k_asm) (by k_asm) ⟨_, _, _, app7, by ktu_off1L, by with_reducible assumption, rfl, _, _, _, _, _, rfl, .on (by kfm_turns) (by kfm_turns), .mk lo (by with_reducible assumption) ?_ ?_ ?_ ?_ ?_ ?_ ?_ hf, rfl⟩
  all_goals first | kwd_rel | kfm_turns
theorem fp_Tm {w : World} {mean : ExcName → Option Value} {mg mb : Str → Option Value} {l z : Led} {tour dt pl fd st ds sp : Addr} {sheet : Value} {htw0 htw1 htw2 htw3 htw4 htw5 : Int} {ktw0 ktw1 ktw2 ktw3 ktw4 ktw5 : Tok} {hst0 hst1 hst2 hst3 : Int} {kst0 kst1 kst2 kst3 : Tok} {row place ctm font size f : Value} {parr farr : Array Value} {pn fn : Nat} {osp : Obj} {b : Bool} {ol : Addr} {arr : Array Value} {e : Nat} {n nc : Nat} {tkw : Tok} (hs : ∀ p ∈ z, p ∈ l) (hA : Ap7 tour dt pl fd st ds sp) (O : Off [tour, dt, pl, fd, st, ds, sp] l) (hst : StOk w f z sp osp ctm font size b nc) (hol : (ol, W.listOf arr e) ∈ z) (hn : n + nc ≤ 1800) (hz : farr.size ≤ 800) (hr : IsM z row n) (hp : IsM z place n) (hops : OpsAt z arr.toList [.n, .n, .n, .n, .n, .n]) :
    Fn w mean mg mb 592 80 [.ref tour, .str (Str.ofString "Tm") tkw, .ref ol] ([(tour, W.instObj 581 dt), (dt, W.dictOf [⟨htw0, .str (Str.ofString "sheet") ktw0, sheet⟩, ⟨htw1, .str (Str.ofString "state") ktw1, .ref st⟩, ⟨htw2, .str (Str.ofString "pile") ktw2, .ref pl⟩, ⟨htw3, .str (Str.ofString "row") ktw3, row⟩, ⟨htw4, .str (Str.ofString "place") ktw4, place⟩, ⟨htw5, .str (Str.ofString "found") ktw5, .ref fd⟩] 6), (pl, W.listOf parr pn), (fd, W.listOf farr fn), (st, W.instObj 497 ds), (ds, W.dictOf [⟨hst0, .str (Str.ofString "ctm") kst0, ctm⟩, ⟨hst1, .str (Str.ofString "font") kst1, font⟩, ⟨hst2, .str (Str.ofString "size") kst2, size⟩, ⟨hst3, .str (Str.ofString "spacing") kst3, .ref sp⟩] 4), (sp, osp)] ++ l) (TP [tour, dt, pl, fd, st, ds, sp] l z (fun M' z' r => r = .none ∧ ∃ row' place' farr' fn' osp', M' = [(tour, W.instObj 581 dt), (dt, W.dictOf [⟨htw0, .str (Str.ofString "sheet") ktw0, sheet⟩, ⟨htw1, .str (Str.ofString "state") ktw1, .ref st⟩, ⟨htw2, .str (Str.ofString "pile") ktw2, .ref pl⟩, ⟨htw3, .str (Str.ofString "row") ktw3, row'⟩, ⟨htw4, .str (Str.ofString "place") ktw4, place'⟩, ⟨htw5, .str (Str.ofString "found") ktw5, .ref fd⟩] 6), (pl, W.listOf parr pn), (fd, W.listOf farr' fn'), (st, W.instObj 497 ds), (ds, W.dictOf [⟨hst0, .str (Str.ofString "ctm") kst0, ctm⟩, ⟨hst1, .str (Str.ofString "font") kst1, font⟩, ⟨hst2, .str (Str.ofString "size") kst2, size⟩, ⟨hst3, .str (Str.ofString "spacing") kst3, .ref sp⟩] 4), (sp, osp')] ∧ PlAt z' row' place' true (n + 60) ∧ StOk w f z' sp osp' ctm font size b nc ∧ farr'.size = farr.size + 0)) := by
  unfold Fn
  k_fill
  intro dp un gd cn cs aa ccd cl outer A₀ base h₀ L m s Q E B F X N T hk hdd hu hret
  simp only [List.cons_append, List.nil_append] at N
  obtain ⟨n1, n2, n3, n4, n5, n6, n7, n8, n9, n10, n11, n12, n13, n14, n15, n16, n17, n18, n19, n20, n21⟩ := id hA
  cases hst with
  | mk lo ho h1 h2 h3 h4 h5 h6 hc hf =>
  obtain ⟨v1, v2, v3, v4, v5, v6, rfl, q1, q2, q3, q4, q5, q6⟩ := hops.six_of
  have i1 := q1.num_of
  have i2 := q2.num_of
  have i3 := q3.num_of
  have i4 := q4.num_of
  have i5 := q5.num_of
  have i6 := q6.num_of
  obtain ⟨ar, rfl⟩ := hr.isRef
  obtain ⟨ap, rfl⟩ := hp.isRef
  have holl := hs _ hol
  kqd_sub
  refine hret _ _ _ _ (by k_asm) (by k_asm) ⟨_, _, _, app7, by ktu_off1L, by with_reducible assumption, rfl, _, _, _, _, _, rfl, .on (by kfm_turns) (by kfm_turns), .mk lo (by with_reducible assumption) ?_ ?_ ?_ ?_ ?_ ?_ ?_ hf, rfl⟩
  all_goals first | kwd_rel | kfm_turns
theorem fp_ET {w : World} {mean : ExcName → Option Value} {mg mb : Str → Option Value} {l z : Led} {tour dt pl fd st ds sp : Addr} {sheet : Value} {htw0 htw1 htw2 htw3 htw4 htw5 : Int} {ktw0 ktw1 ktw2 ktw3 ktw4 ktw5 : Tok} {hst0 hst1 hst2 hst3 : Int} {kst0 kst1 kst2 kst3 : Tok} {row place ctm font size f : Value} {parr farr : Array Value} {pn fn : Nat} {osp : Obj} {b : Bool} {ol : Addr} {arr : Array Value} {e : Nat} {n nc : Nat} {tkw : Tok} (hs : ∀ p ∈ z, p ∈ l) (hA : Ap7 tour dt pl fd st ds sp) (O : Off [tour, dt, pl, fd, st, ds, sp] l) (hst : StOk w f z sp osp ctm font size b nc) (hol : (ol, W.listOf arr e) ∈ z) (hn : n + nc ≤ 1800) (hz : farr.size ≤ 800) (hr : IsM z row n) (hp : IsM z place n) (hops : OpsAt z arr.toList []) :
    Fn w mean mg mb 592 80 [.ref tour, .str (Str.ofString "ET") tkw, .ref ol] ([(tour, W.instObj 581 dt), (dt, W.dictOf [⟨htw0, .str (Str.ofString "sheet") ktw0, sheet⟩, ⟨htw1, .str (Str.ofString "state") ktw1, .ref st⟩, ⟨htw2, .str (Str.ofString "pile") ktw2, .ref pl⟩, ⟨htw3, .str (Str.ofString "row") ktw3, row⟩, ⟨htw4, .str (Str.ofString "place") ktw4, place⟩, ⟨htw5, .str (Str.ofString "found") ktw5, .ref fd⟩] 6), (pl, W.listOf parr pn), (fd, W.listOf farr fn), (st, W.instObj 497 ds), (ds, W.dictOf [⟨hst0, .str (Str.ofString "ctm") kst0, ctm⟩, ⟨hst1, .str (Str.ofString "font") kst1, font⟩, ⟨hst2, .str (Str.ofString "size") kst2, size⟩, ⟨hst3, .str (Str.ofString "spacing") kst3, .ref sp⟩] 4), (sp, osp)] ++ l) (TP [tour, dt, pl, fd, st, ds, sp] l z (fun M' z' r => r = .none ∧ ∃ row' place' farr' fn' osp', M' = [(tour, W.instObj 581 dt), (dt, W.dictOf [⟨htw0, .str (Str.ofString "sheet") ktw0, sheet⟩, ⟨htw1, .str (Str.ofString "state") ktw1, .ref st⟩, ⟨htw2, .str (Str.ofString "pile") ktw2, .ref pl⟩, ⟨htw3, .str (Str.ofString "row") ktw3, row'⟩, ⟨htw4, .str (Str.ofString "place") ktw4, place'⟩, ⟨htw5, .str (Str.ofString "found") ktw5, .ref fd⟩] 6), (pl, W.listOf parr pn), (fd, W.listOf farr' fn'), (st, W.instObj 497 ds), (ds, W.dictOf [⟨hst0, .str (Str.ofString "ctm") kst0, ctm⟩, ⟨hst1, .str (Str.ofString "font") kst1, font⟩, ⟨hst2, .str (Str.ofString "size") kst2, size⟩, ⟨hst3, .str (Str.ofString "spacing") kst3, .ref sp⟩] 4), (sp, osp')] ∧ PlAt z' row' place' false (n + 60) ∧ StOk w f z' sp osp' ctm font size b nc ∧ farr'.size = farr.size + 0)) := by
  unfold Fn
  k_fill
  intro dp un gd cn cs aa ccd cl outer A₀ base h₀ L m s Q E B F X N T hk hdd hu hret
  simp only [List.cons_append, List.nil_append] at N
  obtain ⟨n1, n2, n3, n4, n5, n6, n7, n8, n9, n10, n11, n12, n13, n14, n15, n16, n17, n18, n19, n20, n21⟩ := id hA
  cases hst with
  | mk lo ho h1 h2 h3 h4 h5 h6 hc hf =>
  obtain ⟨ar, rfl⟩ := hr.isRef
  obtain ⟨ap, rfl⟩ := hp.isRef
  have holl := hs _ hol
  kqd_sub
  refine hret _ _ _ _ (by k_asm) (by k_asm) ⟨_, _, _, app7, by ktu_off1L, by with_reducible assumption, rfl, _, _, _, _, _, rfl, .off, .mk lo (by with_reducible assumption) ?_ ?_ ?_ ?_ ?_ ?_ ?_ hf, rfl⟩
  all_goals first | kwd_rel | kfm_turns
theorem fp_Tj {w : World} {mean : ExcName → Option Value} {mg mb : Str → Option Value} {l z : Led} {tour dt pl fd st ds sp : Addr} {sheet : Value} {htw0 htw1 htw2 htw3 htw4 htw5 : Int} {ktw0 ktw1 ktw2 ktw3 ktw4 ktw5 : Tok} {hst0 hst1 hst2 hst3 : Int} {kst0 kst1 kst2 kst3 : Tok} {row place ctm font size f : Value} {parr farr : Array Value} {pn fn : Nat} {osp : Obj} {b : Bool} {ol : Addr} {arr : Array Value} {e : Nat} {n nc : Nat} {tkw : Tok} (hs : ∀ p ∈ z, p ∈ l) (hA : Ap7 tour dt pl fd st ds sp) (O : Off [tour, dt, pl, fd, st, ds, sp] l) (hst : StOk w f z sp osp ctm font size b nc) (hol : (ol, W.listOf arr e) ∈ z) (hn : n + nc ≤ 1800) (hz : farr.size ≤ 800) (hr : IsM z row n) (hp : IsM z place n) {k : Nat} (hft : IsFont z font) (hops : OpsAt z arr.toList [.s k]) :
    Fn w mean mg mb 592 80 [.ref tour, .str (Str.ofString "Tj") tkw, .ref ol] ([(tour, W.instObj 581 dt), (dt, W.dictOf [⟨htw0, .str (Str.ofString "sheet") ktw0, sheet⟩, ⟨htw1, .str (Str.ofString "state") ktw1, .ref st⟩, ⟨htw2, .str (Str.ofString "pile") ktw2, .ref pl⟩, ⟨htw3, .str (Str.ofString "row") ktw3, row⟩, ⟨htw4, .str (Str.ofString "place") ktw4, place⟩, ⟨htw5, .str (Str.ofString "found") ktw5, .ref fd⟩] 6), (pl, W.listOf parr pn), (fd, W.listOf farr fn), (st, W.instObj 497 ds), (ds, W.dictOf [⟨hst0, .str (Str.ofString "ctm") kst0, ctm⟩, ⟨hst1, .str (Str.ofString "font") kst1, font⟩, ⟨hst2, .str (Str.ofString "size") kst2, size⟩, ⟨hst3, .str (Str.ofString "spacing") kst3, .ref sp⟩] 4), (sp, osp)] ++ l) (TP [tour, dt, pl, fd, st, ds, sp] l z (fun M' z' r => r = .none ∧ ∃ row' place' farr' fn' osp', M' = [(tour, W.instObj 581 dt), (dt, W.dictOf [⟨htw0, .str (Str.ofString "sheet") ktw0, sheet⟩, ⟨htw1, .str (Str.ofString "state") ktw1, .ref st⟩, ⟨htw2, .str (Str.ofString "pile") ktw2, .ref pl⟩, ⟨htw3, .str (Str.ofString "row") ktw3, row'⟩, ⟨htw4, .str (Str.ofString "place") ktw4, place'⟩, ⟨htw5, .str (Str.ofString "found") ktw5, .ref fd⟩] 6), (pl, W.listOf parr pn), (fd, W.listOf farr' fn'), (st, W.instObj 497 ds), (ds, W.dictOf [⟨hst0, .str (Str.ofString "ctm") kst0, ctm⟩, ⟨hst1, .str (Str.ofString "font") kst1, font⟩, ⟨hst2, .str (Str.ofString "size") kst2, size⟩, ⟨hst3, .str (Str.ofString "spacing") kst3, .ref sp⟩] 4), (sp, osp')] ∧ PlAt z' row' place' true (n + 60) ∧ StOk w f z' sp osp' ctm font size b nc ∧ farr'.size = farr.size + k)) := by
  unfold Fn
  k_fill
  intro dp un gd cn cs aa ccd cl outer A₀ base h₀ L m s Q E B F X N T hk hdd hu hret
  simp only [List.cons_append, List.nil_append] at N
  obtain ⟨n1, n2, n3, n4, n5, n6, n7, n8, n9, n10, n11, n12, n13, n14, n15, n16, n17, n18, n19, n20, n21⟩ := id hA
  cases hst with
  | mk lo ho h1 h2 h3 h4 h5 h6 hc hf =>
  obtain ⟨v1, rfl, q1⟩ := hops.one_of
  have i1 := q1.str_of
  cases i1 with
  | mk hx0 hdx0 hb0 =>
  have hx1 := hs _ hx0
  have hdx1 := hs _ hdx0
  obtain ⟨ar, rfl⟩ := hr.isRef
  obtain ⟨ap, rfl⟩ := hp.isRef
  have holl := hs _ hol
  kqd_sub
  refine hret _ _ _ _ (by k_asm) (by k_asm) ⟨_, _, _, app7, by ktu_off1L, by with_reducible assumption, rfl, _, _, _, _, _, rfl, .on (by kfm_turns) (by kfm_turns), .mk lo (by with_reducible assumption) ?_ ?_ ?_ ?_ ?_ ?_ ?_ hf, by with_reducible assumption⟩
  all_goals first | kwd_rel | kfm_turns
theorem fp_ap {w : World} {mean : ExcName → Option Value} {mg mb : Str → Option Value} {l z : Led} {tour dt pl fd st ds sp : Addr} {sheet : Value} {htw0 htw1 htw2 htw3 htw4 htw5 : Int} {ktw0 ktw1 ktw2 ktw3 ktw4 ktw5 : Tok} {hst0 hst1 hst2 hst3 : Int} {kst0 kst1 kst2 kst3 : Tok} {row place ctm font size f : Value} {parr farr : Array Value} {pn fn : Nat} {osp : Obj} {b : Bool} {ol : Addr} {arr : Array Value} {e : Nat} {n nc : Nat} {tkw : Tok} (hs : ∀ p ∈ z, p ∈ l) (hA : Ap7 tour dt pl fd st ds sp) (O : Off [tour, dt, pl, fd, st, ds, sp] l) (hst : StOk w f z sp osp ctm font size b nc) (hol : (ol, W.listOf arr e) ∈ z) (hn : n + nc ≤ 1800) (hz : farr.size ≤ 800) (hr : IsM z row n) (hp : IsM z place n) {k : Nat} (hft : IsFont z font) (hops : OpsAt z arr.toList [.s k]) :
    Fn w mean mg mb 592 80 [.ref tour, .str (Str.ofString "'") tkw, .ref ol] ([(tour, W.instObj 581 dt), (dt, W.dictOf [⟨htw0, .str (Str.ofString "sheet") ktw0, sheet⟩, ⟨htw1, .str (Str.ofString "state") ktw1, .ref st⟩, ⟨htw2, .str (Str.ofString "pile") ktw2, .ref pl⟩, ⟨htw3, .str (Str.ofString "row") ktw3, row⟩, ⟨htw4, .str (Str.ofString "place") ktw4, place⟩, ⟨htw5, .str (Str.ofString "found") ktw5, .ref fd⟩] 6), (pl, W.listOf parr pn), (fd, W.listOf farr fn), (st, W.instObj 497 ds), (ds, W.dictOf [⟨hst0, .str (Str.ofString "ctm") kst0, ctm⟩, ⟨hst1, .str (Str.ofString "font") kst1, font⟩, ⟨hst2, .str (Str.ofString "size") kst2, size⟩, ⟨hst3, .str (Str.ofString "spacing") kst3, .ref sp⟩] 4), (sp, osp)] ++ l) (TP [tour, dt, pl, fd, st, ds, sp] l z (fun M' z' r => r = .none ∧ ∃ row' place' farr' fn' osp', M' = [(tour, W.instObj 581 dt), (dt, W.dictOf [⟨htw0, .str (Str.ofString "sheet") ktw0, sheet⟩, ⟨htw1, .str (Str.ofString "state") ktw1, .ref st⟩, ⟨htw2, .str (Str.ofString "pile") ktw2, .ref pl⟩, ⟨htw3, .str (Str.ofString "row") ktw3, row'⟩, ⟨htw4, .str (Str.ofString "place") ktw4, place'⟩, ⟨htw5, .str (Str.ofString "found") ktw5, .ref fd⟩] 6), (pl, W.listOf parr pn), (fd, W.listOf farr' fn'), (st, W.instObj 497 ds), (ds, W.dictOf [⟨hst0, .str (Str.ofString "ctm") kst0, ctm⟩, ⟨hst1, .str (Str.ofString "font") kst1, font⟩, ⟨hst2, .str (Str.ofString "size") kst2, size⟩, ⟨hst3, .str (Str.ofString "spacing") kst3, .ref sp⟩] 4), (sp, osp')] ∧ PlAt z' row' place' true (n + 60) ∧ StOk w f z' sp osp' ctm font size b nc ∧ farr'.size = farr.size + k)) := by
  unfold Fn
  k_fill
  intro dp un gd cn cs aa ccd cl outer A₀ base h₀ L m s Q E B F X N T hk hdd hu hret
  simp only [List.cons_append, List.nil_append] at N
  obtain ⟨n1, n2, n3, n4, n5, n6, n7, n8, n9, n10, n11, n12, n13, n14, n15, n16, n17, n18, n19, n20, n21⟩ := id hA
  cases hst with
  | mk lo ho h1 h2 h3 h4 h5 h6 hc hf =>
  obtain ⟨v1, rfl, q1⟩ := hops.one_of
  have i1 := q1.str_of
  cases i1 with
  | mk hx0 hdx0 hb0 =>
  have hx1 := hs _ hx0
  have hdx1 := hs _ hdx0
  obtain ⟨ar, rfl⟩ := hr.isRef
  obtain ⟨ap, rfl⟩ := hp.isRef
  have holl := hs _ hol
  kqd_sub
  refine hret _ _ _ _ (by k_asm) (by k_asm) ⟨_, _, _, app7, by ktu_off1L, by with_reducible assumption, rfl, _, _, _, _, _, rfl, .on (by kfm_turns) (by kfm_turns), .mk lo (by with_reducible assumption) ?_ ?_ ?_ ?_ ?_ ?_ ?_ hf, by with_reducible assumption⟩
  all_goals first | kwd_rel | kfm_turns
theorem fp_qu {w : World} {mean : ExcName → Option Value} {mg mb : Str → Option Value} {l z : Led} {tour dt pl fd st ds sp : Addr} {sheet : Value} {htw0 htw1 htw2 htw3 htw4 htw5 : Int} {ktw0 ktw1 ktw2 ktw3 ktw4 ktw5 : Tok} {hst0 hst1 hst2 hst3 : Int} {kst0 kst1 kst2 kst3 : Tok} {row place ctm font size f : Value} {parr farr : Array Value} {pn fn : Nat} {osp : Obj} {b : Bool} {ol : Addr} {arr : Array Value} {e : Nat} {n nc : Nat} {tkw : Tok} (hs : ∀ p ∈ z, p ∈ l) (hA : Ap7 tour dt pl fd st ds sp) (O : Off [tour, dt, pl, fd, st, ds, sp] l) (hst : StOk w f z sp osp ctm font size b nc) (hol : (ol, W.listOf arr e) ∈ z) (hn : n + nc ≤ 1800) (hz : farr.size ≤ 800) (hr : IsM z row n) (hp : IsM z place n) {k : Nat} (hft : IsFont z font) (hops : OpsAt z arr.toList [.n, .n, .s k]) :
    Fn w mean mg mb 592 80 [.ref tour, .str (Str.ofString "\"") tkw, .ref ol] ([(tour, W.instObj 581 dt), (dt, W.dictOf [⟨htw0, .str (Str.ofString "sheet") ktw0, sheet⟩, ⟨htw1, .str (Str.ofString "state") ktw1, .ref st⟩, ⟨htw2, .str (Str.ofString "pile") ktw2, .ref pl⟩, ⟨htw3, .str (Str.ofString "row") ktw3, row⟩, ⟨htw4, .str (Str.ofString "place") ktw4, place⟩, ⟨htw5, .str (Str.ofString "found") ktw5, .ref fd⟩] 6), (pl, W.listOf parr pn), (fd, W.listOf farr fn), (st, W.instObj 497 ds), (ds, W.dictOf [⟨hst0, .str (Str.ofString "ctm") kst0, ctm⟩, ⟨hst1, .str (Str.ofString "font") kst1, font⟩, ⟨hst2, .str (Str.ofString "size") kst2, size⟩, ⟨hst3, .str (Str.ofString "spacing") kst3, .ref sp⟩] 4), (sp, osp)] ++ l) (TP [tour, dt, pl, fd, st, ds, sp] l z (fun M' z' r => r = .none ∧ ∃ row' place' farr' fn' osp', M' = [(tour, W.instObj 581 dt), (dt, W.dictOf [⟨htw0, .str (Str.ofString "sheet") ktw0, sheet⟩, ⟨htw1, .str (Str.ofString "state") ktw1, .ref st⟩, ⟨htw2, .str (Str.ofString "pile") ktw2, .ref pl⟩, ⟨htw3, .str (Str.ofString "row") ktw3, row'⟩, ⟨htw4, .str (Str.ofString "place") ktw4, place'⟩, ⟨htw5, .str (Str.ofString "found") ktw5, .ref fd⟩] 6), (pl, W.listOf parr pn), (fd, W.listOf farr' fn'), (st, W.instObj 497 ds), (ds, W.dictOf [⟨hst0, .str (Str.ofString "ctm") kst0, ctm⟩, ⟨hst1, .str (Str.ofString "font") kst1, font⟩, ⟨hst2, .str (Str.ofString "size") kst2, size⟩, ⟨hst3, .str (Str.ofString "spacing") kst3, .ref sp⟩] 4), (sp, osp')] ∧ PlAt z' row' place' true (n + 60) ∧ StOk w f z' sp osp' ctm font size b nc ∧ farr'.size = farr.size + k)) := by
  unfold Fn
  k_fill
  intro dp un gd cn cs aa ccd cl outer A₀ base h₀ L m s Q E B F X N T hk hdd hu hret
  simp only [List.cons_append, List.nil_append] at N
  obtain ⟨n1, n2, n3, n4, n5, n6, n7, n8, n9, n10, n11, n12, n13, n14, n15, n16, n17, n18, n19, n20, n21⟩ := id hA
  cases hst with
  | mk lo ho h1 h2 h3 h4 h5 h6 hc hf =>
  obtain ⟨v1, v2, v3, rfl, q1, q2, q3⟩ := hops.three_of
  have i1 := q1.num_of
  have i2 := q2.num_of
  have i3 := q3.str_of
  cases i3 with
  | mk hx0 hdx0 hb0 =>
  have hx1 := hs _ hx0
  have hdx1 := hs _ hdx0
  obtain ⟨ar, rfl⟩ := hr.isRef
  obtain ⟨ap, rfl⟩ := hp.isRef
  have holl := hs _ hol
  kqd_sub
  refine hret _ _ _ _ (by k_asm) (by k_asm) ⟨_, _, _, app7, by ktu_off1L, by with_reducible assumption, rfl, _, _, _, _, _, rfl, .on (by kfm_turns) (by kfm_turns), .mk lo (by with_reducible assumption) ?_ ?_ ?_ ?_ ?_ ?_ ?_ hf, by with_reducible assumption⟩
  all_goals first | kwd_rel | kfm_turns
theorem fp_TJ {w : World} {mean : ExcName → Option Value} {mg mb : Str → Option Value} {l z : Led} {tour dt pl fd st ds sp : Addr} {sheet : Value} {htw0 htw1 htw2 htw3 htw4 htw5 : Int} {ktw0 ktw1 ktw2 ktw3 ktw4 ktw5 : Tok} {hst0 hst1 hst2 hst3 : Int} {kst0 kst1 kst2 kst3 : Tok} {row place ctm font size f : Value} {parr farr : Array Value} {pn fn : Nat} {osp : Obj} {b : Bool} {ol : Addr} {arr : Array Value} {e : Nat} {n nc : Nat} {tkw : Tok} (hs : ∀ p ∈ z, p ∈ l) (hA : Ap7 tour dt pl fd st ds sp) (O : Off [tour, dt, pl, fd, st, ds, sp] l) (hst : StOk w f z sp osp ctm font size b nc) (hol : (ol, W.listOf arr e) ∈ z) (hn : n + nc ≤ 1800) (hz : farr.size ≤ 800) (hr : IsM z row n) (hp : IsM z place n) {ps : List (Option Nat)} (hft : FontFor z font ps) (hops : OpsAt z arr.toList [.a ps]) :
    Fn w mean mg mb 592 80 [.ref tour, .str (Str.ofString "TJ") tkw, .ref ol] ([(tour, W.instObj 581 dt), (dt, W.dictOf [⟨htw0, .str (Str.ofString "sheet") ktw0, sheet⟩, ⟨htw1, .str (Str.ofString "state") ktw1, .ref st⟩, ⟨htw2, .str (Str.ofString "pile") ktw2, .ref pl⟩, ⟨htw3, .str (Str.ofString "row") ktw3, row⟩, ⟨htw4, .str (Str.ofString "place") ktw4, place⟩, ⟨htw5, .str (Str.ofString "found") ktw5, .ref fd⟩] 6), (pl, W.listOf parr pn), (fd, W.listOf farr fn), (st, W.instObj 497 ds), (ds, W.dictOf [⟨hst0, .str (Str.ofString "ctm") kst0, ctm⟩, ⟨hst1, .str (Str.ofString "font") kst1, font⟩, ⟨hst2, .str (Str.ofString "size") kst2, size⟩, ⟨hst3, .str (Str.ofString "spacing") kst3, .ref sp⟩] 4), (sp, osp)] ++ l) (TP [tour, dt, pl, fd, st, ds, sp] l z (fun M' z' r => r = .none ∧ ∃ row' place' farr' fn' osp', M' = [(tour, W.instObj 581 dt), (dt, W.dictOf [⟨htw0, .str (Str.ofString "sheet") ktw0, sheet⟩, ⟨htw1, .str (Str.ofString "state") ktw1, .ref st⟩, ⟨htw2, .str (Str.ofString "pile") ktw2, .ref pl⟩, ⟨htw3, .str (Str.ofString "row") ktw3, row'⟩, ⟨htw4, .str (Str.ofString "place") ktw4, place'⟩, ⟨htw5, .str (Str.ofString "found") ktw5, .ref fd⟩] 6), (pl, W.listOf parr pn), (fd, W.listOf farr' fn'), (st, W.instObj 497 ds), (ds, W.dictOf [⟨hst0, .str (Str.ofString "ctm") kst0, ctm⟩, ⟨hst1, .str (Str.ofString "font") kst1, font⟩, ⟨hst2, .str (Str.ofString "size") kst2, size⟩, ⟨hst3, .str (Str.ofString "spacing") kst3, .ref sp⟩] 4), (sp, osp')] ∧ PlAt z' row' place' true (n + 60) ∧ StOk w f z' sp osp' ctm font size b nc ∧ farr'.size = farr.size + (octs ps).sum)) := by
  unfold Fn
  k_fill
  intro dp un gd cn cs aa ccd cl outer A₀ base h₀ L m s Q E B F X N T hk hdd hu hret
  simp only [List.cons_append, List.nil_append] at N
  obtain ⟨n1, n2, n3, n4, n5, n6, n7, n8, n9, n10, n11, n12, n13, n14, n15, n16, n17, n18, n19, n20, n21⟩ := id hA
  cases hst with
  | mk lo ho h1 h2 h3 h4 h5 h6 hc hf =>
  obtain ⟨v1, rfl, q1⟩ := hops.one_of
  obtain ⟨ax, arr2, e2, rfl, hax, hparts, hmem⟩ := q1.arr_of
  have hle := arrays_len hmem
  obtain ⟨ar, rfl⟩ := hr.isRef
  obtain ⟨ap, rfl⟩ := hp.isRef
  have holl := hs _ hol
  kqd_sub
  refine hret _ _ _ _ (by k_asm) (by k_asm) ⟨_, _, _, app7, by ktu_off1L, by with_reducible assumption, rfl, _, _, _, _, _, rfl, .on (by kfm_turns) (by kfm_turns), .mk lo (by with_reducible assumption) ?_ ?_ ?_ ?_ ?_ ?_ ?_ hf, by with_reducible assumption⟩
  all_goals first | kwd_rel | kfm_turns
end
local macro_rules | `(tactic| walk_at "pad") => `(tactic| skip)
local macro_rules | `(tactic| walk_at "pad") => `(tactic| skip)
local macro_rules | `(tactic| walk_at "pad") => `(tactic| skip)
local macro_rules | `(tactic| walk_at "pad") => `(tactic| skip)
local macro_rules | `(tactic| walk_at "pad") => `(tactic| skip)
local macro_rules | `(tactic| walk_at "pad") => `(tactic| skip)
local macro_rules | `(tactic| walk_at "pad") => `(tactic| skip)
local macro_rules | `(tactic| walk_at "pad") => `(tactic| skip)
local macro_rules | `(tactic| walk_at "pad") => `(tactic| skip)
local macro_rules | `(tactic| walk_at "pad") => `(tactic| skip)
local macro_rules | `(tactic| walk_at "pad") => `(tactic| skip)
local macro_rules | `(tactic| walk_at "pad") => `(tactic| skip)

section
local macro_rules | `(tactic| walk_at "call ref") => `(tactic| (k_here; (with_reducible show wpAny _ _ (call (Value.ref _) _) _ _ _); (refine Stop.out ?_; walk_say "STOP")))
theorem fp_out {w : World} {mean : ExcName → Option Value} {mg mb : Str → Option Value} {l z : Led} {tour dt pl fd st ds sp : Addr} {sheet : Value} {htw0 htw1 htw2 htw3 htw4 htw5 : Int} {ktw0 ktw1 ktw2 ktw3 ktw4 ktw5 : Tok} {hst0 hst1 hst2 hst3 : Int} {kst0 kst1 kst2 kst3 : Tok} {row ctm font size : Value} {parr farr : Array Value} {pn fn : Nat} {osp : Obj} {word : Str} {tkw : Tok} {ops : Value} (hs : ∀ p ∈ z, p ∈ l) (hw : word.length ≤ 10) :
    Th w mean mg mb 592 30 [.ref tour, .str word tkw, ops] ([(tour, W.instObj 581 dt), (dt, W.dictOf [⟨htw0, .str (Str.ofString "sheet") ktw0, sheet⟩, ⟨htw1, .str (Str.ofString "state") ktw1, .ref st⟩, ⟨htw2, .str (Str.ofString "pile") ktw2, .ref pl⟩, ⟨htw3, .str (Str.ofString "row") ktw3, row⟩, ⟨htw4, .str (Str.ofString "place") ktw4, .none⟩, ⟨htw5, .str (Str.ofString "found") ktw5, .ref fd⟩] 6), (pl, W.listOf parr pn), (fd, W.listOf farr fn), (st, W.instObj 497 ds), (ds, W.dictOf [⟨hst0, .str (Str.ofString "ctm") kst0, ctm⟩, ⟨hst1, .str (Str.ofString "font") kst1, font⟩, ⟨hst2, .str (Str.ofString "size") kst2, size⟩, ⟨hst3, .str (Str.ofString "spacing") kst3, .ref sp⟩] 4), (sp, osp)] ++ l) z 59 := by
  unfold Th
  k_fill
  intro dp un gd cn cs aa ccd cl outer A₀ base h₀ L m s Q E B F X N T hk hdd hu hthr
  simp only [List.cons_append, List.nil_append] at N
  kqd_sub
  refine Stop.in ?_
  refine raise_fault (C := 59) (by k_asm) (by k_asm) (topRead_of (by k_asm)) (by k_is) fault59 rfl ?_ (by rfl) (by rfl)
  k_steps
  refine' Fn.use (fault_ok fault59) ?B ?F ?X ?N ?T ?kK ?kd ?ku ?_
  kaf_pre
  kqd_all
  exact fun h2 R2 U2 => hthr _ _ _ _ _ _ (by with_reducible assumption) U2 (RaisedS.sub R2 (by kpt_turns))
end
local macro_rules | `(tactic| walk_at "pad") => `(tactic| skip)
local macro_rules | `(tactic| walk_at "pad") => `(tactic| skip)
section
local macro_rules | `(tactic| walk_at "call ref") => `(tactic| (k_here; (with_reducible show wpAny _ _ (call (Value.ref _) _) _ _ _); (refine Stop.out ?_; walk_say "STOP")))
local macro_rules | `(tactic| walk_at "call ref") => `(tactic| (k_here; (with_reducible show wpAny _ _ (call (Value.ref 185) _) _ _ _); k_dflt ((refine' Fn.useM (M := [_, _, _, _, _, _, _]) ?N ?hs (decOf_ok (sub_on ?hs) ?h1) ?B ?F ?X ?T ?kK ?kd ?ku ?O ?_); (case N => k_asm); (case hs => with_reducible assumption); kaf_suf; (case h1 => kwd_rel); rintro r' l' z' h' tk' F' N' G' hz' hl' O' D'; (have hG' := Grow.of G')); (try simp only [List.cons_append, List.nil_append, List.map_cons, List.map_nil] at N' O'); (obtain ⟨x', er'⟩ := IsD.isRef D'); subst er'; (try dsimp only); (try k_fold)))
local macro_rules | `(tactic| walk_at "call ref") => `(tactic| (k_here; (with_reducible show wpAny _ _ (call (Value.ref 115) _) _ _ _); k_dflt ((refine' Fn.useM (M := [_, _, _, _, _, _, _]) ?N ?hs (negated_ok (sub_on ?hs) ?h1) ?B ?F ?X ?T ?kK ?kd ?ku ?O ?_); (case N => k_asm); (case hs => with_reducible assumption); kaf_suf; (case h1 => kwd_rel); rintro r' l' z' h' tk' F' N' G' hz' hl' O' D'; (have hG' := Grow.of G')); (try simp only [List.cons_append, List.nil_append, List.map_cons, List.map_nil] at N' O'); (obtain ⟨x', er'⟩ := IsD.isRef D'); subst er'; (try dsimp only); (try k_fold)))
local macro_rules | `(tactic| walk_at "call ref") => `(tactic| (k_here; (with_reducible show wpAny _ _ (call (Value.ref 375) _) _ _ _); k_dflt ((refine' Fn.useM (M := [_, _, _, _, _, _, _]) ?N ?hs (from_array_ok (sub_on ?hs) ?hl ?h1 ?h2 ?h3 ?h4 ?h5 ?h6) ?B ?F ?X ?T ?kK ?kd ?ku ?O ?_); (case N => k_asm); (case hs => with_reducible assumption); kaf_suf; (case hl => k_mem); (case h1 => kwd_rel); (case h2 => kwd_rel); (case h3 => kwd_rel); (case h4 => kwd_rel); (case h5 => kwd_rel); (case h6 => kwd_rel); rintro r' l' z' h' tk' F' N' G' hz' hl' O' D'; (have hG' := Grow.of G')); (try simp only [List.cons_append, List.nil_append, List.map_cons, List.map_nil] at N' O'); (obtain ⟨x', er'⟩ := IsM.isRef D'); subst er'; (try dsimp only); (try k_fold)))
local macro_rules | `(tactic| walk_at "call ref") => `(tactic| (k_here; (with_reducible show wpAny _ _ (call (Value.ref 564) _) _ _ _); k_dflt ((refine' Fn.useT (M := [_, _, _, _, _, _, _]) ?N ?hs ?O (next_row_ok ?hs ?hA ?O ?hr ?h1 ?h2 ?hn) ?B ?F ?X ?T ?kK ?kd ?ku ?_); (case N => k_asm); (case hs => with_reducible assumption); (case O => with_reducible assumption); (case hA => with_reducible assumption); kt_ors; (case hr => kfm_turns); (case h1 => kwd_rel); (case h2 => kwd_rel); (case hn => omega); rintro r' M' l' z' h' tk' F' N' G' hz' hl' O' D'; (have hG' := Grow.of G')); (obtain ⟨e1', ro', e2', hm'⟩ := D'); subst e1'; subst e2'; (obtain ⟨x', er'⟩ := IsM.isRef hm'); subst er'; (try simp only [List.cons_append, List.nil_append, List.map_cons, List.map_nil] at N' O'); (try dsimp only); (try k_fold)))
local macro_rules | `(tactic| walk_at "call ref") => `(tactic| (k_here; (with_reducible show wpAny _ _ (call (Value.ref 571) _) _ _ _); k_dflt ((refine' Fn.useT (M := [_, _, _, _, _, _, _]) ?N ?hs ?O (feed_ok ?hs ?hA ?O ?hr ?ho ?h1 ?hn) ?B ?F ?X ?T ?kK ?kd ?ku ?_); (case N => k_asm); (case hs => with_reducible assumption); (case O => with_reducible assumption); (case hA => with_reducible assumption); kt_ors; (case hr => kfm_turns); (case ho => with_reducible assumption); (case h1 => kwd_rel); (case hn => omega); rintro r' M' l' z' h' tk' F' N' G' hz' hl' O' D'; (have hG' := Grow.of G')); (obtain ⟨e1', ro', e2', hm'⟩ := D'); subst e1'; subst e2'; (obtain ⟨x', er'⟩ := IsM.isRef hm'); subst er'; (try simp only [List.cons_append, List.nil_append, List.map_cons, List.map_nil] at N' O'); (try dsimp only); (try k_fold)))
local macro_rules | `(tactic| walk_at "call ref") => `(tactic| (k_here; (with_reducible show wpAny _ _ (call (Value.ref 578) _) _ _ _); k_dflt ((refine' Fn.useT (M := [_, _, _, _, _, _, _]) ?N ?hs ?O (set_matrix_ok ?hs ?hA ?O) ?B ?F ?X ?T ?kK ?kd ?ku ?_); (case N => k_asm); (case hs => with_reducible assumption); (case O => with_reducible assumption); (case hA => with_reducible assumption); kt_ors; skip; rintro r' M' l' z' h' tk' F' N' G' hz' hl' O' D'; (have hG' := Grow.of G')); (obtain ⟨e1', e2'⟩ := D'); subst e1'; subst e2'; (try simp only [List.cons_append, List.nil_append, List.map_cons, List.map_nil] at N' O'); (try dsimp only); (try k_fold)))
local macro_rules | `(tactic| walk_at "call ref") => `(tactic| (k_here; (with_reducible show wpAny _ _ (call (Value.ref 550) _) _ _ _); k_dflt ((refine' Fn.useT (M := [_, _, _, _, _, _, _]) ?N ?hs ?O (show_ok ?hs ?hA ?O ?ho ?hf ?h5 ?h1 ?h2 ?h3 ?h4 ?hc ?hp ?hb ?hn ?hz) ?B ?F ?X ?T ?kK ?kd ?ku ?_); (case N => k_asm); (case hs => with_reducible assumption); (case O => with_reducible assumption); (case hA => with_reducible assumption); kt_ors; (case ho => with_reducible assumption); (case hf => ktu_offI); (case h5 => kwd_rel); (case h1 => kwd_rel); (case h2 => kwd_rel); (case h3 => kwd_rel); (case h4 => kwd_rel); (case hc => kfm_turns); (case hp => kfm_turns); (case hb => with_reducible assumption); (case hn => omega); (case hz => omega); rintro r' M' l' z' h' tk' F' N' G' hz' hl' O' D'; (have hG' := Grow.of G')); (obtain ⟨e1', pc', fa', fn', e2', hm', hsz'⟩ := D'); subst e1'; subst e2'; (obtain ⟨x', er'⟩ := IsM.isRef hm'); subst er'; (try simp only [List.cons_append, List.nil_append, List.map_cons, List.map_nil] at N' O'); (try dsimp only); (try k_fold)))
local macro_rules | `(tactic| walk_at "call ref") => `(tactic| (k_here; (with_reducible show wpAny _ _ (call (Value.ref 557) _) _ _ _); k_dflt ((refine' Fn.useT (M := [_, _, _, _, _, _, _]) ?N ?hs ?O (show_parts_ok ?hs ?hA ?O ?ho ?hax ?hps ?hle ?hf ?h5 ?h1 ?h2 ?h3 ?h4 ?hc ?hp ?hn ?hz) ?B ?F ?X ?T ?kK ?kd ?ku ?_); (case N => k_asm); (case hs => with_reducible assumption); (case O => with_reducible assumption); (case hA => with_reducible assumption); kt_ors; (case ho => with_reducible assumption); (case hax => k_mem); (case hps => refine' PartsAt.mono ?s9 ?h9; (case h9 => with_reducible assumption); (case s9 => kt_eqs)); (case hle => with_reducible assumption); (case hf => refine' FontFor.mono ?h9 ?s9; (case h9 => with_reducible assumption); (case s9 => kt_eqs)); (case h5 => kwd_rel); (case h1 => kwd_rel); (case h2 => kwd_rel); (case h3 => kwd_rel); (case h4 => kwd_rel); (case hc => kfm_turns); (case hp => kfm_turns); (case hn => omega); (case hz => omega); rintro r' M' l' z' h' tk' F' N' G' hz' hl' O' D'; (have hG' := Grow.of G')); (obtain ⟨e1', pc', fa', fn', e2', hm', hsz'⟩ := D'); subst e1'; subst e2'; (obtain ⟨x', er'⟩ := IsM.isRef hm'); subst er'; (try simp only [List.cons_append, List.nil_append, List.map_cons, List.map_nil] at N' O'); (try dsimp only); (try k_fold)))
local macro_rules | `(tactic| walk_at "newTuple") => `(tactic| (k_here; k_dflt (refine' newTup_M (M := [_, _, _, _, _, _, _]) ?F ?N ?hs ?O ?z ?_; (case F => k_asm); (case N => k_asm); (case hs => with_reducible assumption); (case O => (show Off [_, _, _, _, _, _, _] _); with_reducible assumption); (case z => exact Nat.le_of_ble_eq_true rfl)); intro D' l' z' h' F' N' G' hz' hl' O' hm'; (have hG' := Grow.of G'); (try simp only [List.cons_append, List.nil_append, List.map_cons, List.map_nil] at N' O')))
local macro_rules | `(tactic| walk_at "call ref") => `(tactic| (k_here; (with_reducible show wpAny _ _ (call (Value.ref 550) _) _ _ _); refine Stop.out ?_; walk_say "STOP SHOW"))
local macro_rules | `(tactic| walk_at "call ref") => `(tactic| (k_here; (with_reducible show wpAny _ _ (call (Value.ref 557) _) _ _ _); refine Stop.out ?_; walk_say "STOP SHOW"))
local macro_rules | `(tactic| walk_at "setItem ref str") => `(tactic| (k_here; k_dflt (refine' sp_set ?F ?N ?U ?d ?e ?_; (case F => k_asm); (case N => k_asm); (case U => k_updF); (case d => with_reducible assumption); (case e => exact rfl)); intro h' o' tk' F' N' hd'; (try dsimp only at N')))
theorem fn_Tj {w : World} {mean : ExcName → Option Value} {mg mb : Str → Option Value} {l z : Led} {tour dt pl fd st ds sp : Addr} {sheet : Value} {htw0 htw1 htw2 htw3 htw4 htw5 : Int} {ktw0 ktw1 ktw2 ktw3 ktw4 ktw5 : Tok} {hst0 hst1 hst2 hst3 : Int} {kst0 kst1 kst2 kst3 : Tok} {row place ctm font size f : Value} {parr farr : Array Value} {pn fn : Nat} {osp : Obj} {ol : Addr} {arr : Array Value} {e : Nat} {n nc : Nat} {tkw : Tok} (hs : ∀ p ∈ z, p ∈ l) (hA : Ap7 tour dt pl fd st ds sp) (O : Off [tour, dt, pl, fd, st, ds, sp] l) (hst : StOk w f z sp osp ctm font size false nc) (hol : (ol, W.listOf arr e) ∈ z) (hn : n + nc ≤ 1800) (hr : IsM z row n) (hp : IsM z place n) {k : Nat} (hops : OpsAt z arr.toList [.s k]) :
    Th w mean mg mb 592 80 [.ref tour, .str (Str.ofString "Tj") tkw, .ref ol] ([(tour, W.instObj 581 dt), (dt, W.dictOf [⟨htw0, .str (Str.ofString "sheet") ktw0, sheet⟩, ⟨htw1, .str (Str.ofString "state") ktw1, .ref st⟩, ⟨htw2, .str (Str.ofString "pile") ktw2, .ref pl⟩, ⟨htw3, .str (Str.ofString "row") ktw3, row⟩, ⟨htw4, .str (Str.ofString "place") ktw4, place⟩, ⟨htw5, .str (Str.ofString "found") ktw5, .ref fd⟩] 6), (pl, W.listOf parr pn), (fd, W.listOf farr fn), (st, W.instObj 497 ds), (ds, W.dictOf [⟨hst0, .str (Str.ofString "ctm") kst0, ctm⟩, ⟨hst1, .str (Str.ofString "font") kst1, font⟩, ⟨hst2, .str (Str.ofString "size") kst2, size⟩, ⟨hst3, .str (Str.ofString "spacing") kst3, .ref sp⟩] 4), (sp, osp)] ++ l) z 71 := by
  unfold Th
  k_fill
  intro dp un gd cn cs aa ccd cl outer A₀ base h₀ L m s Q E B F X N T hk hdd hu hthr
  simp only [List.cons_append, List.nil_append] at N
  obtain ⟨n1, n2, n3, n4, n5, n6, n7, n8, n9, n10, n11, n12, n13, n14, n15, n16, n17, n18, n19, n20, n21⟩ := id hA
  cases hst with
  | mk lo ho h1 h2 h3 h4 h5 h6 hc hf =>
  subst hf
  simp only [Bool.false_eq_true, if_false] at N ⊢
  obtain ⟨v1, rfl, q1⟩ := hops.one_of
  have i1 := q1.str_of
  cases i1 with
  | mk hx0 hdx0 hb0 =>
  have hx1 := hs _ hx0
  have hdx1 := hs _ hdx0
  obtain ⟨ar, rfl⟩ := hr.isRef
  obtain ⟨ap, rfl⟩ := hp.isRef
  have holl := hs _ hol
  kqd_sub
  refine Stop.in ?_
  rename Led => zF
  refine' Th.use (show_bad (z := zF) ?hs ?hp) ?B ?F ?X ?N ?T ?kK ?kd ?ku ?_
  kaf_pre
  case hs => with_reducible assumption
  case hp => kfm_turns
  intro e t vs g2 h2 tk2 F2 U2 R2
  refine leave_onS (by k_asm) F2 R2 U2 ?_
  exact fun h3 R3 _ U3 => hthr _ _ _ _ _ _ (by with_reducible assumption) U3 (RaisedS.sub R3 (by kt_eqs))
theorem fn_ap {w : World} {mean : ExcName → Option Value} {mg mb : Str → Option Value} {l z : Led} {tour dt pl fd st ds sp : Addr} {sheet : Value} {htw0 htw1 htw2 htw3 htw4 htw5 : Int} {ktw0 ktw1 ktw2 ktw3 ktw4 ktw5 : Tok} {hst0 hst1 hst2 hst3 : Int} {kst0 kst1 kst2 kst3 : Tok} {row place ctm font size f : Value} {parr farr : Array Value} {pn fn : Nat} {osp : Obj} {ol : Addr} {arr : Array Value} {e : Nat} {n nc : Nat} {tkw : Tok} (hs : ∀ p ∈ z, p ∈ l) (hA : Ap7 tour dt pl fd st ds sp) (O : Off [tour, dt, pl, fd, st, ds, sp] l) (hst : StOk w f z sp osp ctm font size false nc) (hol : (ol, W.listOf arr e) ∈ z) (hn : n + nc ≤ 1800) (hr : IsM z row n) (hp : IsM z place n) {k : Nat} (hops : OpsAt z arr.toList [.s k]) :
    Th w mean mg mb 592 80 [.ref tour, .str (Str.ofString "'") tkw, .ref ol] ([(tour, W.instObj 581 dt), (dt, W.dictOf [⟨htw0, .str (Str.ofString "sheet") ktw0, sheet⟩, ⟨htw1, .str (Str.ofString "state") ktw1, .ref st⟩, ⟨htw2, .str (Str.ofString "pile") ktw2, .ref pl⟩, ⟨htw3, .str (Str.ofString "row") ktw3, row⟩, ⟨htw4, .str (Str.ofString "place") ktw4, place⟩, ⟨htw5, .str (Str.ofString "found") ktw5, .ref fd⟩] 6), (pl, W.listOf parr pn), (fd, W.listOf farr fn), (st, W.instObj 497 ds), (ds, W.dictOf [⟨hst0, .str (Str.ofString "ctm") kst0, ctm⟩, ⟨hst1, .str (Str.ofString "font") kst1, font⟩, ⟨hst2, .str (Str.ofString "size") kst2, size⟩, ⟨hst3, .str (Str.ofString "spacing") kst3, .ref sp⟩] 4), (sp, osp)] ++ l) z 71 := by
  unfold Th
  k_fill
  intro dp un gd cn cs aa ccd cl outer A₀ base h₀ L m s Q E B F X N T hk hdd hu hthr
  simp only [List.cons_append, List.nil_append] at N
  obtain ⟨n1, n2, n3, n4, n5, n6, n7, n8, n9, n10, n11, n12, n13, n14, n15, n16, n17, n18, n19, n20, n21⟩ := id hA
  cases hst with
  | mk lo ho h1 h2 h3 h4 h5 h6 hc hf =>
  subst hf
  simp only [Bool.false_eq_true, if_false] at N ⊢
  obtain ⟨v1, rfl, q1⟩ := hops.one_of
  have i1 := q1.str_of
  cases i1 with
  | mk hx0 hdx0 hb0 =>
  have hx1 := hs _ hx0
  have hdx1 := hs _ hdx0
  obtain ⟨ar, rfl⟩ := hr.isRef
  obtain ⟨ap, rfl⟩ := hp.isRef
  have holl := hs _ hol
  kqd_sub
  refine Stop.in ?_
  rename Led => zF
  refine' Th.use (show_bad (z := zF) ?hs ?hp) ?B ?F ?X ?N ?T ?kK ?kd ?ku ?_
  kaf_pre
  case hs => with_reducible assumption
  case hp => kfm_turns
  intro e t vs g2 h2 tk2 F2 U2 R2
  refine leave_onS (by k_asm) F2 R2 U2 ?_
  exact fun h3 R3 _ U3 => hthr _ _ _ _ _ _ (by with_reducible assumption) U3 (RaisedS.sub R3 (by kt_eqs))
theorem fn_qu {w : World} {mean : ExcName → Option Value} {mg mb : Str → Option Value} {l z : Led} {tour dt pl fd st ds sp : Addr} {sheet : Value} {htw0 htw1 htw2 htw3 htw4 htw5 : Int} {ktw0 ktw1 ktw2 ktw3 ktw4 ktw5 : Tok} {hst0 hst1 hst2 hst3 : Int} {kst0 kst1 kst2 kst3 : Tok} {row place ctm font size f : Value} {parr farr : Array Value} {pn fn : Nat} {osp : Obj} {ol : Addr} {arr : Array Value} {e : Nat} {n nc : Nat} {tkw : Tok} (hs : ∀ p ∈ z, p ∈ l) (hA : Ap7 tour dt pl fd st ds sp) (O : Off [tour, dt, pl, fd, st, ds, sp] l) (hst : StOk w f z sp osp ctm font size false nc) (hol : (ol, W.listOf arr e) ∈ z) (hn : n + nc ≤ 1800) (hr : IsM z row n) (hp : IsM z place n) {k : Nat} (hops : OpsAt z arr.toList [.n, .n, .s k]) :
    Th w mean mg mb 592 80 [.ref tour, .str (Str.ofString "\"") tkw, .ref ol] ([(tour, W.instObj 581 dt), (dt, W.dictOf [⟨htw0, .str (Str.ofString "sheet") ktw0, sheet⟩, ⟨htw1, .str (Str.ofString "state") ktw1, .ref st⟩, ⟨htw2, .str (Str.ofString "pile") ktw2, .ref pl⟩, ⟨htw3, .str (Str.ofString "row") ktw3, row⟩, ⟨htw4, .str (Str.ofString "place") ktw4, place⟩, ⟨htw5, .str (Str.ofString "found") ktw5, .ref fd⟩] 6), (pl, W.listOf parr pn), (fd, W.listOf farr fn), (st, W.instObj 497 ds), (ds, W.dictOf [⟨hst0, .str (Str.ofString "ctm") kst0, ctm⟩, ⟨hst1, .str (Str.ofString "font") kst1, font⟩, ⟨hst2, .str (Str.ofString "size") kst2, size⟩, ⟨hst3, .str (Str.ofString "spacing") kst3, .ref sp⟩] 4), (sp, osp)] ++ l) z 71 := by
  unfold Th
  k_fill
  intro dp un gd cn cs aa ccd cl outer A₀ base h₀ L m s Q E B F X N T hk hdd hu hthr
  simp only [List.cons_append, List.nil_append] at N
  obtain ⟨n1, n2, n3, n4, n5, n6, n7, n8, n9, n10, n11, n12, n13, n14, n15, n16, n17, n18, n19, n20, n21⟩ := id hA
  cases hst with
  | mk lo ho h1 h2 h3 h4 h5 h6 hc hf =>
  subst hf
  simp only [Bool.false_eq_true, if_false] at N ⊢
  obtain ⟨v1, v2, v3, rfl, q1, q2, q3⟩ := hops.three_of
  have i1 := q1.num_of
  have i2 := q2.num_of
  have i3 := q3.str_of
  cases i3 with
  | mk hx0 hdx0 hb0 =>
  have hx1 := hs _ hx0
  have hdx1 := hs _ hdx0
  obtain ⟨ar, rfl⟩ := hr.isRef
  obtain ⟨ap, rfl⟩ := hp.isRef
  have holl := hs _ hol
  kqd_sub
  refine Stop.in ?_
  rename Led => zF
  refine' Th.use (show_bad (z := zF) ?hs ?hp) ?B ?F ?X ?N ?T ?kK ?kd ?ku ?_
  kaf_pre
  case hs => with_reducible assumption
  case hp => kfm_turns
  intro e t vs g2 h2 tk2 F2 U2 R2
  refine leave_onS (by k_asm) F2 R2 U2 ?_
  exact fun h3 R3 _ U3 => hthr _ _ _ _ _ _ (by with_reducible assumption) U3 (RaisedS.sub R3 (by kt_eqs))
theorem fn_TJ {w : World} {mean : ExcName → Option Value} {mg mb : Str → Option Value} {l z : Led} {tour dt pl fd st ds sp : Addr} {sheet : Value} {htw0 htw1 htw2 htw3 htw4 htw5 : Int} {ktw0 ktw1 ktw2 ktw3 ktw4 ktw5 : Tok} {hst0 hst1 hst2 hst3 : Int} {kst0 kst1 kst2 kst3 : Tok} {row place ctm font size f : Value} {parr farr : Array Value} {pn fn : Nat} {osp : Obj} {ol : Addr} {arr : Array Value} {e : Nat} {n nc : Nat} {tkw : Tok} (hs : ∀ p ∈ z, p ∈ l) (hA : Ap7 tour dt pl fd st ds sp) (O : Off [tour, dt, pl, fd, st, ds, sp] l) (hst : StOk w f z sp osp ctm font size false nc) (hol : (ol, W.listOf arr e) ∈ z) (hn : n + nc ≤ 1800) (hr : IsM z row n) (hp : IsM z place n) {ps : List (Option Nat)} (hne : octs ps ≠ []) (hops : OpsAt z arr.toList [.a ps]) :
    Th w mean mg mb 592 80 [.ref tour, .str (Str.ofString "TJ") tkw, .ref ol] ([(tour, W.instObj 581 dt), (dt, W.dictOf [⟨htw0, .str (Str.ofString "sheet") ktw0, sheet⟩, ⟨htw1, .str (Str.ofString "state") ktw1, .ref st⟩, ⟨htw2, .str (Str.ofString "pile") ktw2, .ref pl⟩, ⟨htw3, .str (Str.ofString "row") ktw3, row⟩, ⟨htw4, .str (Str.ofString "place") ktw4, place⟩, ⟨htw5, .str (Str.ofString "found") ktw5, .ref fd⟩] 6), (pl, W.listOf parr pn), (fd, W.listOf farr fn), (st, W.instObj 497 ds), (ds, W.dictOf [⟨hst0, .str (Str.ofString "ctm") kst0, ctm⟩, ⟨hst1, .str (Str.ofString "font") kst1, font⟩, ⟨hst2, .str (Str.ofString "size") kst2, size⟩, ⟨hst3, .str (Str.ofString "spacing") kst3, .ref sp⟩] 4), (sp, osp)] ++ l) z 71 := by
  unfold Th
  k_fill
  intro dp un gd cn cs aa ccd cl outer A₀ base h₀ L m s Q E B F X N T hk hdd hu hthr
  simp only [List.cons_append, List.nil_append] at N
  obtain ⟨n1, n2, n3, n4, n5, n6, n7, n8, n9, n10, n11, n12, n13, n14, n15, n16, n17, n18, n19, n20, n21⟩ := id hA
  cases hst with
  | mk lo ho h1 h2 h3 h4 h5 h6 hc hf =>
  subst hf
  simp only [Bool.false_eq_true, if_false] at N ⊢
  obtain ⟨v1, rfl, q1⟩ := hops.one_of
  obtain ⟨ax, arr2, e2, rfl, hax, hparts, hmem⟩ := q1.arr_of
  have hle := arrays_len hmem
  obtain ⟨ar, rfl⟩ := hr.isRef
  obtain ⟨ap, rfl⟩ := hp.isRef
  have holl := hs _ hol
  kqd_sub
  refine Stop.in ?_
  rename Led => zF
  refine' Th.use (show_parts_bad (z := zF) ?hs ?hA ?O ?ho ?hax ?hps ?hle ?hf ?h5 ?h3 ?hp ?hn) ?B ?F ?X ?N ?T ?kK ?kd ?ku ?_
  kaf_pre
  case hs => with_reducible assumption
  case hA => with_reducible assumption
  case O => with_reducible assumption
  case ho => with_reducible assumption
  case hax => k_mem
  case hps => exact PartsAt.mono (by kt_eqs) hparts
  case hle => exact hle
  case hf => exact hne
  case h5 => kwd_rel
  case h3 => kwd_rel
  case hp => kfm_turns
  case hn => omega
  intro e t vs g2 h2 tk2 F2 U2 R2
  refine leave_onS (by k_asm) F2 R2 U2 ?_
  exact fun h3 R3 _ U3 => hthr _ _ _ _ _ _ (by with_reducible assumption) U3 (RaisedS.sub R3 (by kt_eqs))
end
local macro_rules | `(tactic| walk_at "pad") => `(tactic| skip)
local macro_rules | `(tactic| walk_at "pad") => `(tactic| skip)
local macro_rules | `(tactic| walk_at "pad") => `(tactic| skip)
local macro_rules | `(tactic| walk_at "pad") => `(tactic| skip)
local macro_rules | `(tactic| walk_at "pad") => `(tactic| skip)
local macro_rules | `(tactic| walk_at "pad") => `(tactic| skip)
local macro_rules | `(tactic| walk_at "pad") => `(tactic| skip)
local macro_rules | `(tactic| walk_at "pad") => `(tactic| skip)
local macro_rules | `(tactic| walk_at "pad") => `(tactic| skip)
local macro_rules | `(tactic| walk_at "pad") => `(tactic| skip)
local macro_rules | `(tactic| walk_at "pad") => `(tactic| skip)
local macro_rules | `(tactic| walk_at "pad") => `(tactic| skip)
local macro_rules | `(tactic| walk_at "pad") => `(tactic| skip)
local macro_rules | `(tactic| walk_at "pad") => `(tactic| skip)

theorem Fn.useCO {w : World} {mean : ExcName → Option Value} {mg mb : Str → Option Value} {f : Addr} {k : Nat} {vs : List Value} {M l z : Led} {P : Led → Led → Value → Addr → Prop}
    {dp un : Nat} {gd : Option (List Code)} {cn : Str} {cs : Scope} {a : Addr} {ccd : Value} {cl : List (Str × Addr)} {outer : List Env} {A₀ : Around} {base h₀ : Heap} {L : Addr} {m : Str → Option Value} {s : Shared} {Q E : Value → Shared → Prop}
    (N : News h₀ L s.heap (M ++ l)) (hs : ∀ p ∈ z, p ∈ l) (O : Off (M.map (·.1)) l)
    (C : Fn w mean mg mb f k vs (M ++ l) (MP (M ++ l) z fun C z' r => ∃ x, r = .ref x ∧ P C z' r x))
    (B : Below A₀ base outer h₀) (F : Fr h₀ L s.heap m) (X : (hd.heap_39 w.params).In h₀) (T : Top hd.view_39 (looseW hd.view_39 [Str.ofString "PaperError", Str.ofString "OTHER_CODES"]) mean mg mb h₀) (hk : cs.kind = .function) (hd : dp + k < recursionLimit) (hu : un + 8 * k < cLine)
    (ret : ∀ r l₃ z₂ h' tk', Fr h₀ L h' m → News h₀ L h' (M ++ l₃) → (∀ p ∈ z, p ∈ z₂) → (∀ p ∈ z₂, p ∈ l₃) → Off (M.map (·.1)) l₃ → (∃ x, r = .ref x ∧ ∃ C l₂, l₃ = C ++ l₂ ∧ Ex l z l₂ z₂ ∧ Off (C.map (·.1)) l₂ ∧ P C z₂ r x) → Q r { s with heap := h', toks := tk' }) :
    wpAny (model PySem.Challenge.rw_og0194_01.row.prog w) (ktrTop dp un gd cn cs L a ccd cl outer) (call (.ref f) vs) Q E s := by
  refine Fn.useC N hs O C B F X T hk hd hu ?_
  rintro r C' l₂ z₂ h' tk' F' N' G hzz hzl O' P' ⟨x, hx, p⟩
  refine ret r (C' ++ l₂) z₂ h' tk' F' (News.sub N' fun p hp => ?_) hzz (fun p hp => List.mem_append_right _ (hzl p hp)) (fun p hp e => ?_) ⟨x, hx, C', l₂, rfl, G, P'.sub fun p hp => List.mem_append_right _ hp, p⟩
  · simp only [List.mem_append] at hp ⊢
    rcases hp with h | h | h <;> simp [h]
  · rcases List.mem_append.mp hp with hp | hp
    · obtain ⟨q, hq, e⟩ := List.mem_map.mp e
      exact P' q (List.mem_append_left _ hq) (by rw [e]; exact List.mem_map_of_mem hp)
    · exact O' p hp e
theorem drop7 {a b c d e f g : Addr × Obj} {l : Led} : ∀ p ∈ [a, b, c, d] ++ l, p ∈ a :: b :: c :: d :: e :: f :: g :: l := fun p hp => by
  simp only [List.cons_append, List.nil_append, List.mem_cons] at hp ⊢
  rcases hp with h | h | h | h | h <;> simp [h]
theorem copiedO_ok {w : World} {mean : ExcName → Option Value} {mg mb : Str → Option Value} {l z : Led} {st ds sp : Addr} {osp : Obj} {hst0 hst1 hst2 hst3 : Int} {kst0 kst1 kst2 kst3 : Tok} {c font size f : Value} {b : Bool} {n : Nat} (hs : ∀ p ∈ z, p ∈ l)
    (hx : (st, W.instObj 497 ds) ∈ l) (hds : (ds, W.dictOf [⟨hst0, .str (Str.ofString "ctm") kst0, c⟩, ⟨hst1, .str (Str.ofString "font") kst1, font⟩, ⟨hst2, .str (Str.ofString "size") kst2, size⟩, ⟨hst3, .str (Str.ofString "spacing") kst3, .ref sp⟩] 4) ∈ l) (hsp : (sp, osp) ∈ l) (hff : IsFont z f) (hst : StOk w f z sp osp c font size b n) :
    Fn w mean mg mb 487 16 [.ref st] l (MP l z fun C z' r => ∃ x, r = .ref x ∧ ∃ ds' sp' osp' dd, C = st3 x ds' sp' dd osp' ∧ @Ne Nat x ds' ∧ @Ne Nat x sp' ∧ @Ne Nat ds' sp' ∧ StD dd c font size sp' ∧ StOk w f z' sp' osp' c font size b n) :=
  (copied_ok hs hx hds hsp hff hst).post fun r l' ⟨C, l₂, z₂, e, G, O, x, ds', sp', osp', dd, q1, q2, q3⟩ => ⟨C, l₂, z₂, e, G, O, x, q1, ds', sp', osp', dd, q2, q3⟩
section
local macro_rules | `(tactic| walk_at "call ref") => `(tactic| (k_here; (with_reducible show wpAny _ _ (call (Value.ref _) _) _ _ _); (refine Stop.out ?_; walk_say "STOP")))
local macro_rules | `(tactic| walk_at "call ref") => `(tactic| (k_here; (with_reducible show wpAny _ _ (call (Value.ref 487) _) _ _ _); k_dflt ((refine' Fn.useCO (M := [_, _, _, _, _, _, _]) ?N ?hs ?O (copiedO_ok (sub_on ?hs) ?hx ?hds ?hsp ?hff ?hst) ?B ?F ?X ?T ?kK ?kd ?ku ?_); (case N => k_asm); (case hs => with_reducible assumption); (case O => first | exact Off.nil | ((show Off [_, _, _, _, _, _, _] _); with_reducible assumption)); kt_ors; (case hff => ktu_offI); (case hx => k_mem); (case hds => k_mem); (case hsp => k_mem); (case hst => with_reducible assumption); rintro r' l' z' h' tk' F' N' hz' hl' O' D'; (obtain ⟨x', er', hq'⟩ := D'); subst er'); (try simp only [List.cons_append, List.nil_append, List.map_cons, List.map_nil] at N' O'); (try dsimp only); (try k_fold)))
local macro_rules | `(tactic| walk_at "call builtin:list.append") => `(tactic| (k_here; k_dflt (refine' append_K ?k1 ?k2 ?k3 ?_ ?z; (case k1 => k_asm); (case k2 => k_asm); (case k3 => k_upd); (case z => rw [sizeLine_eq]; omega)); intro h' F' N'; (try dsimp only [List.nil_append, List.cons_append] at N')))
theorem fs_q {w : World} {mean : ExcName → Option Value} {mg mb : Str → Option Value} {l z : Led} {tour dt pl fd st ds sp : Addr} {sheet : Value} {htw0 htw1 htw2 htw3 htw4 htw5 : Int} {ktw0 ktw1 ktw2 ktw3 ktw4 ktw5 : Tok} {hst0 hst1 hst2 hst3 : Int} {kst0 kst1 kst2 kst3 : Tok} {row place ctm font size : Value} {parr farr : Array Value} {pn fn : Nat} {osp : Obj} {tkw : Tok} {f : Value} {b : Bool} {nc : Nat} {ops : Value} (hs : ∀ p ∈ z, p ∈ l) (hA : Ap7 tour dt pl fd st ds sp) (O : Off [tour, dt, pl, fd, st, ds, sp] l) (hff : IsFont z f) (hst : StOk w f z sp osp ctm font size b nc) (hpz : parr.size ≤ 100) :
    Fn w mean mg mb 606 30 [.ref tour, .str (Str.ofString "q") tkw, ops] ([(tour, W.instObj 581 dt), (dt, W.dictOf [⟨htw0, .str (Str.ofString "sheet") ktw0, sheet⟩, ⟨htw1, .str (Str.ofString "state") ktw1, .ref st⟩, ⟨htw2, .str (Str.ofString "pile") ktw2, .ref pl⟩, ⟨htw3, .str (Str.ofString "row") ktw3, row⟩, ⟨htw4, .str (Str.ofString "place") ktw4, place⟩, ⟨htw5, .str (Str.ofString "found") ktw5, .ref fd⟩] 6), (pl, W.listOf parr pn), (fd, W.listOf farr fn), (st, W.instObj 497 ds), (ds, W.dictOf [⟨hst0, .str (Str.ofString "ctm") kst0, ctm⟩, ⟨hst1, .str (Str.ofString "font") kst1, font⟩, ⟨hst2, .str (Str.ofString "size") kst2, size⟩, ⟨hst3, .str (Str.ofString "spacing") kst3, .ref sp⟩] 4), (sp, osp)] ++ l)
      (fun r l' => ∃ x ds' sp' osp' dd pn' l₂ z₂, r = .none ∧ l' = [(tour, W.instObj 581 dt), (dt, W.dictOf [⟨htw0, .str (Str.ofString "sheet") ktw0, sheet⟩, ⟨htw1, .str (Str.ofString "state") ktw1, .ref st⟩, ⟨htw2, .str (Str.ofString "pile") ktw2, .ref pl⟩, ⟨htw3, .str (Str.ofString "row") ktw3, row⟩, ⟨htw4, .str (Str.ofString "place") ktw4, place⟩, ⟨htw5, .str (Str.ofString "found") ktw5, .ref fd⟩] 6), (pl, W.listOf (parr.push (.ref x)) pn'), (fd, W.listOf farr fn), (st, W.instObj 497 ds), (ds, W.dictOf [⟨hst0, .str (Str.ofString "ctm") kst0, ctm⟩, ⟨hst1, .str (Str.ofString "font") kst1, font⟩, ⟨hst2, .str (Str.ofString "size") kst2, size⟩, ⟨hst3, .str (Str.ofString "spacing") kst3, .ref sp⟩] 4), (sp, osp)] ++ (st3 x ds' sp' dd osp' ++ l₂) ∧ Ex l z l₂ z₂ ∧ Off [tour, dt, pl, fd, st, ds, sp] (st3 x ds' sp' dd osp' ++ l₂) ∧ Off [x, ds', sp'] l₂ ∧ @Ne Nat x ds' ∧ @Ne Nat x sp' ∧ @Ne Nat ds' sp' ∧ StD dd ctm font size sp' ∧ StOk w f z₂ sp' osp' ctm font size b nc) := by
  unfold Fn
  k_fill
  intro dp un gd cn cs aa ccd cl outer A₀ base h₀ L m s Q E B F X N T hk hdd hu hret
  simp only [List.cons_append, List.nil_append] at N
  have hA9 := hA
  obtain ⟨n1, n2, n3, n4, n5, n6, n7, n8, n9, n10, n11, n12, n13, n14, n15, n16, n17, n18, n19, n20, n21⟩ := hA9
  have hst' := hst
  kqd_sub
  rename (∃ _ _, _) => hq
  obtain ⟨C', l₂', rfl, G', OC', ds', sp', osp', dd', rfl, m1, m2, m3, m4, m5⟩ := hq
  exact hret _ _ _ _ (by k_asm) (by k_asm) ⟨_, _, _, _, _, _, _, _, rfl, rfl, G', by with_reducible assumption, OC', m1, m2, m3, m4, m5⟩
end
local macro_rules | `(tactic| walk_at "pad") => `(tactic| skip)
local macro_rules | `(tactic| walk_at "pad") => `(tactic| skip)
local macro_rules | `(tactic| walk_at "pad") => `(tactic| skip)
local macro_rules | `(tactic| walk_at "pad") => `(tactic| skip)
section
local macro_rules | `(tactic| walk_at "call ref") => `(tactic| (k_here; (with_reducible show wpAny _ _ (call (Value.ref _) _) _ _ _); (refine Stop.out ?_; walk_say "STOP")))
local macro_rules | `(tactic| walk_at "call builtin:len") => `(tactic| (k_here; (with_reducible show wpAny _ _ (call (Value.builtin "len") [Value.ref _]) _ _ _); k_dflt (refine' call_len_list ?l ?f ?_; (case l => exact News.isArr (by k_asm) (by k_mem)); (case f => omega))))
local macro_rules | `(tactic| walk_at "call builtin:list.pop") => `(tactic| (k_here; (with_reducible show wpAny _ _ (call (Value.builtin _) [Value.ref _]) _ _ _); k_dflt (refine' kl_pop ?F ?N ?e ?U ?z ?_; (case F => k_asm); (case N => k_asm); (case e => with_reducible assumption); (case U => k_upd); (case z => rw [sizeLine_eq, Array.length_toList]; omega)); intro h' F' N'; (try dsimp only [List.nil_append, List.cons_append] at N')))
theorem fs_Q {w : World} {mean : ExcName → Option Value} {mg mb : Str → Option Value} {l z : Led} {tour dt pl fd st ds sp : Addr} {sheet : Value} {htw0 htw1 htw2 htw3 htw4 htw5 : Int} {ktw0 ktw1 ktw2 ktw3 ktw4 ktw5 : Tok} {hst0 hst1 hst2 hst3 : Int} {kst0 kst1 kst2 kst3 : Tok} {row place ctm font size : Value} {parr farr : Array Value} {pn fn : Nat} {osp : Obj} {tkw : Tok} {ops : Value} {p : List Value} {x : Addr} (hs : ∀ p ∈ z, p ∈ l) (hA : Ap7 tour dt pl fd st ds sp) (O : Off [tour, dt, pl, fd, st, ds, sp] l) (hpz : parr.size ≤ 100) (hp0 : 0 < parr.size) (hp : PySem.W.kl_last parr.toList = some (p, .ref x)) :
    Fn w mean mg mb 606 30 [.ref tour, .str (Str.ofString "Q") tkw, ops] ([(tour, W.instObj 581 dt), (dt, W.dictOf [⟨htw0, .str (Str.ofString "sheet") ktw0, sheet⟩, ⟨htw1, .str (Str.ofString "state") ktw1, .ref st⟩, ⟨htw2, .str (Str.ofString "pile") ktw2, .ref pl⟩, ⟨htw3, .str (Str.ofString "row") ktw3, row⟩, ⟨htw4, .str (Str.ofString "place") ktw4, place⟩, ⟨htw5, .str (Str.ofString "found") ktw5, .ref fd⟩] 6), (pl, W.listOf parr pn), (fd, W.listOf farr fn), (st, W.instObj 497 ds), (ds, W.dictOf [⟨hst0, .str (Str.ofString "ctm") kst0, ctm⟩, ⟨hst1, .str (Str.ofString "font") kst1, font⟩, ⟨hst2, .str (Str.ofString "size") kst2, size⟩, ⟨hst3, .str (Str.ofString "spacing") kst3, .ref sp⟩] 4), (sp, osp)] ++ l)
      (fun r l' => ∃ pn', r = .none ∧ l' = [(tour, W.instObj 581 dt), (dt, W.dictOf [⟨htw0, .str (Str.ofString "sheet") ktw0, sheet⟩, ⟨htw1, .str (Str.ofString "state") ktw1, .ref x⟩, ⟨htw2, .str (Str.ofString "pile") ktw2, .ref pl⟩, ⟨htw3, .str (Str.ofString "row") ktw3, row⟩, ⟨htw4, .str (Str.ofString "place") ktw4, place⟩, ⟨htw5, .str (Str.ofString "found") ktw5, .ref fd⟩] 6), (pl, W.listOf p.toArray pn'), (fd, W.listOf farr fn)] ++ l) := by
  unfold Fn
  k_fill
  intro dp un gd cn cs aa ccd cl outer A₀ base h₀ L m s Q E B F X N T hk hdd hu hret
  simp only [List.cons_append, List.nil_append] at N
  have hA9 := hA
  obtain ⟨n1, n2, n3, n4, n5, n6, n7, n8, n9, n10, n11, n12, n13, n14, n15, n16, n17, n18, n19, n20, n21⟩ := hA9
  kqd_sub
  · exfalso
    omega
  exact hret _ _ _ _ (by k_asm) (News.sub (by k_asm) drop7) ⟨_, rfl, rfl⟩
theorem fs_Q_bad {w : World} {mean : ExcName → Option Value} {mg mb : Str → Option Value} {l z : Led} {tour dt pl fd st ds sp : Addr} {sheet : Value} {htw0 htw1 htw2 htw3 htw4 htw5 : Int} {ktw0 ktw1 ktw2 ktw3 ktw4 ktw5 : Tok} {hst0 hst1 hst2 hst3 : Int} {kst0 kst1 kst2 kst3 : Tok} {row place ctm font size : Value} {parr farr : Array Value} {pn fn : Nat} {osp : Obj} {tkw : Tok} {ops : Value} (hs : ∀ p ∈ z, p ∈ l) (hp0 : parr.size = 0) :
    Th w mean mg mb 606 30 [.ref tour, .str (Str.ofString "Q") tkw, ops] ([(tour, W.instObj 581 dt), (dt, W.dictOf [⟨htw0, .str (Str.ofString "sheet") ktw0, sheet⟩, ⟨htw1, .str (Str.ofString "state") ktw1, .ref st⟩, ⟨htw2, .str (Str.ofString "pile") ktw2, .ref pl⟩, ⟨htw3, .str (Str.ofString "row") ktw3, row⟩, ⟨htw4, .str (Str.ofString "place") ktw4, place⟩, ⟨htw5, .str (Str.ofString "found") ktw5, .ref fd⟩] 6), (pl, W.listOf parr pn), (fd, W.listOf farr fn), (st, W.instObj 497 ds), (ds, W.dictOf [⟨hst0, .str (Str.ofString "ctm") kst0, ctm⟩, ⟨hst1, .str (Str.ofString "font") kst1, font⟩, ⟨hst2, .str (Str.ofString "size") kst2, size⟩, ⟨hst3, .str (Str.ofString "spacing") kst3, .ref sp⟩] 4), (sp, osp)] ++ l) z 59 := by
  unfold Th
  k_fill
  intro dp un gd cn cs aa ccd cl outer A₀ base h₀ L m s Q E B F X N T hk hdd hu hthr
  simp only [List.cons_append, List.nil_append] at N
  kqd_sub
  refine Stop.in ?_
  refine raise_fault (C := 59) (by k_asm) (by k_asm) (topRead_of (by k_asm)) (by k_is) fault59 rfl ?_ (by rfl) (by rfl)
  k_steps
  refine' Fn.use (fault_ok fault59) ?B ?F ?X ?N ?T ?kK ?kd ?ku ?_
  kaf_pre
  kqd_all
  · exact fun h2 R2 U2 => hthr _ _ _ _ _ _ (by with_reducible assumption) U2 (RaisedS.sub R2 (by kpt_turns))
  · exfalso
    omega
end
local macro_rules | `(tactic| walk_at "pad") => `(tactic| skip)
local macro_rules | `(tactic| walk_at "pad") => `(tactic| skip)
local macro_rules | `(tactic| walk_at "pad") => `(tactic| skip)
local macro_rules | `(tactic| walk_at "pad") => `(tactic| skip)
section
local macro_rules | `(tactic| walk_at "call ref") => `(tactic| (k_here; (with_reducible show wpAny _ _ (call (Value.ref _) _) _ _ _); (refine Stop.out ?_; walk_say "STOP")))
local macro_rules | `(tactic| walk_at "call ref") => `(tactic| (k_here; (with_reducible show wpAny _ _ (call (Value.ref 375) _) _ _ _); k_dflt ((refine' Fn.useM (M := [_, _, _, _, _, _, _]) ?N ?hs (from_array_ok (sub_on ?hs) ?hl ?h1 ?h2 ?h3 ?h4 ?h5 ?h6) ?B ?F ?X ?T ?kK ?kd ?ku ?O ?_); (case N => k_asm); (case hs => with_reducible assumption); kaf_suf; (case hl => k_mem); (case h1 => kwd_rel); (case h2 => kwd_rel); (case h3 => kwd_rel); (case h4 => kwd_rel); (case h5 => kwd_rel); (case h6 => kwd_rel); rintro r' l' z' h' tk' F' N' G' hz' hl' O' D'; (have hG' := Grow.of G')); (try simp only [List.cons_append, List.nil_append, List.map_cons, List.map_nil] at N' O'); (obtain ⟨x', er'⟩ := IsM.isRef D'); subst er'; (try dsimp only); (try k_fold)))
local macro_rules | `(tactic| walk_at "call ref") => `(tactic| (k_here; (with_reducible show wpAny _ _ (call (Value.ref 319) _) _ _ _); k_dflt ((refine' Fn.useM (M := [_, _, _, _, _, _, _]) ?N ?hs (mtimes_ok (sub_on ?hs) ?h1 ?h2 ?h3) ?B ?F ?X ?T ?kK ?kd ?ku ?O ?_); (case N => k_asm); (case hs => with_reducible assumption); kaf_suf; (case h1 => kfm_turns); (case h2 => kfm_turns); (case h3 => omega); rintro r' l' z' h' tk' F' N' G' hz' hl' O' D'; (have hG' := Grow.of G')); (try simp only [List.cons_append, List.nil_append, List.map_cons, List.map_nil] at N' O'); (obtain ⟨x', er'⟩ := IsM.isRef D'); subst er'; (try dsimp only); (try k_fold)))
local macro_rules | `(tactic| walk_at "call ref") => `(tactic| (k_here; (with_reducible show wpAny _ _ (call (Value.ref 361) _) _ _ _); k_dflt ((refine' Fn.useM (M := [_, _, _, _, _, _, _]) ?N ?hs (identity_ok (n := 2) (sub_on ?hs)) ?B ?F ?X ?T ?kK ?kd ?ku ?O ?_); (case N => k_asm); (case hs => with_reducible assumption); kaf_suf; skip; rintro r' l' z' h' tk' F' N' G' hz' hl' O' D'; (have hG' := Grow.of G')); (try simp only [List.cons_append, List.nil_append, List.map_cons, List.map_nil] at N' O'); (obtain ⟨x', er'⟩ := IsM.isRef D'); subst er'; (try dsimp only); (try k_fold)))
local macro_rules | `(tactic| walk_at "call ref") => `(tactic| (k_here; (with_reducible show wpAny _ _ (call (Value.ref 578) _) _ _ _); k_dflt ((refine' Fn.useT (M := [_, _, _, _, _, _, _]) ?N ?hs ?O (set_matrix_ok ?hs ?hA ?O) ?B ?F ?X ?T ?kK ?kd ?ku ?_); (case N => k_asm); (case hs => with_reducible assumption); (case O => with_reducible assumption); (case hA => with_reducible assumption); kt_ors; skip; rintro r' M' l' z' h' tk' F' N' G' hz' hl' O' D'; (have hG' := Grow.of G')); (obtain ⟨e1', e2'⟩ := D'); subst e1'; subst e2'; (try simp only [List.cons_append, List.nil_append, List.map_cons, List.map_nil] at N' O'); (try dsimp only); (try k_fold)))
theorem fs_cm {w : World} {mean : ExcName → Option Value} {mg mb : Str → Option Value} {l z : Led} {tour dt pl fd st ds sp : Addr} {sheet : Value} {htw0 htw1 htw2 htw3 htw4 htw5 : Int} {ktw0 ktw1 ktw2 ktw3 ktw4 ktw5 : Tok} {hst0 hst1 hst2 hst3 : Int} {kst0 kst1 kst2 kst3 : Tok} {row place ctm font size : Value} {parr farr : Array Value} {pn fn : Nat} {osp : Obj} {tkw : Tok} {ol : Addr} {arr : Array Value} {e : Nat} {n : Nat} (hs : ∀ p ∈ z, p ∈ l) (hA : Ap7 tour dt pl fd st ds sp) (O : Off [tour, dt, pl, fd, st, ds, sp] l) (hc : IsM z ctm n) (hn : n ≤ 1800) (hol : (ol, W.listOf arr e) ∈ z) (hops : OpsAt z arr.toList [.n, .n, .n, .n, .n, .n]) :
    Fn w mean mg mb 606 40 [.ref tour, .str (Str.ofString "cm") tkw, .ref ol] ([(tour, W.instObj 581 dt), (dt, W.dictOf [⟨htw0, .str (Str.ofString "sheet") ktw0, sheet⟩, ⟨htw1, .str (Str.ofString "state") ktw1, .ref st⟩, ⟨htw2, .str (Str.ofString "pile") ktw2, .ref pl⟩, ⟨htw3, .str (Str.ofString "row") ktw3, row⟩, ⟨htw4, .str (Str.ofString "place") ktw4, place⟩, ⟨htw5, .str (Str.ofString "found") ktw5, .ref fd⟩] 6), (pl, W.listOf parr pn), (fd, W.listOf farr fn), (st, W.instObj 497 ds), (ds, W.dictOf [⟨hst0, .str (Str.ofString "ctm") kst0, ctm⟩, ⟨hst1, .str (Str.ofString "font") kst1, font⟩, ⟨hst2, .str (Str.ofString "size") kst2, size⟩, ⟨hst3, .str (Str.ofString "spacing") kst3, .ref sp⟩] 4), (sp, osp)] ++ l)
      (TP [tour, dt, pl, fd, st, ds, sp] l z (fun M' z' r => r = .none ∧ ∃ ctm', M' = [(tour, W.instObj 581 dt), (dt, W.dictOf [⟨htw0, .str (Str.ofString "sheet") ktw0, sheet⟩, ⟨htw1, .str (Str.ofString "state") ktw1, .ref st⟩, ⟨htw2, .str (Str.ofString "pile") ktw2, .ref pl⟩, ⟨htw3, .str (Str.ofString "row") ktw3, row⟩, ⟨htw4, .str (Str.ofString "place") ktw4, place⟩, ⟨htw5, .str (Str.ofString "found") ktw5, .ref fd⟩] 6), (pl, W.listOf parr pn), (fd, W.listOf farr fn), (st, W.instObj 497 ds), (ds, W.dictOf [⟨hst0, .str (Str.ofString "ctm") kst0, ctm'⟩, ⟨hst1, .str (Str.ofString "font") kst1, font⟩, ⟨hst2, .str (Str.ofString "size") kst2, size⟩, ⟨hst3, .str (Str.ofString "spacing") kst3, .ref sp⟩] 4), (sp, osp)] ∧ IsM z' ctm' (n + 4))) := by
  unfold Fn
  k_fill
  intro dp un gd cn cs aa ccd cl outer A₀ base h₀ L m s Q E B F X N T hk hdd hu hret
  simp only [List.cons_append, List.nil_append] at N
  have hA9 := hA
  obtain ⟨n1, n2, n3, n4, n5, n6, n7, n8, n9, n10, n11, n12, n13, n14, n15, n16, n17, n18, n19, n20, n21⟩ := hA9
  obtain ⟨v1, v2, v3, v4, v5, v6, rfl, q1, q2, q3, q4, q5, q6⟩ := hops.six_of
  have i1 := q1.num_of
  have i2 := q2.num_of
  have i3 := q3.num_of
  have i4 := q4.num_of
  have i5 := q5.num_of
  have i6 := q6.num_of
  obtain ⟨ac, rfl⟩ := hc.isRef
  have holl := hs _ hol
  kqd_sub
  exact hret _ _ _ _ (by k_asm) (by k_asm) ⟨_, _, _, app7, by ktu_off1L, by with_reducible assumption, rfl, _, rfl, by kfm_turns⟩
theorem fs_BT {w : World} {mean : ExcName → Option Value} {mg mb : Str → Option Value} {l z : Led} {tour dt pl fd st ds sp : Addr} {sheet : Value} {htw0 htw1 htw2 htw3 htw4 htw5 : Int} {ktw0 ktw1 ktw2 ktw3 ktw4 ktw5 : Tok} {hst0 hst1 hst2 hst3 : Int} {kst0 kst1 kst2 kst3 : Tok} {row place ctm font size : Value} {parr farr : Array Value} {pn fn : Nat} {osp : Obj} {tkw : Tok} {ops : Value} (hs : ∀ p ∈ z, p ∈ l) (hA : Ap7 tour dt pl fd st ds sp) (O : Off [tour, dt, pl, fd, st, ds, sp] l) :
    Fn w mean mg mb 606 40 [.ref tour, .str (Str.ofString "BT") tkw, ops] ([(tour, W.instObj 581 dt), (dt, W.dictOf [⟨htw0, .str (Str.ofString "sheet") ktw0, sheet⟩, ⟨htw1, .str (Str.ofString "state") ktw1, .ref st⟩, ⟨htw2, .str (Str.ofString "pile") ktw2, .ref pl⟩, ⟨htw3, .str (Str.ofString "row") ktw3, row⟩, ⟨htw4, .str (Str.ofString "place") ktw4, .none⟩, ⟨htw5, .str (Str.ofString "found") ktw5, .ref fd⟩] 6), (pl, W.listOf parr pn), (fd, W.listOf farr fn), (st, W.instObj 497 ds), (ds, W.dictOf [⟨hst0, .str (Str.ofString "ctm") kst0, ctm⟩, ⟨hst1, .str (Str.ofString "font") kst1, font⟩, ⟨hst2, .str (Str.ofString "size") kst2, size⟩, ⟨hst3, .str (Str.ofString "spacing") kst3, .ref sp⟩] 4), (sp, osp)] ++ l)
      (TP [tour, dt, pl, fd, st, ds, sp] l z (fun M' z' r => r = .none ∧ ∃ row', M' = [(tour, W.instObj 581 dt), (dt, W.dictOf [⟨htw0, .str (Str.ofString "sheet") ktw0, sheet⟩, ⟨htw1, .str (Str.ofString "state") ktw1, .ref st⟩, ⟨htw2, .str (Str.ofString "pile") ktw2, .ref pl⟩, ⟨htw3, .str (Str.ofString "row") ktw3, row'⟩, ⟨htw4, .str (Str.ofString "place") ktw4, row'⟩, ⟨htw5, .str (Str.ofString "found") ktw5, .ref fd⟩] 6), (pl, W.listOf parr pn), (fd, W.listOf farr fn), (st, W.instObj 497 ds), (ds, W.dictOf [⟨hst0, .str (Str.ofString "ctm") kst0, ctm⟩, ⟨hst1, .str (Str.ofString "font") kst1, font⟩, ⟨hst2, .str (Str.ofString "size") kst2, size⟩, ⟨hst3, .str (Str.ofString "spacing") kst3, .ref sp⟩] 4), (sp, osp)] ∧ IsM z' row' 2)) := by
  unfold Fn
  k_fill
  intro dp un gd cn cs aa ccd cl outer A₀ base h₀ L m s Q E B F X N T hk hdd hu hret
  simp only [List.cons_append, List.nil_append] at N
  have hA9 := hA
  obtain ⟨n1, n2, n3, n4, n5, n6, n7, n8, n9, n10, n11, n12, n13, n14, n15, n16, n17, n18, n19, n20, n21⟩ := hA9
  kqd_sub
  exact hret _ _ _ _ (by k_asm) (by k_asm) ⟨_, _, _, app7, by ktu_off1L, by with_reducible assumption, rfl, _, rfl, by kfm_turns⟩
theorem fs_BT_bad {w : World} {mean : ExcName → Option Value} {mg mb : Str → Option Value} {l z : Led} {tour dt pl fd st ds sp : Addr} {sheet : Value} {htw0 htw1 htw2 htw3 htw4 htw5 : Int} {ktw0 ktw1 ktw2 ktw3 ktw4 ktw5 : Tok} {hst0 hst1 hst2 hst3 : Int} {kst0 kst1 kst2 kst3 : Tok} {row place ctm font size : Value} {parr farr : Array Value} {pn fn : Nat} {osp : Obj} {tkw : Tok} {ops : Value} {n : Nat} (hs : ∀ p ∈ z, p ∈ l) (hp : IsM z place n) :
    Th w mean mg mb 606 30 [.ref tour, .str (Str.ofString "BT") tkw, ops] ([(tour, W.instObj 581 dt), (dt, W.dictOf [⟨htw0, .str (Str.ofString "sheet") ktw0, sheet⟩, ⟨htw1, .str (Str.ofString "state") ktw1, .ref st⟩, ⟨htw2, .str (Str.ofString "pile") ktw2, .ref pl⟩, ⟨htw3, .str (Str.ofString "row") ktw3, row⟩, ⟨htw4, .str (Str.ofString "place") ktw4, place⟩, ⟨htw5, .str (Str.ofString "found") ktw5, .ref fd⟩] 6), (pl, W.listOf parr pn), (fd, W.listOf farr fn), (st, W.instObj 497 ds), (ds, W.dictOf [⟨hst0, .str (Str.ofString "ctm") kst0, ctm⟩, ⟨hst1, .str (Str.ofString "font") kst1, font⟩, ⟨hst2, .str (Str.ofString "size") kst2, size⟩, ⟨hst3, .str (Str.ofString "spacing") kst3, .ref sp⟩] 4), (sp, osp)] ++ l) z 59 := by
  unfold Th
  k_fill
  intro dp un gd cn cs aa ccd cl outer A₀ base h₀ L m s Q E B F X N T hk hdd hu hthr
  simp only [List.cons_append, List.nil_append] at N
  obtain ⟨ap, rfl⟩ := hp.isRef
  kqd_sub
  refine Stop.in ?_
  refine raise_fault (C := 59) (by k_asm) (by k_asm) (topRead_of (by k_asm)) (by k_is) fault59 rfl ?_ (by rfl) (by rfl)
  k_steps
  refine' Fn.use (fault_ok fault59) ?B ?F ?X ?N ?T ?kK ?kd ?ku ?_
  kaf_pre
  kqd_all
  exact fun h2 R2 U2 => hthr _ _ _ _ _ _ (by with_reducible assumption) U2 (RaisedS.sub R2 (by kpt_turns))
theorem fs_Tr {w : World} {mean : ExcName → Option Value} {mg mb : Str → Option Value} {l : Led} {tour : Addr} {tkw : Tok} {ops : Value} :
    Fn w mean mg mb 606 4 [.ref tour, .str (Str.ofString "Tr") tkw, ops] l (fun r l' => r = .none ∧ l' = l) := by
  unfold Fn
  k_fill
  intro dp un gd cn cs aa ccd cl outer A₀ base h₀ L m s Q E B F X N T hk hdd hu hret
  kqd_sub
  exact hret _ _ _ _ (by k_asm) (by k_asm) ⟨rfl, rfl⟩
theorem fs_re {w : World} {mean : ExcName → Option Value} {mg mb : Str → Option Value} {l : Led} {tour : Addr} {tkw : Tok} {ops : Value} :
    Fn w mean mg mb 606 4 [.ref tour, .str (Str.ofString "re") tkw, ops] l (fun r l' => r = .none ∧ l' = l) := by
  unfold Fn
  k_fill
  intro dp un gd cn cs aa ccd cl outer A₀ base h₀ L m s Q E B F X N T hk hdd hu hret
  kqd_sub
  exact hret _ _ _ _ (by k_asm) (by k_asm) ⟨rfl, rfl⟩
theorem fs_Do {w : World} {mean : ExcName → Option Value} {mg mb : Str → Option Value} {l : Led} {tour : Addr} {tkw : Tok} {ops : Value} :
    Fn w mean mg mb 606 4 [.ref tour, .str (Str.ofString "Do") tkw, ops] l (fun r l' => r = .none ∧ l' = l) := by
  unfold Fn
  k_fill
  intro dp un gd cn cs aa ccd cl outer A₀ base h₀ L m s Q E B F X N T hk hdd hu hret
  kqd_sub
  exact hret _ _ _ _ (by k_asm) (by k_asm) ⟨rfl, rfl⟩
end
local macro_rules | `(tactic| walk_at "pad") => `(tactic| skip)
local macro_rules | `(tactic| walk_at "pad") => `(tactic| skip)
local macro_rules | `(tactic| walk_at "pad") => `(tactic| skip)
local macro_rules | `(tactic| walk_at "pad") => `(tactic| skip)
local macro_rules | `(tactic| walk_at "pad") => `(tactic| skip)
local macro_rules | `(tactic| walk_at "pad") => `(tactic| skip)

/-- the words that the law draws -/
inductive Wd | Tj | BT | ET | Tf | q | Q | ap | qu | TJ | Ts | Td | TD | Tm | Tc | Tr | cm | Do | re
  deriving DecidableEq
def Wd.str : Wd → Str
  | .Tj => Str.ofString "Tj" | .BT => Str.ofString "BT" | .ET => Str.ofString "ET" | .Tf => Str.ofString "Tf" | .q => Str.ofString "q" | .Q => Str.ofString "Q" | .ap => Str.ofString "'" | .qu => Str.ofString "\"" | .TJ => Str.ofString "TJ"
  | .Ts => Str.ofString "T*" | .Td => Str.ofString "Td" | .TD => Str.ofString "TD" | .Tm => Str.ofString "Tm" | .Tc => Str.ofString "Tc" | .Tr => Str.ofString "Tr" | .cm => Str.ofString "cm" | .Do => Str.ofString "Do" | .re => Str.ofString "re"
def Wd.kinds : Wd → Option (List Tag)
  | .Tj => some [.s] | .BT => some [] | .ET => some [] | .Tf => some [.m, .n] | .ap => some [.s] | .qu => some [.n, .n, .s] | .TJ => some [.a] | .Ts => some [] | .Td => some [.n, .n] | .TD => some [.n, .n]
  | .Tm => some [.n, .n, .n, .n, .n, .n] | .Tc => some [.n] | .Tr => some [.n] | .cm => some [.n, .n, .n, .n, .n, .n] | .Do => some [.m] | .q => none | .Q => none | .re => none
def Wd.tags (w : Wd) : List Tag := w.kinds.getD []
def Wd.all : List Wd := [.Tj, .BT, .ET, .Tf, .q, .Q, .ap, .qu, .TJ, .Ts, .Td, .TD, .Tm, .Tc, .Tr, .cm, .Do, .re]
def Tag.code : Tag → Nat | .n => 110 | .m => 109 | .s => 115 | .a => 97 | .t => 116 | .x => 120
def tagStr (tgs : List Tag) : Str := ⟨(tgs.map Tag.code).toArray⟩
theorem Tag.code_inj : ∀ {a b : Tag}, a.code = b.code → a = b := by intro a b h; cases a <;> cases b <;> first | rfl | (exact absurd h (by decide))
theorem tagStr_inj {a b : List Tag} (h : tagStr a = tagStr b) : a = b := by
  unfold tagStr at h
  have h2 : a.map Tag.code = b.map Tag.code := by
    have := congrArg (fun x : Str => x.cps.toList) h
    simpa using this
  induction a generalizing b with
  | nil => cases b with
    | nil => rfl
    | cons y b => cases h2
  | cons x a ih => cases b with
    | nil => cases h2
    | cons y b =>
      simp only [List.map_cons, List.cons.injEq] at h2
      rw [Tag.code_inj h2.1, ih (b := b) (by rw [h2.2]) h2.2]
section
local macro_rules | `(tactic| walk_at "call ref") => `(tactic| (k_here; (with_reducible show wpAny _ _ (call (Value.ref _) _) _ _ _); (refine Stop.out ?_; walk_say "STOP")))
local macro_rules | `(tactic| walk_at "eval Dict") => `(tactic| (k_here; k_dflt (refine' kdn_str ?q ?F ?N ?b ?a ?l ?e ?n ?_; (case q => rfl); (case F => k_asm); (case N => k_asm); (case b => exact Top.nolimit (by k_asm)); (case a => rfl); (case l => rfl); (case e => exact List.cons_ne_nil _ _); (case n => exact Nat.le_of_ble_eq_true rfl)); intro d' h' o' F' N' l1 lo' hd'; (try k_lt l1)))
theorem law_kinds_ok {w : World} {mean : ExcName → Option Value} {mg mb : Str → Option Value} {l : Led} :
    Fn w mean mg mb 765 3 [] l (fun r l' => ∃ d o D, r = .ref d ∧ l' = (d, o) :: l ∧ (d == sysModules) = false ∧ (∀ p ∈ l, p.1 < d) ∧ o.IsDictOf (PySem.strKind PySem.Challenge.rw_og0194_01.row.prog w) D ∧
      ∀ wd : Wd, ∃ t, valueAt D wd.str = wd.kinds.map fun tgs => .str (tagStr tgs) t) := by
  unfold Fn
  k_fill
  intro dp un gd cn cs aa ccd cl outer A₀ base h₀ L m s Q E B F X N T hk hdd hu hret
  kqd_sub
  exact hret _ _ _ _ (by k_asm) (by k_asm) ⟨_, _, _, rfl, rfl, by with_reducible assumption, by with_reducible assumption, by with_reducible assumption, fun wd => by cases wd <;> first | exact ⟨_, rfl⟩ | exact ⟨0, rfl⟩⟩
end
local macro_rules | `(tactic| walk_at "pad") => `(tactic| skip)
local macro_rules | `(tactic| walk_at "pad") => `(tactic| skip)
local macro_rules | `(tactic| walk_at "pad") => `(tactic| skip)

theorem IsStr.isRef {z : Led} {v : Value} {k : Nat} (h : IsStr z v k) : ∃ x, v = .ref x := by cases h; exact ⟨_, rfl⟩
theorem IsName.isRef {z : Led} {v : Value} {b : Bool} (h : IsName z v b) : ∃ x, v = .ref x := by cases h; exact ⟨_, rfl⟩
theorem dec_small {a p : Int} (h1 : a.natAbs ≤ 9) (h2 : 0 ≤ p) : a.natAbs ≤ 10 ^ (1 + p.toNat) :=
  Nat.le_trans h1 (Nat.le_trans (by decide : 9 ≤ 10 ^ 1) (Nat.pow_le_pow_right (by decide) (Nat.le_add_right _ _)))
theorem newLst_M {prog : Program} {w : World} {A : Around} {E : Value → Shared → Prop} {s : Shared} {h₀ : Heap} {L : Addr} {m : Str → Option Value} {M l z : Led} {vs : List Value} {Q : Value → Shared → Prop} (F : Fr h₀ L s.heap m) (N : News h₀ L s.heap (M ++ l)) (hs : ∀ p ∈ z, p ∈ l) (O : Off (M.map (·.1)) l) (hz : vs.length ≤ sizeLine)
    (h : ∀ D l₂ z₂ h', Fr h₀ L h' m → News h₀ L h' (M ++ l₂) → Ex l z l₂ z₂ → (∀ p ∈ z, p ∈ z₂) → (∀ p ∈ z₂, p ∈ l₂) → Off (M.map (·.1)) l₂ → (D, W.listOf vs.toArray 0) ∈ z₂ → Q (.ref D) { s with heap := h' }) :
    wpAny (model prog w) A (newList vs) Q E s := by
  refine newList_K F N (fun D h' F' N' lt => ?_) hz
  have l1 : ∀ p ∈ l, p.1 < D := fun p hp => lt p (List.mem_append_right _ hp)
  have G : Ex l z ((D, W.listOf vs.toArray 0) :: l) ((D, W.listOf vs.toArray 0) :: z) := Ex.one Ex.refl l1
  refine h D _ _ h' F' (News.sub N' fun p hp => ?_) G G.zz (G.zl hs) (fun p hp e => ?_) (.head _)
  · rcases List.mem_append.mp hp with hp | hp
    · exact .tail _ (List.mem_append_left _ hp)
    · rcases List.mem_cons.mp hp with rfl | hp
      · exact .head _
      · exact .tail _ (List.mem_append_right _ hp)
  · rcases List.mem_cons.mp hp with rfl | hp
    · obtain ⟨q, hq, e⟩ := List.mem_map.mp e
      exact absurd e (Nat.ne_of_lt (lt q (List.mem_append_left _ hq)))
    · exact O p hp e
theorem item_tupAny {prog : Program} {w : World} {A : Around} {E : Value → Shared → Prop} {s : Shared} {value slice : PySem.Expr} {l : Addr} {vs : List Value} {k : Int} {u : Tok} {Q : Value → Shared → Prop}
    (hl : s.heap.IsTuple l vs.toArray) (h0 : 0 ≤ k) (hlt : k < vs.length) (hsz : vs.length ≤ 100) (h : ∀ v ∈ vs, Q v s)
    (hs : subscripted slice false (.ref l) (.int k u) = operate [.ref l, .int k u] (getItem (.ref l) (.int k u)) := by with_unfolding_all rfl) :
    wpAny (model prog w) A (subscriptTail value slice (.ref l) (.int k u)) Q E s := by
  have hk : k.toNat < vs.length := by omega
  exact item_tup (v := vs[k.toNat]) hl h0 (by omega) (by simp [hk]) (h _ (List.getElem_mem hk)) hs
theorem item_lstAny {prog : Program} {w : World} {A : Around} {E : Value → Shared → Prop} {s : Shared} {value slice : PySem.Expr} {l : Addr} {vs : List Value} {k : Int} {u : Tok} {Q : Value → Shared → Prop}
    (hl : s.heap.IsList l vs.toArray) (h0 : 0 ≤ k) (hlt : k < vs.length) (hsz : vs.length ≤ 100) (h : ∀ v ∈ vs, Q v s)
    (hs : subscripted slice false (.ref l) (.int k u) = operate [.ref l, .int k u] (getItem (.ref l) (.int k u)) := by with_unfolding_all rfl) :
    wpAny (model prog w) A (subscriptTail value slice (.ref l) (.int k u)) Q E s := by
  have hk : k.toNat < vs.length := by omega
  exact item_arr (v := vs[k.toNat]) hl h0 (by omega) (by simp [hk]) (h _ (List.getElem_mem hk)) hs
/-- the tape's cells, frozen -/
def TapeOk (z : Led) (cells : Addr) : Prop := ∃ (vs : List Value) (ns : List Int) (e : Nat), IntsAre vs ns ∧ (cells, W.listOf vs.toArray e) ∈ z ∧ 0 < (ns.length : Int) ∧ ns.length ≤ 60
theorem TapeOk.mono {z z' : Led} {cells : Addr} (h : TapeOk z cells) (s : ∀ p ∈ z, p ∈ z') : TapeOk z' cells := by
  obtain ⟨vs, ns, e, a, b, c, d⟩ := h
  exact ⟨vs, ns, e, a, s _ b, c, d⟩
abbrev tapeO (cells : Addr) (i : Int) (t : Tok) (e : Nat) : Obj := W.listOf #[.ref cells, .int i t] e
theorem drawT_ok {w : World} {mean : ExcName → Option Value} {mg mb : Str → Option Value} {l z : Led} {tape cells : Addr} {e1 : Nat} {i : Int} {t1 : Tok} {lim : Int} {tl : Tok} (hs : ∀ p ∈ z, p ∈ l) (O : Off [tape] l) (hT : TapeOk z cells) (h0 : 0 ≤ i) (h1 : i < 1000) (h2 : 0 < lim) (h3 : lim < 100) :
    Fn w mean mg mb 773 3 [.ref tape, .int lim tl] ([(tape, tapeO cells i t1 e1)] ++ l) (TP [tape] l z fun M' z' r => ∃ t r' tr, r = .int r' tr ∧ 0 ≤ r' ∧ r' < lim ∧ M' = [(tape, tapeO cells (i + 1) t e1)]) := by
  obtain ⟨vs, ns, e, a, b, c, d⟩ := hT
  exact (draw_ok (O.ne (.head _)) a (hs _ b) h0 h1 c d h2 h3).post fun r l' ⟨t, r', tr, q1, q2, q3, q4⟩ => ⟨_, _, _, q4, Ex.refl, O, _, _, _, q1, q2, q3, rfl⟩
section
local macro_rules | `(tactic| walk_at "call ref") => `(tactic| (k_here; (with_reducible show wpAny _ _ (call (Value.ref _) _) _ _ _); (refine Stop.out ?_; walk_say "STOP")))
theorem strNew_ok {w : World} {mean : ExcName → Option Value} {mg mb : Str → Option Value} {l z : Led} {b : Array UInt8} {t : Tok} (hs : ∀ p ∈ z, p ∈ l) (hb : b.size ≤ 2) :
    Fn w mean mg mb 231 4 [.bytes b t] l (fun r l' => ∃ z', Ex l z l' z' ∧ IsStr z' r b.size) := by
  unfold Fn
  k_fill
  intro dp un gd cn cs aa ccd cl outer A₀ base h₀ L m s Q E B F X N T hk hdd hu hret
  k_dflt (refine' call_cls ?k1 ?k2 ?k3 ?k4 ?k5 ?k6 ?_; (case k1 => k_asm); (case k2 => k_asm); (case k3 => k_asm); (case k4 => k_is); (case k5 => k_is); (case k6 => k_is))
  intro x' d' h' F' N' l1 l2
  (have o' := Off.cls l1 l2); (try k_lt l1); (try k_lt2 l2); (try k_sweep)
  (refine' code_def (binds := [(Str.ofString "self", Value.ref x'), (Str.ofString "octets", Value.bytes b t), (Str.ofString "is_hex", Value.bool false)]) ?k1 ?k2 ?k3 ?k4 ?k5 ?kA ?kF ?kK ?k6 ?k7 ?k8 ?k9 ?kB ?_ ?c2 ?c3 ?c4 ?c5; (case kA => exact rfl); (case kF => exact rfl); (case kK => assumption); (case k1 => k_asm); (case k2 => k_asm); (case k3 => k_asm); (case k4 => k_asm); (case k5 => k_asm); (case k6 => k_is); (case k7 => k_is); (case k8 => ktr_room); (case k9 => exact binds_K (by k_in) rfl (by k_is) rfl rfl (by kernel_rfl)); (case c5 => decide); (case kB => exact locs rfl); (case c2 => exact rfl); (case c3 => exact rfl); (case c4 => exact rfl); k_whole; intro g' L' h' FG' F' N' B' X' T'; (try dsimp only); (try k_fold))
  k_steps
  exact hret _ _ _ _ (by k_asm) (by k_asm) ⟨_, Ex.cls (z := z) Ex.refl (by assumption) (by assumption), .mk (.head _) (.tail _ (.head _)) hb⟩
theorem nameNew_ok {w : World} {mean : ExcName → Option Value} {mg mb : Str → Option Value} {l z : Led} {b : Bool} {t : Tok} (hs : ∀ p ∈ z, p ∈ l) :
    Fn w mean mg mb 209 4 [.str (if b then Str.ofString "A" else Str.ofString "B") t] l (fun r l' => ∃ z', Ex l z l' z' ∧ IsName z' r b) := by
  unfold Fn
  k_fill
  intro dp un gd cn cs aa ccd cl outer A₀ base h₀ L m s Q E B F X N T hk hdd hu hret
  kba_ints
  exact hret _ _ _ _ (by k_asm) (by k_asm) ⟨_, Ex.cls (z := z) Ex.refl (by assumption) (by assumption), .mk (.head _) (.tail _ (.head _))⟩
end
local macro_rules | `(tactic| walk_at "pad") => `(tactic| skip)
local macro_rules | `(tactic| walk_at "pad") => `(tactic| skip)
local macro_rules | `(tactic| kbt_words) => `(tactic| (refine' TapeOk.mono ?h9 ?s9; (case h9 => with_reducible assumption); (case s9 => kt_eqs)))
section
local macro_rules | `(tactic| walk_at "call ref") => `(tactic| (k_here; (with_reducible show wpAny _ _ (call (Value.ref _) _) _ _ _); (refine Stop.out ?_; walk_say "STOP")))
local macro_rules | `(tactic| walk_at "call ref") => `(tactic| (k_here; (with_reducible show wpAny _ _ (call (Value.ref 167) _) _ _ _); k_dflt ((refine' Fn.useM (M := [_]) ?N ?hs (decNew_ok (n := 1) (sub_on ?hs) ?h1 ?h2 ?h3) ?B ?F ?X ?T ?kK ?kd ?ku ?O ?_); (case N => k_asm); (case hs => with_reducible assumption); kaf_suf; (case h1 => omega); (case h2 => omega); (case h3 => exact dec_small (by omega) (by omega)); rintro r' l' z' h' tk' F' N' G' hz' hl' O' D'; (have hG' := Grow.of G')); (try simp only [List.cons_append, List.nil_append, List.map_cons, List.map_nil] at N' O'); (obtain ⟨x', er'⟩ := IsD.isRef D'); subst er'; (try dsimp only); (try k_fold)))
local macro_rules | `(tactic| walk_at "call ref") => `(tactic| (k_here; (with_reducible show wpAny _ _ (call (Value.ref 209) _) _ _ _); k_dflt ((refine' Fn.useM (M := [_]) ?N ?hs (nameNew_ok (sub_on ?hs)) ?B ?F ?X ?T ?kK ?kd ?ku ?O ?_); (case N => k_asm); (case hs => with_reducible assumption); kaf_suf; skip; rintro r' l' z' h' tk' F' N' G' hz' hl' O' D'; (have hG' := Grow.of G')); (try simp only [List.cons_append, List.nil_append, List.map_cons, List.map_nil] at N' O'); (obtain ⟨x', er'⟩ := IsName.isRef D'); subst er'; (try dsimp only); (try k_fold)))
local macro_rules | `(tactic| walk_at "call ref") => `(tactic| (k_here; (with_reducible show wpAny _ _ (call (Value.ref 231) _) _ _ _); k_dflt ((refine' Fn.useM (M := [_]) ?N ?hs (strNew_ok (sub_on ?hs) ?h1) ?B ?F ?X ?T ?kK ?kd ?ku ?O ?_); (case N => k_asm); (case hs => with_reducible assumption); kaf_suf; (case h1 => first | with_reducible assumption | decide); rintro r' l' z' h' tk' F' N' G' hz' hl' O' D'; (have hG' := Grow.of G')); (try simp only [List.cons_append, List.nil_append, List.map_cons, List.map_nil] at N' O'); (obtain ⟨x', er'⟩ := IsStr.isRef D'); subst er'; (try dsimp only); (try k_fold)))
local macro_rules | `(tactic| walk_at "call ref") => `(tactic| (k_here; (with_reducible show wpAny _ _ (call (Value.ref 773) _) _ _ _); k_dflt ((refine' Fn.useT (M := [_]) ?N ?hs ?O (drawT_ok ?hs ?O ?hT ?h0 ?h1 ?h2 ?h3) ?B ?F ?X ?T ?kK ?kd ?ku ?_); (case N => k_asm); (case hs => with_reducible assumption); (case O => with_reducible assumption);  kt_ors; (case hT => kbt_words); (case h0 => omega); (case h1 => omega); (case h2 => decide); (case h3 => decide); rintro r' M' l' z' h' tk' F' N' G' hz' hl' O' D'; (have hG' := Grow.of G')); (obtain ⟨t9', r9', tr9', er', hr0', hr1', em'⟩ := D'); subst er'; subst em'; (try simp only [List.cons_append, List.nil_append, List.map_cons, List.map_nil] at N' O'); (try dsimp only); (try k_fold)))
theorem operand_n {w : World} {mean : ExcName → Option Value} {mg mb : Str → Option Value} {l z : Led} {tape cells : Addr} {e1 : Nat} {i : Int} {t1 : Tok} {tl : Tok} (hs : ∀ p ∈ z, p ∈ l) (O : Off [tape] l) (hT : TapeOk z cells) (h0 : 0 ≤ i) (h1 : i < 900) :
    Fn w mean mg mb 780 8 [.str (Str.ofString "n") tl, .ref tape] ([(tape, tapeO cells i t1 e1)] ++ l) (TP [tape] l z fun M' z' r => ∃ i' t, M' = [(tape, tapeO cells i' t e1)] ∧ i ≤ i' ∧ i' ≤ i + 2 ∧ IsD z' r 1) := by
  unfold Fn
  k_fill
  intro dp un gd cn cs aa ccd cl outer A₀ base h₀ L m s Q E B F X N T hk hdd hu hret
  simp only [List.cons_append, List.nil_append] at N
  kqd_sub
  exact hret _ _ _ _ (by k_asm) (by k_asm) ⟨_, _, _, rfl, by ktu_off1L, by with_reducible assumption, _, _, rfl, by omega, by omega, by kwd_rel⟩
local macro_rules | `(tactic| walk_at "subscriptTail") => `(tactic| (k_here; refine Stop.out ?_; walk_say "STOP ITEM"))
local macro_rules | `(tactic| walk_at "newTuple") => `(tactic| (k_here; k_dflt (refine' newTup_M (M := [_]) ?F ?N ?hs ?O ?z ?_; (case F => k_asm); (case N => k_asm); (case hs => with_reducible assumption); (case O => (show Off [_] _); with_reducible assumption); (case z => exact Nat.le_of_ble_eq_true rfl)); intro D' l' z' h' F' N' G' hz' hl' O' hm'; (have hG' := Grow.of G'); (try simp only [List.cons_append, List.nil_append, List.map_cons, List.map_nil] at N' O')))
local macro_rules | `(tactic| walk_at "newList") => `(tactic| (k_here; k_dflt (refine' newLst_M (M := [_]) ?F ?N ?hs ?O ?z ?_; (case F => k_asm); (case N => k_asm); (case hs => with_reducible assumption); (case O => (show Off [_] _); with_reducible assumption); (case z => exact Nat.le_of_ble_eq_true rfl)); intro D' l' z' h' F' N' G' hz' hl' O' hm'; (have hG' := Grow.of G'); (try simp only [List.cons_append, List.nil_append, List.map_cons, List.map_nil] at N' O')))
theorem operand_m {w : World} {mean : ExcName → Option Value} {mg mb : Str → Option Value} {l z : Led} {tape cells : Addr} {e1 : Nat} {i : Int} {t1 : Tok} {tl : Tok} (hs : ∀ p ∈ z, p ∈ l) (O : Off [tape] l) (hT : TapeOk z cells) (h0 : 0 ≤ i) (h1 : i < 900) :
    Fn w mean mg mb 780 8 [.str (Str.ofString "m") tl, .ref tape] ([(tape, tapeO cells i t1 e1)] ++ l) (TP [tape] l z fun M' z' r => ∃ i' t, M' = [(tape, tapeO cells i' t e1)] ∧ i ≤ i' ∧ i' ≤ i + 2 ∧ ∃ b, IsName z' r b) := by
  unfold Fn
  k_fill
  intro dp un gd cn cs aa ccd cl outer A₀ base h₀ L m s Q E B F X N T hk hdd hu hret
  simp only [List.cons_append, List.nil_append] at N
  kqd_sub
  refine Stop.in ?_
  refine item_tupAny (tup_of (by k_asm) (by k_mem)) (by omega) (by simp only [List.length_cons, List.length_nil]; omega) (Nat.le_of_ble_eq_true rfl) fun v hv => ?_
  obtain ⟨b, t, rfl⟩ : ∃ (b : Bool) (t : Tok), v = .str (if b then Str.ofString "A" else Str.ofString "B") t := by
    simp only [List.mem_cons, List.not_mem_nil, or_false] at hv
    rcases hv with rfl | rfl | rfl | rfl
    · exact ⟨true, _, rfl⟩
    · exact ⟨true, _, rfl⟩
    · exact ⟨true, _, rfl⟩
    · exact ⟨false, _, rfl⟩
  k_steps
  exact hret _ _ _ _ (by k_asm) (by k_asm) ⟨_, _, _, rfl, by ktu_off1L, by with_reducible assumption, _, _, rfl, by omega, by omega, _, by with_reducible assumption⟩
theorem operand_s {w : World} {mean : ExcName → Option Value} {mg mb : Str → Option Value} {l z : Led} {tape cells : Addr} {e1 : Nat} {i : Int} {t1 : Tok} {tl : Tok} (hs : ∀ p ∈ z, p ∈ l) (O : Off [tape] l) (hT : TapeOk z cells) (h0 : 0 ≤ i) (h1 : i < 900) :
    Fn w mean mg mb 780 8 [.str (Str.ofString "s") tl, .ref tape] ([(tape, tapeO cells i t1 e1)] ++ l) (TP [tape] l z fun M' z' r => ∃ i' t, M' = [(tape, tapeO cells i' t e1)] ∧ i ≤ i' ∧ i' ≤ i + 2 ∧ ∃ k, IsStr z' r k) := by
  unfold Fn
  k_fill
  intro dp un gd cn cs aa ccd cl outer A₀ base h₀ L m s Q E B F X N T hk hdd hu hret
  simp only [List.cons_append, List.nil_append] at N
  kqd_sub
  refine Stop.in ?_
  refine item_tupAny (tup_of (by k_asm) (by k_mem)) (by omega) (by simp only [List.length_cons, List.length_nil]; omega) (Nat.le_of_ble_eq_true rfl) fun v hv => ?_
  obtain ⟨b, t, rfl, hb2⟩ : ∃ (b : Array UInt8) (t : Tok), v = .bytes b t ∧ b.size ≤ 2 := by
    simp only [List.mem_cons, List.not_mem_nil, or_false] at hv
    rcases hv with rfl | rfl | rfl <;> exact ⟨_, _, rfl, by decide⟩
  k_steps
  exact hret _ _ _ _ (by k_asm) (by k_asm) ⟨_, _, _, rfl, by ktu_off1L, by with_reducible assumption, _, _, rfl, by omega, by omega, _, by with_reducible assumption⟩
theorem operand_a {w : World} {mean : ExcName → Option Value} {mg mb : Str → Option Value} {l z : Led} {tape cells : Addr} {e1 : Nat} {i : Int} {t1 : Tok} {tl : Tok} (hs : ∀ p ∈ z, p ∈ l) (O : Off [tape] l) (hT : TapeOk z cells) (h0 : 0 ≤ i) (h1 : i < 900) :
    Fn w mean mg mb 780 8 [.str (Str.ofString "a") tl, .ref tape] ([(tape, tapeO cells i t1 e1)] ++ l) (TP [tape] l z fun M' z' r => ∃ i' t, M' = [(tape, tapeO cells i' t e1)] ∧ i ≤ i' ∧ i' ≤ i + 2 ∧ ∃ ps, Opd z' (.a ps) r) := by
  unfold Fn
  k_fill
  intro dp un gd cn cs aa ccd cl outer A₀ base h₀ L m s Q E B F X N T hk hdd hu hret
  simp only [List.cons_append, List.nil_append] at N
  kqd_sub
  refine Stop.in ?_
  refine item_lstAny (News.isArr (by k_asm) (by k_mem)) (by omega) (by simp only [List.length_cons, List.length_nil]; omega) (Nat.le_of_ble_eq_true rfl) fun v hv => ?_
  rename Led => z9
  have hops : ∃ x ps, v = .ref x ∧ Opd z9 (.a ps) (.ref x) := by
    simp only [List.mem_cons, List.not_mem_nil, or_false] at hv
    rcases hv with rfl | rfl | rfl | rfl | rfl
    · exact ⟨_, [], rfl, .arr (by k_mem) .nil (by decide)⟩
    · exact ⟨_, [none], rfl, .arr (by k_mem) (.num (.int (by decide)) .nil) (by decide)⟩
    · exact ⟨_, [some 1], rfl, .arr (by k_mem) (.str (IsStr.mono (by assumption) (by kt_eqs)) .nil) (by decide)⟩
    · exact ⟨_, [none, some 0], rfl, .arr (by k_mem) (.num (.dec (by kwd_rel)) (.str (IsStr.mono (by assumption) (by kt_eqs)) .nil)) (by decide)⟩
    · exact ⟨_, [some 2, none, some 1], rfl, .arr (by k_mem) (.str (IsStr.mono (by assumption) (by kt_eqs)) (.num (.int (by decide)) (.str (IsStr.mono (by assumption) (by kt_eqs)) .nil))) (by decide)⟩
  obtain ⟨x, ps, rfl, hop⟩ := hops
  k_steps
  exact hret _ _ _ _ (by k_asm) (by k_asm) ⟨_, _, _, rfl, by ktu_off1L, by with_reducible assumption, _, _, rfl, by omega, by omega, _, hop⟩
end
local macro_rules | `(tactic| walk_at "pad") => `(tactic| skip)
local macro_rules | `(tactic| walk_at "pad") => `(tactic| skip)
local macro_rules | `(tactic| walk_at "pad") => `(tactic| skip)
local macro_rules | `(tactic| walk_at "pad") => `(tactic| skip)
local macro_rules | `(tactic| walk_at "pad") => `(tactic| skip)
local macro_rules | `(tactic| walk_at "pad") => `(tactic| skip)
local macro_rules | `(tactic| walk_at "pad") => `(tactic| skip)
local macro_rules | `(tactic| walk_at "pad") => `(tactic| skip)
local macro_rules | `(tactic| walk_at "pad") => `(tactic| skip)

open LCg in
/-- a text of low signs as a comprehension's source -/
def SignsSrc (prog : Program) (w : World) (A : Around) (env : Env) (h₀ : Heap) (L : Addr) (m : Str → Option Value) (elt : Expr) (x : Str) (scope : Scope) (cl : List (Str × Addr)) (y : Str) (Q : Flow → Shared → Prop) (xv : Value) (s₁ : Shared) : Prop :=
  ∃ b t news, xv = .str b t ∧ b.cps.all (· < 128) = true ∧ A.handled = none ∧ Fr h₀ L s₁.heap m ∧ News h₀ L s₁.heap news ∧ b.cps.size ≤ sizeLine ∧
      ∀ g, CompRest prog w A h₀ L m env elt x scope cl { s₁ with heap := g } (fun _ => True) (SignAt b) (FinA h₀ L m { s₁ with heap := g } y Q) b.cps.size 0 [] news
open LCg in
theorem Assign_signs {prog : Program} {w : World} {A : Around} {E : Value → Shared → Prop} {s : Shared} {h₀ : Heap} {L : Addr} {m : Str → Option Value} {env : Env} {elt iter : Expr} {x y : Str} {px py : Pos} {scope : Scope} {cl : List (Str × Addr)} {pos spos : Pos} {Q : Flow → Shared → Prop} (F₀ : Fr h₀ L s.heap m) (hLe : env.locals = L)
    (hsw : swapsWith (.ListComp elt [⟨.Name x px, iter, [], 0⟩] scope pos) (some (.Name y py)) spos.line env = pure true)
    (hclos : closureFor scope env = pure cl) (hcell : ∀ y ∈ scope.names, y.2 ≠ .cell) (hkind : scope.kind = .function)
    (hnames : ∀ y ∈ scope.names, y.2 = .local → scope.names.lookup y.1 = some .local) (hx : scope.names.lookup x = some .local)
    (hy : env.kindOf y = some .local) (hp : (env.scope.kind == .class || (env.scope.kind == .module && env.locals != env.globals)) = false)
    (h : wpAny (model prog w) A (eval iter env) (SignsSrc prog w A env h₀ L m elt x scope cl y Q) E s)
    (hs : ∀ x, foldedSetIterable iter env x = pure x := by intro _; rfl) :
    wpAny (model prog w) A (exec (.Assign [.Name y py] (.ListComp elt [⟨.Name x px, iter, [], 0⟩] scope pos) spos) env) Q E s := by
  subst hLe
  rw [exec_Assign_Name_used _ _ _ _ hsw]
  refine wpAny_bind (wpAny_standAt (wpAny_bind ?_))
  show wpAny _ A (do let _ ← comprehension (.ListComp elt [⟨.Name x px, iter, [], 0⟩] scope pos) scope env _ (newList []) false (eval iter env) (some (assign (.Name y py) env))) _ _ s
  refine wpAny_bind (wpAny_mono (wpAny_comprehension_free (use := some (assign (.Name y py) env)) (Q := fun _ s' => Q .next s') rfl hs hclos hkind hnames
    (wpAny_mono h (fun xv s₁ h₁ => ?_) fun _ _ e => e)) (fun _ s' hq => wpAny_pure (wpAny_pure hq)) fun _ _ e => e)
  obtain ⟨b, t, news, rfl, hasc, hh, F, N, hsz, R⟩ := h₁
  refine wpAny_pyIter_ascii hasc ?_
  have up : ∀ a o, s₁.heap.get? a = some o → (s₁.heap.push { cls := .type "str_ascii_iterator", data := .fields #[.str b t, .int 0 0] }).get? a = some o := fun a o e => Heap.get?_push_of_some _ e
  refine block_U (Walks.strAscii hh s₁.heap.objs.size b t) hsz (fun i h st => by obtain ⟨o, e, _⟩ := st; exact ⟨o, e⟩) (fun i h h' o nw st e e' _ _ _ => by obtain ⟨o', q, r⟩ := st; rw [e] at q; cases q; exact ⟨o, e', r⟩) hcell hkind hx ⟨_, Heap.get?_push_size _ rfl, rfl, rfl⟩ (fun a ha => ?_)
    (F.keeps up) (N.grown up) (Nat.ne_of_lt F.ns.lt) (next_is_new F) (fun p hp => Nat.ne_of_lt (Heap.lt_size (N p hp).1)) trivial (R _) ?_
  · show a < (s₁.heap.push _).objs.size
    rw [Heap.size_push, List.mem_singleton.mp ha]
    exact Nat.lt_succ_self _
  · intro D C h' tk m' ys news' F' N' o1 hn hC₀ hD₀ hCL hDL hCD offC fin
    show wpAny _ A (assign (.Name y py) env (.ref D)) _ _ _
    refine wpAny_assign_Name (wpAny_storeName_local hy F'.ns (fun h₂ hn₂ hs₂ => ?_) hp)
    have hL₀ : h₀.get? env.locals = none := Heap.get?_none_of_le F'.above
    have F₂ : Fr h₀ env.locals h₂ (fun z => if z = y then some (.ref D) else m z) := ⟨hn₂, fun b o e => hs₂.extBut b o (fun q => by rw [q, hL₀] at e; cases e) (F'.keep b o e), F'.above⟩
    refine ⟨m', hn.sameBut hs₂ hCL, fun h'' hs'' => fin D h'' _ (F₂.change hs'' hCL hC₀) (fun p hp => ?_) o1⟩
    have z : h₂.get? p.1 = some p.2 := hs₂.extBut _ _ (N' p hp).2.1 (N' p hp).1
    refine ⟨hs''.extBut _ _ ?_ z, (N' p hp).2⟩
    rcases List.mem_cons.mp hp with rfl | hp
    · exact Ne.symm hCD
    · exact offC p hp
/-- an operand of the kinds that the law draws -/
def drawn (tg : Tag) : Prop := tg = .n ∨ tg = .m ∨ tg = .s ∨ tg = .a

/-- the law's world -/
structure WS where
  op : Bool
  font : Bool
  pile : List Bool
  count : Nat
inductive Flt | paint | font
def Flt.cls : Flt → Addr | .paint => 59 | .font => 71
/-- the octets' counts of the strings that an operation shows -/
def octsOf : Wd → List OpV → List Nat
  | .TJ, [.a ps] => octs ps
  | .Tj, [.s k] => [k]
  | .ap, [.s k] => [k]
  | .qu, [_, _, .s k] => [k]
  | _, _ => []
def Wd.inside : Wd → Bool
  | .Tj | .ET | .ap | .qu | .TJ | .Ts | .Td | .TD | .Tm => true
  | _ => false
def kindsBad (wd : Wd) (os : List OpV) : Bool := match wd.kinds with
  | some tgs => !decide (os.map OpV.tag = tgs)
  | none => false
def faultOf (W : WS) (wd : Wd) (os : List OpV) : Option Flt :=
  if kindsBad wd os then some .paint
  else if wd.inside && !W.op then some .paint
  else if decide (wd = .BT) && W.op then some .paint
  else if decide (wd = .Q) && W.pile.isEmpty then some .paint
  else if decide (wd = .Tf) && !(match os with | .m b :: _ => b | _ => false) then some .font
  else if !(octsOf wd os).isEmpty && !W.font then some .font
  else none
def nextOf (W : WS) (wd : Wd) (os : List OpV) : WS where
  op := match wd with | .BT => true | .ET => false | _ => W.op
  font := match wd with | .Tf => true | .Q => W.pile.headD false | _ => W.font
  pile := match wd with | .q => W.font :: W.pile | .Q => W.pile.tail | _ => W.pile
  count := W.count + (octsOf wd os).sum
def due : WS → List (Wd × List OpV) → Nat ⊕ Flt
  | W, [] => .inl W.count
  | W, (wd, os) :: r => match faultOf W wd os with
    | some f => .inr f
    | none => due (nextOf W wd os) r
theorem due_at {W : WS} {rows : List (Wd × List OpV)} {i : Nat} {wd : Wd} {os : List OpV} (h : rows[i]? = some (wd, os)) : due W (rows.drop i) = match faultOf W wd os with | some f => .inr f | none => due (nextOf W wd os) (rows.drop (i + 1)) := by
  obtain ⟨hi, e⟩ := List.getElem?_eq_some_iff.mp h
  rw [List.drop_eq_getElem_cons hi, e]
  rfl
/-- a call that comes back by Post, or throws an own fault of a class in CP -/
def FT (w : World) (mean : ExcName → Option Value) (mg mb : Str → Option Value) (f : Addr) (k : Nat) (vs : List Value) (news z : Led) (Post : Value → Led → Prop) (CP : Addr → Prop) : Prop :=
  ∀ (dp un : Nat) (gd : Option (List Code)) (cn : Str) (cs : Scope) (a : Addr) (ccd : Value) (cl : List (Str × Addr)) (outer : List Env) (A₀ : Around) (base h₀ : Heap) (L : Addr) (m : Str → Option Value) (s : Shared) (Q E : Value → Shared → Prop),
    Below A₀ base outer h₀ → Fr h₀ L s.heap m → (hd.heap_39 w.params).In h₀ → News h₀ L s.heap news → Top hd.view_39 (looseW hd.view_39 [Str.ofString "PaperError", Str.ofString "OTHER_CODES"]) mean mg mb h₀ → cs.kind = .function → dp + k < recursionLimit → un + 8 * k < cLine →
    (∀ r news' h' tk', Fr h₀ L h' m → News h₀ L h' news' → Post r news' → Q r { s with heap := h', toks := tk' }) →
    (∀ C, CP C → ∀ e t vs' g₂ h' tk', Fr h₀ L g₂ m → g₂.UpToSlots h' → RaisedS base g₂ (envX cn cs L a ccd cl :: outer) e (.ref C) t vs' z h' → E (.ref e) { s with heap := h', toks := tk' }) →
    wpAny (model PySem.Challenge.rw_og0194_01.row.prog w) (ktrTop dp un gd cn cs L a ccd cl outer) (call (.ref f) vs) Q E s
theorem FT.use {w : World} {mean : ExcName → Option Value} {mg mb : Str → Option Value} {f : Addr} {k : Nat} {vs : List Value} {news z : Led} {Post : Value → Led → Prop} {CP : Addr → Prop} (T : FT w mean mg mb f k vs news z Post CP)
    {dp un : Nat} {gd : Option (List Code)} {cn : Str} {cs : Scope} {a : Addr} {ccd : Value} {cl : List (Str × Addr)} {outer : List Env} {A₀ : Around} {base h₀ : Heap} {L : Addr} {m : Str → Option Value} {s : Shared} {Q E : Value → Shared → Prop}
    (B : Below A₀ base outer h₀) (F : Fr h₀ L s.heap m) (X : (hd.heap_39 w.params).In h₀) (N : News h₀ L s.heap news) (T' : Top hd.view_39 (looseW hd.view_39 [Str.ofString "PaperError", Str.ofString "OTHER_CODES"]) mean mg mb h₀) (hk : cs.kind = .function) (hd : dp + k < recursionLimit) (hu : un + 8 * k < cLine)
    (ret : ∀ r news' h' tk', Fr h₀ L h' m → News h₀ L h' news' → Post r news' → Q r { s with heap := h', toks := tk' })
    (thr : ∀ C, CP C → ∀ e t vs' g₂ h' tk', Fr h₀ L g₂ m → g₂.UpToSlots h' → RaisedS base g₂ (envX cn cs L a ccd cl :: outer) e (.ref C) t vs' z h' → E (.ref e) { s with heap := h', toks := tk' }) :
    wpAny (model PySem.Challenge.rw_og0194_01.row.prog w) (ktrTop dp un gd cn cs L a ccd cl outer) (call (.ref f) vs) Q E s :=
  T _ _ _ _ _ _ _ _ _ _ _ _ _ _ _ _ _ B F X N T' hk hd hu ret thr
theorem Fn.toFT {w : World} {mean : ExcName → Option Value} {mg mb : Str → Option Value} {f : Addr} {k k' : Nat} {vs : List Value} {news z : Led} {P Post : Value → Led → Prop} {CP : Addr → Prop} (C : Fn w mean mg mb f k vs news P) (hk : k ≤ k') (h : ∀ r l, P r l → Post r l) : FT w mean mg mb f k' vs news z Post CP :=
  fun _ _ _ _ _ _ _ _ _ _ _ _ _ _ _ _ _ B F X N T hk' hd hu ret _ => C _ _ _ _ _ _ _ _ _ _ _ _ _ _ _ _ _ B F X N T hk' (by omega) (by omega) fun r l h' tk F' N' p => ret r l h' tk F' N' (h r l p)
theorem Th.toFT {w : World} {mean : ExcName → Option Value} {mg mb : Str → Option Value} {f : Addr} {k k' : Nat} {vs : List Value} {news z : Led} {C : Addr} {Post : Value → Led → Prop} {CP : Addr → Prop} (T : Th w mean mg mb f k vs news z C) (hk : k ≤ k') (h : CP C) : FT w mean mg mb f k' vs news z Post CP :=
  fun _ _ _ _ _ _ _ _ _ _ _ _ _ _ _ _ _ B F X N T' hk' hd hu _ thr => T _ _ _ _ _ _ _ _ _ _ _ _ _ _ _ _ _ B F X N T' hk' (by omega) (by omega) fun e t vs' g₂ h' tk' F' U R => thr C h e t vs' g₂ h' tk' F' U R
theorem Wd.str_len (wd : Wd) : wd.str.length ≤ 10 := by cases wd <;> decide
theorem tags_nil {os : List OpV} (h : os.map OpV.tag = []) : os = [] := List.map_eq_nil_iff.mp h
theorem tags_cons {os : List OpV} {t : Tag} {ts : List Tag} (h : os.map OpV.tag = t :: ts) : ∃ o r, os = o :: r ∧ o.tag = t ∧ r.map OpV.tag = ts := by
  cases os with
  | nil => cases h
  | cons o r =>
    rw [List.map_cons, List.cons.injEq] at h
    exact ⟨o, r, rfl, h.1, h.2⟩
theorem tags_n {os : List OpV} {ts : List Tag} (h : os.map OpV.tag = .n :: ts) : ∃ r, os = .n :: r ∧ r.map OpV.tag = ts := by
  obtain ⟨o, r, rfl, h1, h2⟩ := tags_cons h
  rw [tag_n h1]
  exact ⟨r, rfl, h2⟩
theorem tags_m {os : List OpV} {ts : List Tag} (h : os.map OpV.tag = .m :: ts) : ∃ b r, os = .m b :: r ∧ r.map OpV.tag = ts := by
  obtain ⟨o, r, rfl, h1, h2⟩ := tags_cons h
  obtain ⟨b, rfl⟩ := tag_m h1
  exact ⟨b, r, rfl, h2⟩
theorem tags_s {os : List OpV} {ts : List Tag} (h : os.map OpV.tag = .s :: ts) : ∃ k r, os = .s k :: r ∧ r.map OpV.tag = ts := by
  obtain ⟨o, r, rfl, h1, h2⟩ := tags_cons h
  obtain ⟨b, rfl⟩ := tag_s h1
  exact ⟨b, r, rfl, h2⟩
theorem tags_a {os : List OpV} {ts : List Tag} (h : os.map OpV.tag = .a :: ts) : ∃ ps r, os = .a ps :: r ∧ r.map OpV.tag = ts := by
  obtain ⟨o, r, rfl, h1, h2⟩ := tags_cons h
  obtain ⟨b, rfl⟩ := tag_a h1
  exact ⟨b, r, rfl, h2⟩
theorem PlAt.elim {z : Led} {row place : Value} {n : Nat} (h : PlAt z row place true n) : IsM z row n ∧ IsM z place n := by cases h; exact ⟨by assumption, by assumption⟩
theorem PlAt.none_of {z : Led} {row place : Value} {n : Nat} (h : PlAt z row place false n) : place = .none := by cases h; rfl
theorem StOk.font_of {w : World} {f : Value} {z : Led} {sp : Addr} {osp : Obj} {ctm font size : Value} {b : Bool} {n : Nat} (h : StOk w f z sp osp ctm font size b n) : font = if b then f else .none := by cases h; assumption
theorem TP.imp {as : List Addr} {l z : Led} {P P' : Led → Led → Value → Prop} (h : ∀ M z r, P M z r → P' M z r) : ∀ r l', TP as l z P r l' → TP as l z P' r l' := fun r l' ⟨M, l₂, z₂, e, G, O, p⟩ => ⟨M, l₂, z₂, e, G, O, h _ _ _ p⟩
/-- what follow_placed leaves behind -/
def FPost (w : World) (f : Value) (V : WS) (wd : Wd) (os : List OpV) (n nc : Nat) (sp : Addr) (ctm font size : Value) (mk : Value → Value → Array Value → Nat → Obj → Led) (M' z' : Led) (r : Value) : Prop :=
  faultOf V wd os = none ∧ r = .none ∧ ∃ row' place' farr' fn' osp', M' = mk row' place' farr' fn' osp' ∧ PlAt z' row' place' (nextOf V wd os).op n ∧ StOk w f z' sp osp' ctm font size V.font nc ∧ farr'.size = (nextOf V wd os).count
theorem fp_all {w : World} {mean : ExcName → Option Value} {mg mb : Str → Option Value} {l z : Led} {tour dt pl fd st ds sp : Addr} {sheet : Value} {htw0 htw1 htw2 htw3 htw4 htw5 : Int} {ktw0 ktw1 ktw2 ktw3 ktw4 ktw5 : Tok} {hst0 hst1 hst2 hst3 : Int} {kst0 kst1 kst2 kst3 : Tok} {row place ctm font size f : Value} {parr farr : Array Value} {pn fn : Nat} {osp : Obj} {ol : Addr} {arr : Array Value} {e : Nat} {n nc : Nat} {tkw : Tok} {V : WS} {wd : Wd} {os : List OpV} (hs : ∀ p ∈ z, p ∈ l) (hA : Ap7 tour dt pl fd st ds sp) (O : Off [tour, dt, pl, fd, st, ds, sp] l)
    (hff : IsFont z f) (hst : StOk w f z sp osp ctm font size V.font nc) (hpl : PlAt z row place V.op n) (hc : farr.size = V.count) (hol : (ol, W.listOf arr e) ∈ z) (hn : n + nc ≤ 1800) (hz : farr.size ≤ 800) (hops : OpsAt z arr.toList os) (hin : wd.inside = true) (hk : wd.kinds = some (os.map OpV.tag)) :
    FT w mean mg mb 592 80 [.ref tour, .str wd.str tkw, .ref ol] ([(tour, W.instObj 581 dt), (dt, W.dictOf [⟨htw0, .str (Str.ofString "sheet") ktw0, sheet⟩, ⟨htw1, .str (Str.ofString "state") ktw1, .ref st⟩, ⟨htw2, .str (Str.ofString "pile") ktw2, .ref pl⟩, ⟨htw3, .str (Str.ofString "row") ktw3, row⟩, ⟨htw4, .str (Str.ofString "place") ktw4, place⟩, ⟨htw5, .str (Str.ofString "found") ktw5, .ref fd⟩] 6), (pl, W.listOf parr pn), (fd, W.listOf farr fn), (st, W.instObj 497 ds), (ds, W.dictOf [⟨hst0, .str (Str.ofString "ctm") kst0, ctm⟩, ⟨hst1, .str (Str.ofString "font") kst1, font⟩, ⟨hst2, .str (Str.ofString "size") kst2, size⟩, ⟨hst3, .str (Str.ofString "spacing") kst3, .ref sp⟩] 4), (sp, osp)] ++ l) z
      (TP [tour, dt, pl, fd, st, ds, sp] l z (FPost w f V wd os (n + 60) nc sp ctm font size fun row' place' farr' fn' osp' => [(tour, W.instObj 581 dt), (dt, W.dictOf [⟨htw0, .str (Str.ofString "sheet") ktw0, sheet⟩, ⟨htw1, .str (Str.ofString "state") ktw1, .ref st⟩, ⟨htw2, .str (Str.ofString "pile") ktw2, .ref pl⟩, ⟨htw3, .str (Str.ofString "row") ktw3, row'⟩, ⟨htw4, .str (Str.ofString "place") ktw4, place'⟩, ⟨htw5, .str (Str.ofString "found") ktw5, .ref fd⟩] 6), (pl, W.listOf parr pn), (fd, W.listOf farr' fn'), (st, W.instObj 497 ds), (ds, W.dictOf [⟨hst0, .str (Str.ofString "ctm") kst0, ctm⟩, ⟨hst1, .str (Str.ofString "font") kst1, font⟩, ⟨hst2, .str (Str.ofString "size") kst2, size⟩, ⟨hst3, .str (Str.ofString "spacing") kst3, .ref sp⟩] 4), (sp, osp')]))
      (fun C => ∃ ft, faultOf V wd os = some ft ∧ C = ft.cls) := by
  have hkb : kindsBad wd os = false := by unfold kindsBad; rw [hk]; simp
  obtain ⟨op, fo, pile, cnt⟩ := V
  dsimp only at hst hpl hc
  cases op with
  | false =>
    obtain rfl := hpl.none_of
    exact (fp_out hs wd.str_len).toFT (by decide) ⟨.paint, by unfold faultOf; rw [hkb, hin]; rfl, rfl⟩
  | true =>
  obtain ⟨hr, hp⟩ := hpl.elim
  have hfont := hst.font_of
  cases wd with
  | Td =>
    obtain ⟨r1, rfl, h1⟩ := tags_n (Option.some.inj hk).symm
    obtain ⟨r2, rfl, h2⟩ := tags_n h1
    obtain rfl := tags_nil h2
    exact (fp_Td hs hA O hst hol hn hz hr hp hops).toFT (by decide) (TP.imp fun M' z' r ⟨q1, row', place', farr', fn', osp', q2, q3, q4, q5⟩ => ⟨rfl, q1, row', place', farr', fn', osp', q2, q3, q4, q5.trans (by rw [hc]; rfl)⟩)
  | TD =>
    obtain ⟨r1, rfl, h1⟩ := tags_n (Option.some.inj hk).symm
    obtain ⟨r2, rfl, h2⟩ := tags_n h1
    obtain rfl := tags_nil h2
    exact (fp_TD hs hA O hst hol hn hz hr hp hops).toFT (by decide) (TP.imp fun M' z' r ⟨q1, row', place', farr', fn', osp', q2, q3, q4, q5⟩ => ⟨rfl, q1, row', place', farr', fn', osp', q2, q3, q4, q5.trans (by rw [hc]; rfl)⟩)
  | Ts =>
    obtain rfl := tags_nil (Option.some.inj hk).symm
    exact (fp_Ts hs hA O hst hol hn hz hr hp hops).toFT (by decide) (TP.imp fun M' z' r ⟨q1, row', place', farr', fn', osp', q2, q3, q4, q5⟩ => ⟨rfl, q1, row', place', farr', fn', osp', q2, q3, q4, q5.trans (by rw [hc]; rfl)⟩)
  | Tm =>
    obtain ⟨r1, rfl, h1⟩ := tags_n (Option.some.inj hk).symm
    obtain ⟨r2, rfl, h2⟩ := tags_n h1
    obtain ⟨r3, rfl, h3⟩ := tags_n h2
    obtain ⟨r4, rfl, h4⟩ := tags_n h3
    obtain ⟨r5, rfl, h5⟩ := tags_n h4
    obtain ⟨r6, rfl, h6⟩ := tags_n h5
    obtain rfl := tags_nil h6
    exact (fp_Tm hs hA O hst hol hn hz hr hp hops).toFT (by decide) (TP.imp fun M' z' r ⟨q1, row', place', farr', fn', osp', q2, q3, q4, q5⟩ => ⟨rfl, q1, row', place', farr', fn', osp', q2, q3, q4, q5.trans (by rw [hc]; rfl)⟩)
  | ET =>
    obtain rfl := tags_nil (Option.some.inj hk).symm
    exact (fp_ET hs hA O hst hol hn hz hr hp hops).toFT (by decide) (TP.imp fun M' z' r ⟨q1, row', place', farr', fn', osp', q2, q3, q4, q5⟩ => ⟨rfl, q1, row', place', farr', fn', osp', q2, q3, q4, q5.trans (by rw [hc]; rfl)⟩)
  | Tj =>
    obtain ⟨k, r1, rfl, h1⟩ := tags_s (Option.some.inj hk).symm
    obtain rfl := tags_nil h1
    cases fo with
    | true =>
      have hft : IsFont z font := by rw [hfont]; exact hff
      exact (fp_Tj hs hA O hst hol hn hz hr hp hft hops).toFT (by decide) (TP.imp fun M' z' r ⟨q1, row', place', farr', fn', osp', q2, q3, q4, q5⟩ => ⟨rfl, q1, row', place', farr', fn', osp', q2, q3, q4, q5.trans (by rw [hc]; rfl)⟩)
    | false =>
      exact (fn_Tj hs hA O hst hol hn hr hp hops).toFT (by decide) ⟨.font, rfl, rfl⟩
  | ap =>
    obtain ⟨k, r1, rfl, h1⟩ := tags_s (Option.some.inj hk).symm
    obtain rfl := tags_nil h1
    cases fo with
    | true =>
      have hft : IsFont z font := by rw [hfont]; exact hff
      exact (fp_ap hs hA O hst hol hn hz hr hp hft hops).toFT (by decide) (TP.imp fun M' z' r ⟨q1, row', place', farr', fn', osp', q2, q3, q4, q5⟩ => ⟨rfl, q1, row', place', farr', fn', osp', q2, q3, q4, q5.trans (by rw [hc]; rfl)⟩)
    | false =>
      exact (fn_ap hs hA O hst hol hn hr hp hops).toFT (by decide) ⟨.font, rfl, rfl⟩
  | qu =>
    obtain ⟨r1, rfl, h1⟩ := tags_n (Option.some.inj hk).symm
    obtain ⟨r2, rfl, h2⟩ := tags_n h1
    obtain ⟨k, r3, rfl, h3⟩ := tags_s h2
    obtain rfl := tags_nil h3
    cases fo with
    | true =>
      have hft : IsFont z font := by rw [hfont]; exact hff
      exact (fp_qu hs hA O hst hol hn hz hr hp hft hops).toFT (by decide) (TP.imp fun M' z' r ⟨q1, row', place', farr', fn', osp', q2, q3, q4, q5⟩ => ⟨rfl, q1, row', place', farr', fn', osp', q2, q3, q4, q5.trans (by rw [hc]; rfl)⟩)
    | false =>
      exact (fn_qu hs hA O hst hol hn hr hp hops).toFT (by decide) ⟨.font, rfl, rfl⟩
  | TJ =>
    obtain ⟨ps, r1, rfl, h1⟩ := tags_a (Option.some.inj hk).symm
    obtain rfl := tags_nil h1
    cases fo with
    | true =>
      have hft : FontFor z font ps := fun _ => by rw [hfont]; exact hff
      exact (fp_TJ hs hA O hst hol hn hz hr hp hft hops).toFT (by decide) (TP.imp fun M' z' r ⟨q1, row', place', farr', fn', osp', q2, q3, q4, q5⟩ => ⟨by unfold faultOf; rw [hkb]; simp [Wd.inside], q1, row', place', farr', fn', osp', q2, q3, q4, q5.trans (by rw [hc]; rfl)⟩)
    | false =>
      by_cases hne : octs ps = []
      · exact (fp_TJ hs hA O hst hol hn hz hr hp (fun h => absurd hne h) hops).toFT (by decide) (TP.imp fun M' z' r ⟨q1, row', place', farr', fn', osp', q2, q3, q4, q5⟩ => ⟨by unfold faultOf; rw [hkb]; simp [Wd.inside, octsOf, hne], q1, row', place', farr', fn', osp', q2, q3, q4, q5.trans (by rw [hc]; rfl)⟩)
      · exact (fn_TJ hs hA O hst hol hn hr hp hne hops).toFT (by decide) ⟨.font, by unfold faultOf; rw [hkb]; simp [Wd.inside, octsOf, hne], rfl⟩
  | _ => cases hin

/-- the dict of a tour -/
def WkD (o : Obj) (sheet : Value) (st pl : Addr) (row place : Value) (fd : Addr) : Prop := ∃ (htw0 htw1 htw2 htw3 htw4 htw5 : Int) (ktw0 ktw1 ktw2 ktw3 ktw4 ktw5 : Tok), o = W.dictOf [⟨htw0, .str (Str.ofString "sheet") ktw0, sheet⟩, ⟨htw1, .str (Str.ofString "state") ktw1, .ref st⟩, ⟨htw2, .str (Str.ofString "pile") ktw2, .ref pl⟩, ⟨htw3, .str (Str.ofString "row") ktw3, row⟩, ⟨htw4, .str (Str.ofString "place") ktw4, place⟩, ⟨htw5, .str (Str.ofString "found") ktw5, .ref fd⟩] 6
theorem swapW {a b c d : Addr × Obj} {l : Led} : ∀ p ∈ [a, b, c, d] ++ l, p ∈ d :: c :: a :: b :: l := fun p hp => by
  simp only [List.cons_append, List.nil_append, List.mem_cons] at hp ⊢
  rcases hp with h | h | h | h | h <;> simp [h]
theorem off4 {a b c d : Addr} {l : Led} (o : Off [a, b] l) (hc : AllLt c l) (hd : AllLt d l) : Off [a, b, c, d] l := fun p hp e => by
  simp only [List.mem_cons, List.not_mem_nil, or_false] at e
  rcases e with e | e | e | e
  · exact o p hp (by simp [e])
  · exact o p hp (by simp [e])
  · exact Nat.ne_of_lt (allLt_mem hc p hp) e
  · exact Nat.ne_of_lt (allLt_mem hd p hp) e
section
local macro_rules | `(tactic| walk_at "call ref") => `(tactic| (k_here; (with_reducible show wpAny _ _ (call (Value.ref _) _) _ _ _); (refine Stop.out ?_; walk_say "STOP")))
theorem walkNew_ok {w : World} {mean : ExcName → Option Value} {mg mb : Str → Option Value} {l z : Led} {sheet : Value} {st : Addr} (hs : ∀ p ∈ z, p ∈ l) :
    Fn w mean mg mb 581 4 [sheet, .ref st] l (MP l z fun C z' r => ∃ tour dt pl fd hd, r = .ref tour ∧ C = [(tour, W.instObj 581 dt), (dt, hd), (pl, W.listOf #[] 0), (fd, W.listOf #[] 0)] ∧ WkD hd sheet st pl .none .none fd ∧
      @Ne Nat tour dt ∧ @Ne Nat tour pl ∧ @Ne Nat tour fd ∧ @Ne Nat dt pl ∧ @Ne Nat dt fd ∧ @Ne Nat pl fd) := by
  unfold Fn
  k_fill
  intro dp un gd cn cs aa ccd cl outer A₀ base h₀ L m s Q E B F X N T hk hdd hu hret
  kba_ints
  rename (_ ∧ _ ∧ _ ∧ AllLt _ _) => lB
  rename (_ ∧ _ ∧ AllLt _ _) => lA
  exact hret _ _ _ _ (by k_asm) (News.sub (by k_asm) swapW) ⟨[_, _, _, _], _, _, rfl, Ex.refl, off4 (by with_reducible assumption) lA.2.2 lB.2.2.2, _, _, _, _, _, rfl, rfl, ⟨_, _, _, _, _, _, _, _, _, _, _, _, rfl⟩,
    Nat.ne_of_gt (by assumption), Nat.ne_of_lt lA.1, Nat.ne_of_lt lB.2.1, Nat.ne_of_lt lA.2.1, Nat.ne_of_lt lB.2.2.1, Nat.ne_of_lt lB.1⟩
end
local macro_rules | `(tactic| walk_at "pad") => `(tactic| skip)
local macro_rules | `(tactic| walk_at "pad") => `(tactic| skip)
def S6 : List (Str × List Tag) := (Str.ofString "cm", [Tag.n, Tag.n, Tag.n, Tag.n, Tag.n, Tag.n]) :: S5
def S7 : List (Str × List Tag) := (Str.ofString "Do", [Tag.m]) :: S6
theorem wd_in {wd : Wd} {tgs : List Tag} (h : wd.kinds = some tgs) : (wd.str, tgs) ∈ S7 := by
  cases wd <;> first | (cases h; decide +kernel) | cases h
theorem wd_out {wd : Wd} (h : wd.kinds = none) : wd.str ∉ S7.map (·.1) := by
  cases wd <;> first | decide +kernel | cases h
theorem kinds_few {wd : Wd} {tgs : List Tag} (h : wd.kinds = some tgs) : tgs.length ≤ 6 ∧ ∀ tg ∈ tgs, tg ∈ [Tag.n, Tag.m, Tag.s, Tag.a] := by
  cases wd <;> first | (cases h; decide) | cases h
theorem check_fine {w : World} {mean : ExcName → Option Value} {mg mb : Str → Option Value} {l z : Led} {kd : Addr} {okd : Obj} {D : List (Str × Value)} {x : Value} {wd : Wd} {os : List OpV} (hs : ∀ p ∈ z, p ∈ l)
    (hx : IsOp z x wd.str os) (hkd : (kd, okd) ∈ l) (hD : okd.IsDictOf (PySem.strKind PySem.Challenge.rw_og0194_01.row.prog w) D) (hlo : (kd == sysModules) = false) (hT : KTab z D S7) (hb : kindsBad wd os = false) :
    Fn w mean mg mb 529 20 [.ref kd, x] l (fun r l' => ∃ z', Ex l z l' z' ∧ r = .none) := by
  cases hk : wd.kinds with
  | none => exact (Fn.more (check_free hs hx hkd hD hlo (by rw [hT.2 _ (wd_out hk)]; rfl)) (by decide)).post fun r l' ⟨e, e2⟩ => ⟨z, e ▸ Ex.refl, e2⟩
  | some tgs =>
    obtain ⟨v, hv, hkt⟩ := hT.1 _ _ (wd_in hk)
    have he : os.map OpV.tag = tgs := by
      unfold kindsBad at hb
      rw [hk] at hb
      simpa using hb
    exact check_ok hs hx hkd hD hlo hv hkt he (kinds_few hk).1 (kinds_few hk).2
theorem check_wrong {w : World} {mean : ExcName → Option Value} {mg mb : Str → Option Value} {l z : Led} {kd : Addr} {okd : Obj} {D : List (Str × Value)} {x : Value} {wd : Wd} {os : List OpV} (hs : ∀ p ∈ z, p ∈ l)
    (hx : IsOp z x wd.str os) (hkd : (kd, okd) ∈ l) (hD : okd.IsDictOf (PySem.strKind PySem.Challenge.rw_og0194_01.row.prog w) D) (hlo : (kd == sysModules) = false) (hT : KTab z D S7) (hb : kindsBad wd os = true) (hno : os.length ≤ 10) :
    Th w mean mg mb 529 30 [.ref kd, x] l z 59 := by
  cases hk : wd.kinds with
  | none => unfold kindsBad at hb; rw [hk] at hb; cases hb
  | some tgs =>
    obtain ⟨v, hv, hkt⟩ := hT.1 _ _ (wd_in hk)
    have he : os.map OpV.tag ≠ tgs := by
      unfold kindsBad at hb
      rw [hk] at hb
      simpa using hb
    exact check_bad hs hx hkd hD hlo hv hkt he (kinds_few hk).1 hno wd.str_len (kinds_few hk).2
/-- the states on the pile, the top one first -/
inductive Pile (w : World) (f : Value) (z : Led) : Led → List Value → List Bool → Nat → Prop
  | nil {n : Nat} : Pile w f z [] [] [] n
  | cons {x ds sp : Addr} {dd osp : Obj} {ctm font size : Value} {b : Bool} {P : Led} {vs : List Value} {bs : List Bool} {n : Nat} (a1 : @Ne Nat x ds) (a2 : @Ne Nat x sp) (a3 : @Ne Nat ds sp) (hD : StD dd ctm font size sp) (hS : StOk w f z sp osp ctm font size b n) (O3 : Off [x, ds, sp] P) (r : Pile w f z P vs bs n) :
      Pile w f z (st3 x ds sp dd osp ++ P) (.ref x :: vs) (b :: bs) n
theorem Pile.mono {w : World} {f : Value} {z z' : Led} (s : ∀ p ∈ z, p ∈ z') {P : Led} {vs : List Value} {bs : List Bool} {n n' : Nat} (e : n ≤ n') (h : Pile w f z P vs bs n) : Pile w f z' P vs bs n' := by
  induction h with
  | nil => exact .nil
  | cons a1 a2 a3 hD hS O3 r ih => exact .cons a1 a2 a3 hD ((hS.mono s).more e) O3 (ih e)
theorem Pile.len {w : World} {f : Value} {z : Led} {P : Led} {vs : List Value} {bs : List Bool} {n : Nat} (h : Pile w f z P vs bs n) : vs.length = bs.length := by
  induction h with
  | nil => rfl
  | cons a1 a2 a3 hD hS O3 r ih => simp [ih]
/-- a tour under way, at the law's world V -/
inductive TourAt (w : World) (f sheet : Value) (tour dt pl fd : Addr) (htw0 htw1 htw2 htw3 htw4 htw5 : Int) (ktw0 ktw1 ktw2 ktw3 ktw4 ktw5 : Tok) (V : WS) (i : Nat) (z : Led) : Led → Prop
  | mk {st ds sp : Addr} {hst0 hst1 hst2 hst3 : Int} {kst0 kst1 kst2 kst3 : Tok} {row place ctm font size : Value} {parr farr : Array Value} {pn fn : Nat} {osp : Obj} {P l : Led}
      (hA : Ap7 tour dt pl fd st ds sp) (O : Off [tour, dt, pl, fd, st, ds, sp] (P ++ l)) (OP : Off (P.map (·.1)) l) (hz : ∀ p ∈ z, p ∈ l) (hst : StOk w f z sp osp ctm font size V.font (4 * i + 2)) (hpl : PlAt z row place V.op (60 * i + 2))
      (hc : farr.size = V.count) (hcn : V.count ≤ 10 * i) (hP : Pile w f z P parr.toList.reverse V.pile (4 * i + 2)) (hpn : V.pile.length ≤ i) :
      TourAt w f sheet tour dt pl fd htw0 htw1 htw2 htw3 htw4 htw5 ktw0 ktw1 ktw2 ktw3 ktw4 ktw5 V i z ([(tour, W.instObj 581 dt), (dt, W.dictOf [⟨htw0, .str (Str.ofString "sheet") ktw0, sheet⟩, ⟨htw1, .str (Str.ofString "state") ktw1, .ref st⟩, ⟨htw2, .str (Str.ofString "pile") ktw2, .ref pl⟩, ⟨htw3, .str (Str.ofString "row") ktw3, row⟩, ⟨htw4, .str (Str.ofString "place") ktw4, place⟩, ⟨htw5, .str (Str.ofString "found") ktw5, .ref fd⟩] 6), (pl, W.listOf parr pn), (fd, W.listOf farr fn), (st, W.instObj 497 ds), (ds, W.dictOf [⟨hst0, .str (Str.ofString "ctm") kst0, ctm⟩, ⟨hst1, .str (Str.ofString "font") kst1, font⟩, ⟨hst2, .str (Str.ofString "size") kst2, size⟩, ⟨hst3, .str (Str.ofString "spacing") kst3, .ref sp⟩] 4), (sp, osp)] ++ (P ++ l))
/-- the operations of a sheet -/
inductive RowsAt (z : Led) : List Value → List (Wd × List OpV) → Prop
  | nil : RowsAt z [] []
  | cons {v : Value} {wd : Wd} {os : List OpV} {vs : List Value} {rows : List (Wd × List OpV)} (h : IsOp z v wd.str os) (hn : os.length ≤ 10) (r : RowsAt z vs rows) : RowsAt z (v :: vs) ((wd, os) :: rows)
theorem RowsAt.len {z : Led} : ∀ {vs : List Value} {rows : List (Wd × List OpV)}, RowsAt z vs rows → vs.length = rows.length
  | _, _, .nil => rfl
  | _, _, .cons _ _ r => congrArg (· + 1) r.len
theorem RowsAt.at {z : Led} : ∀ {vs : List Value} {rows : List (Wd × List OpV)}, RowsAt z vs rows → ∀ (i : Nat) (v : Value), vs[i]? = some v → ∃ wd os, rows[i]? = some (wd, os) ∧ IsOp z v wd.str os ∧ os.length ≤ 10
  | _, _, .nil => fun _ _ h => by simp at h
  | _, _, .cons h hn r => fun i v e => by
    cases i with
    | zero => cases e; exact ⟨_, _, rfl, h, hn⟩
    | succ i => exact r.at i v e
theorem IsOp.mono {z z' : Led} {v : Value} {word : Str} {os : List OpV} (h : IsOp z v word os) (s : ∀ p ∈ z, p ∈ z') : IsOp z' v word os := by
  cases h with
  | mk hx hdx hol ho => exact .mk (s _ hx) (s _ hdx) (s _ hol) (ho.mono s)
theorem RowsAt.mono {z z' : Led} (s : ∀ p ∈ z, p ∈ z') : ∀ {vs : List Value} {rows : List (Wd × List OpV)}, RowsAt z vs rows → RowsAt z' vs rows
  | _, _, .nil => .nil
  | _, _, .cons h hn r => .cons (h.mono s) hn (r.mono s)
/-- the sheet, with its operations -/
inductive SheetAt (w : World) (z : Led) : Value → Value → List (Wd × List OpV) → Prop
  | mk {x dx opl fo fm own : Addr} {hsh0 hsh1 hsh2 hsh3 : Int} {ksh0 ksh1 ksh2 ksh3 : Tok} {f : Value} {ofo ofm : Obj} {oarr : Array Value} {eo : Nat} {rows : List (Wd × List OpV)} (hx : (x, W.instObj 462 dx) ∈ z) (hdx : (dx, W.dictOf [⟨hsh0, .str (Str.ofString "operations") ksh0, .ref opl⟩, ⟨hsh1, .str (Str.ofString "fonts") ksh1, .ref fo⟩, ⟨hsh2, .str (Str.ofString "forms") ksh2, .ref fm⟩, ⟨hsh3, .str (Str.ofString "own") ksh3, .ref own⟩] 4) ∈ z) (hfo : (fo, ofo) ∈ z) (hD : ofo.IsDictOf (PySem.strKind PySem.Challenge.rw_og0194_01.row.prog w) [(Str.ofString "A", f)]) (lo : (fo == sysModules) = false) (hf : IsFont z f)
      (hfm : (fm, ofm) ∈ z) (hDm : ofm.IsDictOf (PySem.strKind PySem.Challenge.rw_og0194_01.row.prog w) []) (lom : (fm == sysModules) = false) (hol : (opl, W.listOf oarr eo) ∈ z) (hr : RowsAt z oarr.toList rows) (hn : rows.length ≤ 8) (hown : IsM z (.ref own) 2) : SheetAt w z (.ref x) f rows
theorem SheetAt.mono {w : World} {z z' : Led} {v f : Value} {rows : List (Wd × List OpV)} (h : SheetAt w z v f rows) (s : ∀ p ∈ z, p ∈ z') : SheetAt w z' v f rows := by
  cases h with
  | mk hx hdx hfo hD lo hf hfm hDm lom hol hr hn hown => exact .mk (s _ hx) (s _ hdx) (s _ hfo) hD lo (hf.mono s) (s _ hfm) hDm lom (s _ hol) (hr.mono s) hn (hown.mono s)
theorem SheetAt.sheet {w : World} {z : Led} {v f : Value} {rows : List (Wd × List OpV)} (h : SheetAt w z v f rows) : IsSheet w z v f := by
  cases h with
  | mk hx hdx hfo hD lo hf hfm hDm lom hol hr hn hown => exact .mk hx hdx hfo hD lo hf hfm hDm lom
theorem inside_kinds {wd : Wd} {os : List OpV} (hin : wd.inside = true) (hb : kindsBad wd os = false) : wd.kinds = some (os.map OpV.tag) := by
  unfold kindsBad at hb
  cases hk : wd.kinds with
  | none => cases wd <;> first | exact absurd hk (by decide) | exact absurd hin (by decide)
  | some tgs =>
    rw [hk] at hb
    simp only [Bool.not_eq_false', decide_eq_true_eq] at hb
    rw [hb]
theorem inside_font {V : WS} {wd : Wd} {os : List OpV} (hin : wd.inside = true) : (nextOf V wd os).font = V.font := by cases wd <;> first | rfl | cases hin
theorem inside_pile {V : WS} {wd : Wd} {os : List OpV} (hin : wd.inside = true) : (nextOf V wd os).pile = V.pile := by cases wd <;> first | rfl | cases hin
theorem arrays_few {ps : List (Option Nat)} (h : ps ∈ arrays) : (octs ps).sum ≤ 10 := by
  simp only [arrays, List.mem_cons, List.not_mem_nil, or_false] at h
  rcases h with rfl | rfl | rfl | rfl | rfl <;> decide
theorem OpsAt.few {z : Led} : ∀ {vs : List Value} {os : List OpV}, OpsAt z vs os → ∀ o ∈ os, (∀ k, o = .s k → k ≤ 2) ∧ ∀ ps, o = .a ps → (octs ps).sum ≤ 10
  | _, _, .nil => fun _ h => nomatch h
  | _, _, .cons h r => fun o ho => by
    rcases List.mem_cons.mp ho with rfl | ho
    · refine ⟨fun k e => ?_, fun ps e => ?_⟩
      · subst e
        cases h with
        | str h => cases h; assumption
      · subst e
        cases h with
        | arr h hp hs => exact arrays_few hs
    · exact r.few o ho
theorem octs_few {z : Led} {vs : List Value} {os : List OpV} (h : OpsAt z vs os) (wd : Wd) : (octsOf wd os).sum ≤ 10 := by
  have f := h.few
  unfold octsOf
  split
  · exact (f _ (.head _)).2 _ rfl
  · have := (f _ (.head _)).1 _ rfl
    simp; omega
  · have := (f _ (.head _)).1 _ rfl
    simp; omega
  · have := (f _ (.tail _ (.tail _ (.head _)))).1 _ rfl
    simp; omega
  · exact Nat.zero_le _
theorem count_le {V : WS} {wd : Wd} {os : List OpV} {i : Nat} {z : Led} {vs : List Value} (h : OpsAt z vs os) (hc : V.count ≤ 10 * i) : (nextOf V wd os).count ≤ 10 * (i + 1) := by
  have := octs_few h wd
  show V.count + (octsOf wd os).sum ≤ _
  omega
theorem turn_out {I : Addr} {oI : Obj} {P l₁ z₁ l₂ z₂ : Led} (G : Ex ((I, oI) :: (P ++ l₁)) z₁ l₂ z₂) (hz : ∀ p ∈ z₁, p ∈ l₁) (offI : ∀ p ∈ P ++ l₁, p.1 ≠ I) (OP : Off (P.map (·.1)) l₁) :
    ∃ l₃, (∀ p ∈ z₂, p ∈ l₃) ∧ (∀ p ∈ (I, oI) :: (P ++ l₃), p ∈ l₂) ∧ (∀ p ∈ P ++ l₃, p.1 ≠ I) ∧ Off (P.map (·.1)) l₃ := by
  obtain ⟨t, rfl, rfl, u⟩ := G
  refine ⟨t ++ l₁, fun p hp => (List.mem_append.mp hp).elim (List.mem_append_left _) fun h => List.mem_append_right _ (hz p h), fun p hp => ?_, fun p hp => ?_, fun p hp e => ?_⟩
  · simp only [List.mem_cons, List.mem_append] at hp ⊢
    rcases hp with h | h | h | h <;> simp [h]
  · rcases List.mem_append.mp hp with hp | hp
    · exact offI p (List.mem_append_left _ hp)
    · rcases List.mem_append.mp hp with hp | hp
      · exact fun e => u p hp _ (.head _) e.symm
      · exact offI p (List.mem_append_right _ hp)
  · rcases List.mem_append.mp hp with hp | hp
    · obtain ⟨q, hq, e2⟩ := List.mem_map.mp e
      exact u p hp q (.tail _ (List.mem_append_left _ hq)) e2
    · exact OP p hp e
/-- a turn's end: what is new goes behind the tour's cells and the pile, C onto the pile -/
theorem turn_done {g h : Heap} {L : Addr} {s₁ : Shared} {I : Addr} {oI : Obj} {opl : Addr} {oarr : Array Value} {eo : Nat} {J : (Str → Option Value) → Led → Prop} {Q : Flow → Shared → Prop} {tk : Nat} {m' : Str → Option Value} {M C P l₁ z₁ l₂ z₂ : Led} {as : List Addr}
    (F : Fr g L h m') (N : News g L h (M ++ (C ++ l₂))) (G : Ex ((I, oI) :: (P ++ l₁)) z₁ l₂ z₂) (hz : ∀ p ∈ z₁, p ∈ l₁) (offI : ∀ p ∈ P ++ l₁, p.1 ≠ I) (OP : Off (P.map (·.1)) l₁) (hI : I ∉ as) (hM : M.map (·.1) = as) (O : Off as (C ++ l₂)) (OC : Off (C.map (·.1)) l₂) (hS : (opl, W.listOf oarr eo) ∈ z₂)
    (hJ : ∀ l₃, (∀ p ∈ z₂, p ∈ l₃) → Off as ((C ++ P) ++ l₃) → Off ((C ++ P).map (·.1)) l₃ → Off (C.map (·.1)) P → J m' (M ++ ((C ++ P) ++ l₃))) : TurnQ g L s₁ I oI opl oarr J Q .next { s₁ with heap := h, toks := tk } := by
  obtain ⟨l₃, h1, h2, h3, h4⟩ := turn_out G hz offI OP
  have sub : ∀ p ∈ (C ++ P) ++ l₃, p ∈ C ++ l₂ := fun p hp => by
    rw [List.append_assoc] at hp
    exact (List.mem_append.mp hp).elim (List.mem_append_left _) fun h => List.mem_append_right _ (h2 p (.tail _ h))
  have hIl : (I, oI) ∈ l₂ := h2 _ (.head _)
  refine TurnQ.nxt (M ++ ((C ++ P) ++ l₃)) F N (fun p hp => ?_) (fun p hp => ?_) (.inr ⟨_, List.mem_append_right _ (List.mem_append_right _ (h1 _ hS)), rfl, _, rfl⟩) (hJ l₃ h1 (O.sub sub) (fun p hp e => ?_) fun p hp => OC p (h2 p (.tail _ (List.mem_append_left _ hp))))
  · rcases List.mem_cons.mp hp with rfl | hp
    · exact List.mem_append_right _ (List.mem_append_right _ hIl)
    · exact (List.mem_append.mp hp).elim (List.mem_append_left _) fun h => List.mem_append_right _ (sub p h)
  · rcases List.mem_append.mp hp with hp | hp
    · exact offM hI hM p hp
    · rw [List.append_assoc] at hp
      rcases List.mem_append.mp hp with hp | hp
      · exact fun e => OC _ hIl (by
          have q : p.1 ∈ C.map (·.1) := List.mem_map_of_mem hp
          rw [e] at q
          exact q)
      · exact h3 p hp
  · rw [List.map_append] at e
    rcases List.mem_append.mp e with e | e
    · exact OC p (h2 p (.tail _ (List.mem_append_right _ hp))) e
    · exact h4 p hp e
theorem StOk.setM {w : World} {f : Value} {z : Led} {sp : Addr} {osp : Obj} {ctm ctm' font size : Value} {b : Bool} {n n' : Nat} (h : StOk w f z sp osp ctm font size b n) (hm : IsM z ctm' n') : StOk w f z sp osp ctm' font size b n' := by
  cases h with
  | mk lo ho h1 h2 h3 h4 h5 hs hc hf => exact .mk lo ho h1 h2 h3 h4 h5 hs hm hf
theorem StOk.setF {w : World} {f : Value} {z : Led} {sp : Addr} {osp : Obj} {ctm font size size' : Value} {b : Bool} {n : Nat} (h : StOk w f z sp osp ctm font size b n) (hm : IsD z size' 1) : StOk w f z sp osp ctm f size' true n := by
  cases h with
  | mk lo ho h1 h2 h3 h4 h5 hs hc hf => exact .mk lo ho h1 h2 h3 h4 h5 hm hc rfl
theorem ap7_of {tour dt pl fd st ds sp : Addr} {o1 o2 o3 : Obj} {l : Led} (m1 : @Ne Nat tour dt) (m2 : @Ne Nat tour pl) (m3 : @Ne Nat tour fd) (m4 : @Ne Nat dt pl) (m5 : @Ne Nat dt fd) (m6 : @Ne Nat pl fd) (a1 : @Ne Nat st ds) (a2 : @Ne Nat st sp) (a3 : @Ne Nat ds sp)
    (P : Off [tour, dt, pl, fd] l) (h1 : (st, o1) ∈ l) (h2 : (ds, o2) ∈ l) (h3 : (sp, o3) ∈ l) : Ap7 tour dt pl fd st ds sp := by
  have f : ∀ {q : Addr} {o : Obj}, (q, o) ∈ l → @Ne Nat tour q ∧ @Ne Nat dt q ∧ @Ne Nat pl q ∧ @Ne Nat fd q := fun {q o} h => by
    have := P _ h
    simp only [List.mem_cons, List.not_mem_nil, or_false, not_or] at this
    exact ⟨Ne.symm this.1, Ne.symm this.2.1, Ne.symm this.2.2.1, Ne.symm this.2.2.2⟩
  exact ⟨m1, m2, m3, (f h1).1, (f h2).1, (f h3).1, m4, m5, (f h1).2.1, (f h2).2.1, (f h3).2.1, m6, (f h1).2.2.1, (f h2).2.2.1, (f h3).2.2.1, (f h1).2.2.2, (f h2).2.2.2, (f h3).2.2.2, a1, a2, a3⟩
theorem off7_of {tour dt pl fd st ds sp : Addr} {l : Led} (P : Off [tour, dt, pl, fd] l) (R : Off [st, ds, sp] l) : Off [tour, dt, pl, fd, st, ds, sp] l := fun p hp e => by
  simp only [List.mem_cons, List.not_mem_nil, or_false] at e
  have h1 := P p hp
  have h2 := R p hp
  simp only [List.mem_cons, List.not_mem_nil, or_false] at h1 h2
  rcases e with e | e | e | e | e | e | e <;> simp [e] at h1 h2
/-- the end of a turn that takes the top state off the pile -/
theorem turn_pop {g h : Heap} {L : Addr} {s₁ : Shared} {I : Addr} {oI : Obj} {opl : Addr} {oarr : Array Value} {eo : Nat} {J : (Str → Option Value) → Led → Prop} {Q : Flow → Shared → Prop} {tk : Nat} {m' : Str → Option Value} {tour dt pl fd st ds sp x dsx spx : Addr} {o1 o2 o3 o4 dd osp : Obj} {P l₁ z₁ l₂ z₂ : Led}
    (F : Fr g L h m') (N : News g L h ([(tour, o1), (dt, o2), (pl, o3), (fd, o4)] ++ l₂)) (G : Ex ((I, oI) :: ((st3 x dsx spx dd osp ++ P) ++ l₁)) z₁ l₂ z₂) (hz : ∀ p ∈ z₁, p ∈ l₁) (offI : ∀ p ∈ (st3 x dsx spx dd osp ++ P) ++ l₁, p.1 ≠ I) (OP : Off ((st3 x dsx spx dd osp ++ P).map (·.1)) l₁)
    (a1 : @Ne Nat x dsx) (a2 : @Ne Nat x spx) (a3 : @Ne Nat dsx spx) (O3 : Off [x, dsx, spx] P) (hI : I ∉ [tour, dt, pl, fd, st, ds, sp]) (hA : Ap7 tour dt pl fd st ds sp) (O : Off [tour, dt, pl, fd, st, ds, sp] l₂) (hS : (opl, W.listOf oarr eo) ∈ z₂)
    (hJ : ∀ l₃, (∀ p ∈ z₂, p ∈ l₃) → Ap7 tour dt pl fd x dsx spx → Off [tour, dt, pl, fd, x, dsx, spx] (P ++ l₃) → Off (P.map (·.1)) l₃ → J m' ([(tour, o1), (dt, o2), (pl, o3), (fd, o4), (x, W.instObj 497 dsx), (dsx, dd), (spx, osp)] ++ (P ++ l₃))) : TurnQ g L s₁ I oI opl oarr J Q .next { s₁ with heap := h, toks := tk } := by
  obtain ⟨l₃, h1, h2, h3, h4⟩ := turn_out G hz offI OP
  have hin : ∀ p ∈ (st3 x dsx spx dd osp ++ P) ++ l₃, p ∈ l₂ := fun p hp => h2 p (.tail _ hp)
  have O4 : Off [tour, dt, pl, fd] l₂ := fun p hp e => O p hp (by
    simp only [List.mem_cons, List.not_mem_nil, or_false] at e ⊢
    rcases e with e | e | e | e <;> simp [e])
  have c1 : (x, W.instObj 497 dsx) ∈ l₂ := hin _ (List.mem_append_left _ (List.mem_append_left _ (.head _)))
  have c2 : (dsx, dd) ∈ l₂ := hin _ (List.mem_append_left _ (List.mem_append_left _ (.tail _ (.head _))))
  have c3 : (spx, osp) ∈ l₂ := hin _ (List.mem_append_left _ (List.mem_append_left _ (.tail _ (.tail _ (.head _)))))
  obtain ⟨n1, n2, n3, n4, n5, n6, n7, n8, n9, n10, n11, n12, n13, n14, n15, n16, n17, n18, n19, n20, n21⟩ := id hA
  have A' := ap7_of n1 n2 n3 n7 n8 n12 a1 a2 a3 O4 c1 c2 c3
  have sub2 : ∀ p ∈ P ++ l₃, p ∈ l₂ := fun p hp => hin p (by
    rw [List.append_assoc]; exact List.mem_append_right _ hp)
  have O5 : Off [x, dsx, spx] (P ++ l₃) := fun p hp e => by
    rcases List.mem_append.mp hp with hp | hp
    · exact O3 p hp e
    · exact h4 p hp (by rw [List.map_append]; exact List.mem_append_left _ e)
  refine TurnQ.nxt _ F N (fun p hp => ?_) (fun p hp e => ?_) (.inr ⟨_, List.mem_append_right _ (List.mem_append_right _ (h1 _ hS)), rfl, _, rfl⟩) (hJ l₃ h1 A' (off7_of (O4.sub sub2) O5) fun p hp e => h4 p hp (by rw [List.map_append]; exact List.mem_append_right _ e))
  · rcases List.mem_cons.mp hp with rfl | hp
    · exact List.mem_append_right _ (h2 _ (.head _))
    · simp only [List.cons_append, List.nil_append, List.mem_cons] at hp ⊢
      rcases hp with h | h | h | h | h | h | h | h
      · simp [h]
      · simp [h]
      · simp [h]
      · simp [h]
      · exact .inr (.inr (.inr (.inr (h ▸ c1))))
      · exact .inr (.inr (.inr (.inr (h ▸ c2))))
      · exact .inr (.inr (.inr (.inr (h ▸ c3))))
      · exact .inr (.inr (.inr (.inr (sub2 _ h))))
  · simp only [List.cons_append, List.nil_append, List.mem_cons] at hp
    simp only [List.mem_cons, List.not_mem_nil, or_false, not_or] at hI
    rcases hp with h | h | h | h | h | h | h | h
    · exact hI.1 (by rw [← e, h])
    · exact hI.2.1 (by rw [← e, h])
    · exact hI.2.2.1 (by rw [← e, h])
    · exact hI.2.2.2.1 (by rw [← e, h])
    · exact h3 _ (List.mem_append_left _ (List.mem_append_left _ (.head _))) (by rw [← e, h])
    · exact h3 _ (List.mem_append_left _ (List.mem_append_left _ (.tail _ (.head _)))) (by rw [← e, h])
    · exact h3 _ (List.mem_append_left _ (List.mem_append_left _ (.tail _ (.tail _ (.head _))))) (by rw [← e, h])
    · exact h3 p (by rw [List.append_assoc]; exact List.mem_append_right _ h) e

theorem ktab7 {z : Led} {knd : Obj → List (Str × Value) → Prop} {o : Obj} {D : List (Str × Value)} {v1 v2 : Value} (_ : knd o (stored (stored D (Str.ofString "cm") v1) (Str.ofString "Do") v2)) (hT : KTab z D S5) (h1 : KindTup z v1 [Tag.n, Tag.n, Tag.n, Tag.n, Tag.n, Tag.n]) (h2 : KindTup z v2 [Tag.m]) : KTab z (stored (stored D (Str.ofString "cm") v1) (Str.ofString "Do") v2) S7 :=
  (hT.store (by decide +kernel) h1).store (by decide +kernel) h2
theorem arrange {a b c d e x y v : Addr × Obj} {t l : Led} : ∀ p ∈ [a, b, c, d, x, y, v] ++ ([] ++ (e :: (t ++ l))), p ∈ a :: b :: c :: d :: e :: (t ++ ([x, y, v] ++ l)) := fun p hp => by
  simp only [List.cons_append, List.nil_append, List.mem_cons, List.mem_append] at hp ⊢
  rcases hp with h | h | h | h | h | h | h | h | h | h <;> simp [h]
theorem off3_grow {st ds sp kd : Addr} {dd osp okd : Obj} {t l : Led} (O : Off [st, ds, sp] l) (u : Up t (st3 st ds sp dd osp ++ l)) (K : Off [kd] (t ++ (st3 st ds sp dd osp ++ l))) : Off [st, ds, sp] ((kd, okd) :: (t ++ l)) := fun p hp e => by
  have key : ∀ q : Addr, q ∈ [st, ds, sp] → ∃ o, (q, o) ∈ st3 st ds sp dd osp := fun q hq => by
    simp only [List.mem_cons, List.not_mem_nil, or_false] at hq
    rcases hq with rfl | rfl | rfl
    · exact ⟨_, .head _⟩
    · exact ⟨_, .tail _ (.head _)⟩
    · exact ⟨_, .tail _ (.tail _ (.head _))⟩
  obtain ⟨o, ho⟩ := key _ e
  rcases List.mem_cons.mp hp with rfl | hp
  · exact K _ (List.mem_append_right _ (List.mem_append_left _ ho)) (.head _)
  · rcases List.mem_append.mp hp with hp | hp
    · exact u p hp _ (List.mem_append_left _ ho) rfl
    · exact O p hp e
theorem placed_in {w : World} {A : Around} {E : Value → Shared → Prop} {s : Shared} {h₀ : Heap} {L : Addr} {m : Str → Option Value} {wd : Wd} {t : Tok} {Q : Value → Shared → Prop} (F : Fr h₀ L s.heap m) (X : (hd.heap_39 w.params).In h₀) (h : Q (.bool wd.inside) s) :
    wpAny (model PySem.Challenge.rw_og0194_01.row.prog w) A (compareOp .In (.str wd.str t) (.ref 416)) Q E s := by
  have hl : (hd.heap_39 w.params).lookup 416 = some { cls := .type "tuple", data := .seq #[.str (Str.ofString "Td") 726, .str (Str.ofString "TD") 727, .str (Str.ofString "T*") 728, .str (Str.ofString "Tm") 729, .str (Str.ofString "Tj") 730, .str (Str.ofString "TJ") 731, .str (Str.ofString "'") 732, .str (Str.ofString "\"") 733, .str (Str.ofString "ET") 734] } := by kernel_rfl
  refine in_tuple_strs (ys := [Str.ofString "Td", Str.ofString "TD", Str.ofString "T*", Str.ofString "Tm", Str.ofString "Tj", Str.ofString "TJ", Str.ofString "'", Str.ofString "\"", Str.ofString "ET"]) ⟨_, F.keep _ _ (X _ _ hl), rfl, _, rfl⟩ (.cons _ _ (.cons _ _ (.cons _ _ (.cons _ _ (.cons _ _ (.cons _ _ (.cons _ _ (.cons _ _ (.cons _ _ .nil))))))))) ?_
  have e : ([Str.ofString "Td", Str.ofString "TD", Str.ofString "T*", Str.ofString "Tm", Str.ofString "Tj", Str.ofString "TJ", Str.ofString "'", Str.ofString "\"", Str.ofString "ET"].any fun y => y == wd.str) = wd.inside := by cases wd <;> decide +kernel
  rw [e]
  exact h
theorem spacing_in {w : World} {A : Around} {E : Value → Shared → Prop} {s : Shared} {h₀ : Heap} {L : Addr} {m : Str → Option Value} {wd : Wd} {t : Tok} {Q : Value → Shared → Prop} (F : Fr h₀ L s.heap m) (X : (hd.heap_39 w.params).In h₀) {b : Bool} (hb : decide (wd = .Tc) = b) (h : Q (.bool b) s) :
    wpAny (model PySem.Challenge.rw_og0194_01.row.prog w) A (compareOp .In (.str wd.str t) (.ref 417)) Q E s := by
  have hl : (hd.heap_39 w.params).lookup 417 = some { cls := .type "tuple", data := .seq #[.str (Str.ofString "Tc") 736, .str (Str.ofString "Tw") 737, .str (Str.ofString "Tz") 738, .str (Str.ofString "TL") 739, .str (Str.ofString "Ts") 740] } := by kernel_rfl
  refine in_tuple_strs (ys := [Str.ofString "Tc", Str.ofString "Tw", Str.ofString "Tz", Str.ofString "TL", Str.ofString "Ts"]) ⟨_, F.keep _ _ (X _ _ hl), rfl, _, rfl⟩ (.cons _ _ (.cons _ _ (.cons _ _ (.cons _ _ (.cons _ _ .nil))))) ?_
  have e : ([Str.ofString "Tc", Str.ofString "Tw", Str.ofString "Tz", Str.ofString "TL", Str.ofString "Ts"].any fun y => y == wd.str) = decide (wd = .Tc) := by cases wd <;> decide +kernel
  rw [e, hb]
  exact h
section
local macro_rules | `(tactic| walk_at "call ref") => `(tactic| (k_here; (with_reducible show wpAny _ _ (call (Value.ref _) _) _ _ _); (refine Stop.out ?_; walk_say "STOP")))
local macro_rules | `(tactic| kst_p) => `(tactic| (refine' KindTup.mono ?h9 ?s9; (case h9 => first | (refine kindTup_of (by with_reducible assumption) ?_; first | exact .nil | exact .cons _ _ .nil | exact .cons _ _ (.cons _ _ .nil) | exact .cons _ _ (.cons _ _ (.cons _ _ .nil))) | exact kindTup_six (by with_reducible assumption) | exact kindTup_two (by with_reducible assumption)); (case s9 => kt_eqs)))
local macro_rules | `(tactic| walk_at "newTuple") => `(tactic| (k_here; k_dflt (refine' newTup_M (M := [_]) ?F ?N ?hs ?O ?z ?_; (case F => k_asm); (case N => k_asm); (case hs => with_reducible assumption); (case O => (show Off [_] _); with_reducible assumption); (case z => exact Nat.le_of_ble_eq_true rfl)); intro D' l' z' h' F' N' G' hz' hl' O' hm'; (have hG' := Grow.of G'); (try simp only [List.cons_append, List.nil_append, List.map_cons, List.map_nil] at N' O')))
local macro_rules | `(tactic| walk_at "binaryOp Mult ref int") => `(tactic| (k_here; k_dflt (refine' mulTup_M (M := [_]) ?F ?N ?hs ?O ?l ?a ?b ?_; (case F => k_asm); (case N => k_asm); (case hs => with_reducible assumption); (case O => (show Off [_] _); with_reducible assumption); (case l => with_reducible assumption); (case a => decide); (case b => decide)); intro D' l' z' h' F' N' G' hz' hl' O' hm'; (have hG' := Grow.of G'); (try simp only [List.cons_append, List.nil_append, List.map_cons, List.map_nil] at N' O')))
local macro_rules | `(tactic| walk_at "setItem ref str") => `(tactic| (k_here; k_dflt (refine' kda_set (knd := PySem.strKind _ _) ?F ?N ?U ?d (strKind_is _ _ _ _) ?z ?_; (case F => k_asm); (case N => k_asm); (case U => k_updF); (case d => with_reducible assumption); (case z => first | (rw [sizeLine_eq]; omega) | (refine Nat.le_trans stored_le ?_; rw [sizeLine_eq]; omega))); intro h' o' F' N' hd'; (try dsimp only at N')))
local macro_rules | `(tactic| walk_at "exec For Name Attribute cons nil") => `(tactic| (k_here; refine Stop.out ?_; walk_say "STOP FOR"))
local macro_rules | `(tactic| walk_at "compareOp In str ref") => `(tactic| (k_here; (with_reducible show wpAny _ _ (compareOp CmpOp.In (Value.str (Wd.str _) _) _) _ _ _); refine Stop.out ?_; walk_say "STOP IN"))
local macro_rules | `(tactic| walk_at "compareOp In str ref") => `(tactic| (k_here; (with_reducible show wpAny _ _ (compareOp CmpOp.In (Value.str (if _ then _ else _) _) (Value.ref _)) _ _ _); k_dflt (refine' kda_in (knd := PySem.strKind _ _) ?N ?p ?d ?lo (strKind_is _ _ _ _) false ?b ?_; (case N => k_asm); (case p => with_reducible exact List.mem_cons_of_mem _ (List.mem_cons_of_mem _ (List.mem_cons_of_mem _ (List.mem_cons_of_mem _ (List.mem_cons_of_mem _ (List.mem_cons_of_mem _ (List.mem_cons_of_mem _ (by with_reducible assumption)))))))); (case d => with_reducible assumption); (case lo => with_reducible assumption); (case b => exact rfl))))
local macro_rules | `(tactic| walk_at "TurnQ") => `(tactic| (k_here; refine Stop.out ?_; walk_say "STOP TURN"))
local macro_rules | `(tactic| walk_at "call ref") => `(tactic| (k_here; (with_reducible show wpAny _ _ (call (Value.ref 185) _) _ _ _); k_dflt ((refine' Fn.useM (M := [_, _, _, _, _, _, _]) ?N ?hs (decOf_ok (sub_on ?hs) ?h1) ?B ?F ?X ?T ?kK ?kd ?ku ?O ?_); (case N => k_asm); (case hs => with_reducible assumption); kaf_suf; (case h1 => kwd_rel); rintro r' l' z' h' tk' F' N' G' hz' hl' O' D'; (have hG' := Grow.of G')); (try simp only [List.cons_append, List.nil_append, List.map_cons, List.map_nil] at N' O'); (obtain ⟨x', er'⟩ := IsD.isRef D'); subst er'; (try dsimp only); (try k_fold)))
local macro_rules | `(tactic| walk_at "setItem ref str") => `(tactic| (k_here; k_dflt (refine' sp_set ?F ?N ?U ?d ?e ?_; (case F => k_asm); (case N => k_asm); (case U => k_updF); (case d => with_reducible assumption); (case e => exact rfl)); intro h' o' tk' F' N' hd'; (try dsimp only at N')))
local macro_rules | `(tactic| walk_at "ForSrc") => `(tactic| (k_here; refine Stop.out ?_; walk_say "STOP SRC"))
theorem sheet_ok {w : World} {mean : ExcName → Option Value} {mg mb : Str → Option Value} {l z : Led} {sheet f : Value} {rows : List (Wd × List OpV)} {st ds sp : Addr} {dd osp : Obj} {ctm size : Value} (hs : ∀ p ∈ z, p ∈ l) (hsh : SheetAt w z sheet f rows)
    (O : Off [st, ds, sp] l) (a1 : @Ne Nat st ds) (a2 : @Ne Nat st sp) (a3 : @Ne Nat ds sp) (hD : StD dd ctm .none size sp) (hst : StOk w f z sp osp ctm .none size false 2) :
    FT w mean mg mb 613 150 [sheet, .ref st] (st3 st ds sp dd osp ++ l) z (fun r l' => ∃ n fd arr e, due ⟨false, false, [], 0⟩ rows = .inl n ∧ r = .ref fd ∧ (fd, W.listOf arr e) ∈ l' ∧ arr.size = n ∧ n ≤ 100 ∧ ∀ p ∈ z, p ∈ l') (fun C => ∃ ft, due ⟨false, false, [], 0⟩ rows = .inr ft ∧ C = ft.cls) := by
  unfold FT
  k_fill
  intro dp un gd cn cs aa ccd cl outer A₀ base h₀ L m s Q E B F X N T hk hdd hu hret hthr
  have hsS := hsh.sheet
  cases hsh with
  | @mk x dx opl fo fm own hsh0 hsh1 hsh2 hsh3 ksh0 ksh1 ksh2 ksh3 f ofo ofm oarr eo rows hx hdx hfo hDf lo hff hfm hDm lom hol hr hn hown =>
  obtain ⟨hst0, hst1, hst2, hst3, kst0, kst1, kst2, kst3, rfl⟩ := hD
  kqd_sub
  refine Stop.in ?_
  refine' Fn.use (kinds_ok (z := z) ?hs) ?B ?F ?X ?N ?T ?kK ?kd ?ku ?_
  kaf_pre
  case hs => exact fun p hp => List.mem_append_right _ (hs p hp)
  rintro r1 l1 h1 tk1 F1 N1 ⟨kd, rfl, okd, D, l2, z2, hlo, rfl, G2, O2, hDk, hDl, hTab⟩
  have hD20 : D.length ≤ 100 := Nat.le_trans hDl (by decide)
  have hzz := G2.zz
  have hzl := G2.zl (fun p hp => List.mem_append_right _ (hs p hp))
  have hG' := Grow.of G2
  (try dsimp only); (try k_fold)
  k_steps
  refine Stop.in ?_
  (refine' Fn.useC (M := [_]) ?N ?hs ?O (walkNew_ok (sub_on ?hs)) ?B ?F ?X ?T ?kK ?kd ?ku ?_); (case N => k_asm); (case hs => with_reducible assumption); (case O => (show Off [_] _; with_reducible assumption)); kt_ors
  rintro r3 C3 l3 z3 h3 tk3 F3 N3 G3 hzz3 hzl3 O3 P3 ⟨tour, dt, pl, fd, hd, rfl, rfl, hw, m1, m2, m3, m4, m5, m6⟩
  obtain ⟨q1, q2, q3, q4, q5, q6, p1, p2, p3, p4, p5, p6, rfl⟩ := hw
  have GA := Ex.trans (l := st3 st ds sp _ osp ++ l) (z := z) (by ktu_off1L) G3
  rename (Obj.IsDictOf _ _ _) => hDk2
  have KT7 := ktab7 hDk2 (hTab.mono (z' := z3) (by kt_eqs)) (by kst_p) (by kst_p)
  obtain ⟨t, rfl, rfl, u⟩ := GA
  have OK : Off [kd] (t ++ (st3 st ds sp _ osp ++ l)) := O3
  rename Obj => okd2
  have O7 : Off [st, ds, sp] ((kd, okd2) :: (t ++ l)) := off3_grow O u OK
  have P4 : Off [tour, dt, pl, fd] ((kd, okd2) :: (t ++ (st3 st ds sp _ osp ++ l))) := P3
  have hA := ap7_of m1 m2 m3 m4 m5 m6 a1 a2 a3 P4 (.tail _ (List.mem_append_right _ (List.mem_append_left _ (.head _)))) (.tail _ (List.mem_append_right _ (List.mem_append_left _ (.tail _ (.head _))))) (.tail _ (List.mem_append_right _ (List.mem_append_left _ (.tail _ (.tail _ (.head _))))))
  have O8 : Off [tour, dt, pl, fd, st, ds, sp] ((kd, okd2) :: (t ++ l)) := off7_of (P4.sub fun p hp => by
    rcases List.mem_cons.mp hp with rfl | hp
    · exact .head _
    · exact .tail _ ((List.mem_append.mp hp).elim (List.mem_append_left _) fun h => List.mem_append_right _ (List.mem_append_right _ h))) O7
  have N9 := News.sub N3 arrange
  have hzL : ∀ p ∈ (kd, okd2) :: (t ++ z), p ∈ (kd, okd2) :: (t ++ l) := fun p hp => by
    rcases List.mem_cons.mp hp with rfl | hp
    · exact .head _
    · exact .tail _ ((List.mem_append.mp hp).elim (List.mem_append_left _) fun h => List.mem_append_right _ (hs _ h))
  have hzL0 : ∀ p ∈ z, p ∈ (kd, okd2) :: (t ++ z) := fun p hp => .tail _ (List.mem_append_right _ hp)
  have KT8 := KT7.mono (z' := (kd, okd2) :: (t ++ z)) fun p hp => .tail _ hp
  clear N3 O3 P3 G3 hzl3 hzz3 KT7 OK P4
  generalize hzLe : (kd, okd2) :: (t ++ z) = zL at hzL hzL0 KT8
  generalize hlLe : (kd, okd2) :: (t ++ l) = lL at hzL O8 O7 N9
  have hkdL : (kd, okd2) ∈ zL := by rw [← hzLe]; exact .head _
  simp only [List.cons_append, List.nil_append] at N9
  have hxl := hzL _ (hzL0 _ hx)
  have hdxl := hzL _ (hzL0 _ hdx)
  (try dsimp only); (try k_fold)
  k_steps
  refine Stop.in ?_
  refine For_led (by k_asm) (fun _ _ _ _ _ a b => go_name a b) ?_
  k_steps
  refine Stop.in ?_
  refine ForSrc.of (fun m₀ news₀ i m' news' => (∃ q, m' = gl m₀ [Str.ofString "operation", Str.ofString "word"] (Str.ofString "tour") (.ref tour) q) ∧ ∃ V z₁, due ⟨false, false, [], 0⟩ rows = due V (rows.drop i) ∧ (∀ p ∈ zL, p ∈ z₁) ∧ TourAt w f (.ref x) tour dt pl fd q1 q2 q3 q4 q5 q6 p1 p2 p3 p4 p5 p6 V i z₁ news') rfl (by k_asm) (by k_asm) (.inr ⟨_, by k_mem, rfl, _, rfl⟩) ?_ ?_ ?_
  · exact ⟨⟨_, gl_self _ _ rfl⟩, _, zL, rfl, fun _ h => h, TourAt.mk (P := []) (l := lL) hA O8 Off.nil hzL (hst.mono hzL0) .off rfl (Nat.zero_le _) .nil (Nat.zero_le _)⟩
  · rintro i v I oI m₁ news₁ h1 tk1 hi hv ⟨⟨q, rfl⟩, V, z₁, hdue, hzz, hT⟩ F1 N1 off S
    obtain ⟨wd, os, hrow, hop, hos⟩ := hr.at i v (by rw [← Array.getElem?_toList] at hv; exact hv)
    have hdue2 := hdue.trans (due_at hrow)
    have hi8 : i < 8 := by
      have := hr.len
      rw [Array.length_toList] at this
      omega
    have hop1 := (hop.mono hzL0).mono hzz
    clear hop
    cases hT with
    | @mk st2 ds2 sp2 g0 g1 g2 g3 e0 e1 e2 e3 row place ctm2 font2 size2 parr farr pn fn osp2 P l₁ hA2 O2 OP hz2 hst2 hpl2 hc2 hcn2 hP2 hpn2 =>
    have hzl1 : ∀ p ∈ z₁, p ∈ (I, oI) :: (P ++ l₁) := fun p hp => .tail _ (List.mem_append_right _ (hz2 p hp))
    have N2 := News.turn N1
    have O3 : Off [tour, dt, pl, fd, st2, ds2, sp2] ((I, oI) :: (P ++ l₁)) := off_in off O2
    have hI : I ∉ [tour, dt, pl, fd, st2, ds2, sp2] := inM off
    have offI := off_app off
    clear N1
    generalize hlI : (I, oI) :: (P ++ l₁) = lI at N2 O3 hzl1
    simp only [List.cons_append, List.nil_append] at N2
    have hop2 := hop1
    cases hop2 with
    | mk hxo hdo hlo2 hops =>
    have hxo1 := hzl1 _ hxo
    have hdo1 := hzl1 _ hdo
    have hkd1 := hzl1 _ (hzz _ hkdL)
    have KT9 := KT8.mono hzz
    by_cases hb : kindsBad wd os = true
    · k_steps
      refine Stop.in ?_
      refine' Th.use (check_wrong (z := z₁) ?hs hop1 ?hkd hDk2 ?hlo KT9 hb hos) ?B ?F ?X ?N ?T ?kK ?kd ?ku ?_
      kaf_pre
      case hs => kpt_turns
      case hkd => k_mem
      case hlo => with_reducible assumption
      intro e t vs g2 h2 tk2 F2 U2 R2
      refine leave_onS (by k_asm) F2 R2 U2 ?_
      exact fun h3 R3 _ U3 => hthr _ ⟨.paint, hdue2.trans (by unfold faultOf; rw [if_pos hb]), rfl⟩ _ _ _ _ _ _ (by with_reducible assumption) U3 (RaisedS.sub R3 fun p hp => hzz p (hzL0 p hp))
    · k_steps
      refine Stop.in ?_
      have hb' : kindsBad wd os = false := by simpa using hb
      (refine' Fn.useM (M := [_, _, _, _, _, _, _]) ?N ?hs (check_fine (z := z₁) (sub_on ?hs) hop1 ?hkd hDk2 ?hlo KT9 hb') ?B ?F ?X ?T ?kK ?kd ?ku ?O ?_); (case N => k_asm); (case hs => with_reducible assumption); (case B => k_asm); (case F => k_asm); (case X => k_asm); (case T => k_asm); (case kK => exact rfl); (case kd => ktr_room); (case ku => kas_types); (case O => (show Off [_, _, _, _, _, _, _] _; with_reducible assumption))
      case hkd => k_mem
      case hlo => with_reducible assumption
      rintro r4 l4 z4 h4 tk4 F4 N4 G4 hzz4 hzl4 O4 hr4
      have hr4 : r4 = .none := hr4
      subst hr4
      have hG4 := Grow.of G4
      simp only [List.cons_append, List.nil_append] at N4
      (try dsimp only); (try k_fold)
      k_steps
      refine Stop.in ?_
      refine placed_in (by k_asm) (by k_asm) ?_
      by_cases hin : wd.inside = true
      · rw [hin]
        (try dsimp only); (try k_fold)
        k_steps
        refine Stop.in ?_
        have O4' : Off [tour, dt, pl, fd, st2, ds2, sp2] l4 := O4
        have hzz5 : ∀ p ∈ z, p ∈ z4 := fun p hp => hzz4 p (hzz p (hzL0 p hp))
        refine' FT.use (fp_all (z := z4) (V := V) (wd := wd) (os := os) (n := 60 * i + 2) (nc := 4 * i + 2) hzl4 hA2 O4' (hff.mono hzz5) (hst2.mono hzz4) (hpl2.mono hzz4) hc2 (hzz4 _ hlo2) (by omega) (by omega) (hops.mono hzz4) hin (inside_kinds hin hb')) ?B ?F ?X ?N ?T ?kK ?kd ?ku ?ret ?thr
        kaf_pre
        case thr =>
          intro C ⟨ft, hft, hC⟩ e t vs g2 h2 tk2 F2 U2 R2
          refine leave_onS (by k_asm) F2 R2 U2 ?_
          exact fun h3 R3 _ U3 => hthr _ ⟨ft, hdue2.trans (by rw [hft]), hC⟩ _ _ _ _ _ _ (by with_reducible assumption) U3 (RaisedS.sub R3 hzz5)
        case ret =>
          rintro r5 l5 h5 tk5 F5 N5 ⟨M5, l6, z6, rfl, G5, O5, hfo, rfl, row', place', farr', fn', osp', rfl, pl5, st5, c5⟩
          (try dsimp only); (try k_fold)
          k_steps
          refine Stop.in ?_
          subst hlI
          refine turn_done (C := []) (M := [_, _, _, _, _, _, _]) (by k_asm) (by k_asm) (Ex.trans G4 G5) hz2 offI OP hI rfl O5 Off.nil (G5.zz _ (hzz4 _ (hzz _ (hzL0 _ hol)))) fun l₃ q1 q2 q3 q4 => ?_
          refine ⟨gl_of _ _ rfl (by keq_hits), nextOf V wd os, z6, hdue2.trans (by rw [hfo]), fun p hp => G5.zz p (hzz4 p (hzz p hp)), TourAt.mk hA2 q2 q3 q1 ?_ ?_ c5 (count_le hops hcn2) ?_ ?_⟩
          · rw [inside_font hin]; exact st5.more (by omega)
          · exact pl5.more (by omega)
          · rw [inside_pile hin]; exact hP2.mono (fun p hp => G5.zz p (hzz4 p hp)) (by omega)
          · rw [inside_pile hin]; omega
      · have hin' : wd.inside = false := by simpa using hin
        rw [hin']
        (try dsimp only); (try k_fold)
        k_steps
        refine Stop.in ?_
        have O4' : Off [tour, dt, pl, fd, st2, ds2, sp2] l4 := O4
        have hzz5 : ∀ p ∈ z, p ∈ z4 := fun p hp => hzz4 p (hzz p (hzL0 p hp))
        have hol9 : (opl, W.listOf oarr eo) ∈ z4 := hzz5 _ hol
        have hop9 := hops.mono hzz4
        have hol4 := hzz4 _ hlo2
        have hcn9 := count_le (wd := wd) hops hcn2
        have hpz : parr.size ≤ 100 := by
          have := hP2.len
          rw [List.length_reverse, Array.length_toList] at this
          omega
        have hkd9 : wd.kinds = none ∨ wd.kinds = some (os.map OpV.tag) := by
          unfold kindsBad at hb'
          cases hk : wd.kinds with
          | none => exact .inl rfl
          | some tgs =>
            rw [hk] at hb'
            simp only [Bool.not_eq_false', decide_eq_true_eq] at hb'
            exact .inr (by rw [hb'])
        cases wd
        all_goals first | (exact absurd hin' (by decide)) | skip
        case q =>
          refine spacing_in (b := false) (by k_asm) (by k_asm) rfl ?_
          generalize hword : Wd.str .q = word at *
          have hw9 : word = Str.ofString "q" := hword.symm
          clear hword
          subst hw9
          (try dsimp only); (try k_fold)
          k_steps
          refine Stop.in ?_
          refine' Fn.use (fs_q (z := z4) hzl4 hA2 O4' (hff.mono hzz5) (hst2.mono hzz4) hpz) ?B ?F ?X ?N ?T ?kK ?kd ?ku ?_
          kaf_pre
          rintro r5 l5 h5 tk5 F5 N5 ⟨x5, ds5, sp5, osp5, dd5, pn5, l6, z6, rfl, rfl, G5, O5, OC5, b1, b2, b3, hD5, hS5⟩
          (try dsimp only); (try k_fold)
          k_steps
          refine Stop.in ?_
          have hfo : faultOf V .q os = none := by unfold faultOf; rw [hb']; rfl
          subst hlI
          refine turn_done (C := st3 x5 ds5 sp5 dd5 osp5) (by k_asm) (by k_asm) (Ex.trans G4 G5) hz2 offI OP hI rfl O5 OC5 (G5.zz _ hol9) fun l₃ q1 q2 q3 q4 => ?_
          refine ⟨gl_of _ _ rfl (by keq_hits), nextOf V .q os, z6, hdue2.trans (by rw [hfo]), fun p hp => G5.zz p (hzz4 p (hzz p hp)), TourAt.mk hA2 q2 q3 q1 ((hst2.mono (fun p hp => G5.zz p (hzz4 p hp))).more (by omega)) ((hpl2.mono (fun p hp => G5.zz p (hzz4 p hp))).more (by omega)) hc2 hcn9 ?_ (Nat.succ_le_succ hpn2)⟩
          rw [Array.toList_push, List.reverse_append]
          exact .cons b1 b2 b3 hD5 (hS5.more (by omega)) q4 (hP2.mono (fun p hp => G5.zz p (hzz4 p hp)) (by omega))
        case Q =>
          refine spacing_in (b := false) (by k_asm) (by k_asm) rfl ?_
          generalize hword : Wd.str .Q = word at *
          have hw9 : word = Str.ofString "Q" := hword.symm
          clear hword
          subst hw9
          (try dsimp only); (try k_fold)
          k_steps
          refine Stop.in ?_
          generalize hpv : parr.toList.reverse = pv at hP2
          generalize hpb : V.pile = bs at hP2
          have hpl9 := hP2.len
          cases hP2 with
          | nil =>
            have hp0 : parr.size = 0 := by
              have := congrArg List.length hpv
              rw [List.length_reverse, Array.length_toList] at this
              exact this
            refine' Th.use (fs_Q_bad (z := z4) hzl4 hp0) ?B ?F ?X ?N ?T ?kK ?kd ?ku ?_
            kaf_pre
            intro e t vs g2 h2 tk2 F2 U2 R2
            refine leave_onS (by k_asm) F2 R2 U2 ?_
            exact fun h3 R3 _ U3 => hthr _ ⟨.paint, hdue2.trans (by rw [show faultOf V .Q os = some .paint from by unfold faultOf; rw [hb', hpb]; rfl]), rfl⟩ _ _ _ _ _ _ (by with_reducible assumption) U3 (RaisedS.sub R3 hzz5)
          | @cons x5 ds5 sp5 dd5 osp5 ctm5 font5 size5 b5 P5 vs5 bs5 _ b1 b2 b3 hD5 hS5 q4 hP5 =>
            have hlast : PySem.W.kl_last parr.toList = some (vs5.reverse, .ref x5) := by
              have e := congrArg List.reverse hpv
              rw [List.reverse_reverse, List.reverse_cons] at e
              rw [e]
              exact kpa_last _ _
            have hp0 : 0 < parr.size := by
              have := congrArg List.length hpv
              rw [List.length_reverse, Array.length_toList] at this
              rw [this]
              exact Nat.succ_pos _
            refine' Fn.use (fs_Q (z := z4) hzl4 hA2 O4' hpz hp0 hlast) ?B ?F ?X ?N ?T ?kK ?kd ?ku ?_
            kaf_pre
            rintro r5 l5 h5 tk5 F5 N5 ⟨pn5, rfl, rfl⟩
            (try dsimp only); (try k_fold)
            k_steps
            refine Stop.in ?_
            have hfo : faultOf V .Q os = none := by unfold faultOf; rw [hb', hpb]; rfl
            have hpn5 : bs5.length + 1 ≤ i := by rw [hpb] at hpn2; exact hpn2
            subst hlI
            obtain ⟨hst0, hst1, hst2', hst3, kst0, kst1, kst2, kst3, rfl⟩ := hD5
            refine turn_pop (by k_asm) (by k_asm) G4 hz2 offI OP b1 b2 b3 q4 hI hA2 O4' hol9 fun l₃ q1 A' q2 q3 => ?_
            refine ⟨gl_of _ _ rfl (by keq_hits), nextOf V .Q os, z4, hdue2.trans (by rw [hfo]), fun p hp => hzz4 p (hzz p hp), TourAt.mk A' q2 q3 q1 ?_ ((hpl2.mono hzz4).more (by omega)) hc2 hcn9 ?_ ?_⟩
            · show StOk w f z4 sp5 osp5 ctm5 font5 size5 (V.pile.headD false) _
              rw [hpb]
              exact (hS5.mono hzz4).more (by omega)
            · show Pile w f z4 P5 _ V.pile.tail _
              rw [hpb, List.reverse_reverse]
              exact hP5.mono hzz4 (by omega)
            · show V.pile.tail.length ≤ _
              rw [hpb]
              exact Nat.le_trans (Nat.le_of_succ_le hpn5) (Nat.le_succ _)
        case cm =>
          refine spacing_in (b := false) (by k_asm) (by k_asm) rfl ?_
          generalize hword : Wd.str .cm = word at *
          have hw9 : word = Str.ofString "cm" := hword.symm
          clear hword
          subst hw9
          obtain ⟨r1, rfl, e1⟩ := tags_n (Option.some.inj (hkd9.resolve_left (by decide))).symm
          obtain ⟨r2, rfl, e2⟩ := tags_n e1
          obtain ⟨r3, rfl, e3⟩ := tags_n e2
          obtain ⟨r4, rfl, e4⟩ := tags_n e3
          obtain ⟨r5, rfl, e5⟩ := tags_n e4
          obtain ⟨r6, rfl, e6⟩ := tags_n e5
          obtain rfl := tags_nil e6
          (try dsimp only); (try k_fold)
          k_steps
          refine Stop.in ?_
          have hm2 : IsM z4 ctm2 (4 * i + 2) := by cases hst2.mono hzz4; assumption
          refine' Fn.use (fs_cm (z := z4) hzl4 hA2 O4' hm2 (by omega) hol4 hop9) ?B ?F ?X ?N ?T ?kK ?kd ?ku ?_
          kaf_pre
          rintro r5 l5 h5 tk5 F5 N5 ⟨M5, l6, z6, rfl, G5, O5, rfl, ctm5, rfl, hm5⟩
          (try dsimp only); (try k_fold)
          k_steps
          refine Stop.in ?_
          have hfo : faultOf V .cm [.n, .n, .n, .n, .n, .n] = none := by unfold faultOf; rw [hb']; rfl
          subst hlI
          refine turn_done (C := []) (M := [_, _, _, _, _, _, _]) (by k_asm) (by k_asm) (Ex.trans G4 G5) hz2 offI OP hI rfl O5 Off.nil (G5.zz _ hol9) fun l₃ q1 q2 q3 q4 => ?_
          refine ⟨gl_of _ _ rfl (by keq_hits), nextOf V .cm [.n, .n, .n, .n, .n, .n], _, hdue2.trans (by rw [hfo]), fun p hp => (fun p hp => G5.zz p (hzz4 p hp)) p (hzz p hp), TourAt.mk hA2 q2 q3 q1 ((hst2.mono (fun p hp => G5.zz p (hzz4 p hp))).setM (hm5.more (by omega))) ((hpl2.mono (fun p hp => G5.zz p (hzz4 p hp))).more (by omega)) hc2 hcn9 (hP2.mono (fun p hp => G5.zz p (hzz4 p hp)) (by omega)) (Nat.le_succ_of_le hpn2)⟩
        case BT =>
          refine spacing_in (b := false) (by k_asm) (by k_asm) rfl ?_
          generalize hword : Wd.str .BT = word at *
          have hw9 : word = Str.ofString "BT" := hword.symm
          clear hword
          subst hw9
          (try dsimp only); (try k_fold)
          k_steps
          refine Stop.in ?_
          cases hop : V.op with
          | true =>
            rw [hop] at hpl2
            refine' Th.use (fs_BT_bad (z := z4) hzl4 (hpl2.elim.2.mono hzz4)) ?B ?F ?X ?N ?T ?kK ?kd ?ku ?_
            kaf_pre
            intro e t vs g2 h2 tk2 F2 U2 R2
            refine leave_onS (by k_asm) F2 R2 U2 ?_
            exact fun h3 R3 _ U3 => hthr _ ⟨.paint, hdue2.trans (by rw [show faultOf V .BT os = some .paint from by unfold faultOf; rw [hb', hop]; rfl]), rfl⟩ _ _ _ _ _ _ (by with_reducible assumption) U3 (RaisedS.sub R3 hzz5)
          | false =>
          rw [hop] at hpl2
          obtain rfl := hpl2.none_of
          refine' Fn.use (fs_BT (place := .none) (z := z4) hzl4 hA2 O4') ?B ?F ?X ?N ?T ?kK ?kd ?ku ?_
          kaf_pre
          rintro r5 l5 h5 tk5 F5 N5 ⟨M5, l6, z6, rfl, G5, O5, rfl, row5, rfl, hm5⟩
          (try dsimp only); (try k_fold)
          k_steps
          refine Stop.in ?_
          have hfo : faultOf V .BT os = none := by unfold faultOf; rw [hb']; rw [hop]; rfl
          subst hlI
          refine turn_done (C := []) (M := [_, _, _, _, _, _, _]) (by k_asm) (by k_asm) (Ex.trans G4 G5) hz2 offI OP hI rfl O5 Off.nil (G5.zz _ hol9) fun l₃ q1 q2 q3 q4 => ?_
          refine ⟨gl_of _ _ rfl (by keq_hits), nextOf V .BT os, _, hdue2.trans (by rw [hfo]), fun p hp => (fun p hp => G5.zz p (hzz4 p hp)) p (hzz p hp), TourAt.mk hA2 q2 q3 q1 ((hst2.mono (fun p hp => G5.zz p (hzz4 p hp))).more (by omega)) (.on (hm5.more (by omega)) (hm5.more (by omega))) hc2 hcn9 (hP2.mono (fun p hp => G5.zz p (hzz4 p hp)) (by omega)) (Nat.le_succ_of_le hpn2)⟩
        case Tf =>
          refine spacing_in (b := false) (by k_asm) (by k_asm) rfl ?_
          generalize hword : Wd.str .Tf = word at *
          have hw9 : word = Str.ofString "Tf" := hword.symm
          clear hword
          subst hw9
          obtain ⟨b9, r1, rfl, e1⟩ := tags_m (Option.some.inj (hkd9.resolve_left (by decide))).symm
          obtain ⟨r2, rfl, e2⟩ := tags_n e1
          obtain rfl := tags_nil e2
          obtain ⟨v1, v2, rfl, w1, w2⟩ := hop9.two_of
          (try dsimp only); (try k_fold)
          k_steps
          refine Stop.in ?_
          cases b9 with
          | false =>
            refine' Th.use (choose_bad (z := z4) hzl4 hA2 O4' (hsS.mono hzz5) hol4 w1.nam_of) ?B ?F ?X ?N ?T ?kK ?kd ?ku ?_
            kaf_pre
            intro e t vs g2 h2 tk2 F2 U2 R2
            refine leave_onS (by k_asm) F2 R2 U2 ?_
            exact fun h3 R3 _ U3 => hthr _ ⟨.font, hdue2.trans (by rw [show faultOf V .Tf _ = some .font from by unfold faultOf; rw [hb']; rfl]), rfl⟩ _ _ _ _ _ _ (by with_reducible assumption) U3 (RaisedS.sub R3 hzz5)
          | true =>
          refine' Fn.use (choose_ok (z := z4) hzl4 hA2 O4' (hsS.mono hzz5) hol4 w1.nam_of w2.num_of) ?B ?F ?X ?N ?T ?kK ?kd ?ku ?_
          kaf_pre
          rintro r5 l5 h5 tk5 F5 N5 ⟨M5, l6, z6, rfl, G5, O5, rfl, size5, rfl, hd5⟩
          (try dsimp only); (try k_fold)
          k_steps
          refine Stop.in ?_
          have hfo : faultOf V .Tf [.m true, .n] = none := by unfold faultOf; rw [hb']; rfl
          subst hlI
          refine turn_done (C := []) (M := [_, _, _, _, _, _, _]) (by k_asm) (by k_asm) (Ex.trans G4 G5) hz2 offI OP hI rfl O5 Off.nil (G5.zz _ hol9) fun l₃ q1 q2 q3 q4 => ?_
          refine ⟨gl_of _ _ rfl (by keq_hits), nextOf V .Tf [.m true, .n], _, hdue2.trans (by rw [hfo]), fun p hp => (fun p hp => G5.zz p (hzz4 p hp)) p (hzz p hp), TourAt.mk hA2 q2 q3 q1 (((hst2.mono (fun p hp => G5.zz p (hzz4 p hp))).more (by omega)).setF hd5) ((hpl2.mono (fun p hp => G5.zz p (hzz4 p hp))).more (by omega)) hc2 hcn9 (hP2.mono (fun p hp => G5.zz p (hzz4 p hp)) (by omega)) (Nat.le_succ_of_le hpn2)⟩
        case Tc =>
          refine spacing_in (b := true) (by k_asm) (by k_asm) rfl ?_
          generalize hword : Wd.str .Tc = word at *
          have hw9 : word = Str.ofString "Tc" := hword.symm
          clear hword
          subst hw9
          obtain ⟨r1, rfl, e1⟩ := tags_n (Option.some.inj (hkd9.resolve_left (by decide))).symm
          obtain rfl := tags_nil e1
          obtain ⟨v1, rfl, w1⟩ := hop9.one_of
          have w2 := w1.num_of
          have hol5 := hzl4 _ hol4
          have hst9 := hst2.mono hzz4
          obtain ⟨n1, n2, n3, n4, n5, n6, n7, n8, n9, n10, n11, n12, n13, n14, n15, n16, n17, n18, n19, n20, n21⟩ := id hA2
          cases hst9 with
          | mk slo sho sh1 sh2 sh3 sh4 sh5 shs shc shf =>
          (try dsimp only); (try k_fold)
          k_steps
          refine Stop.in ?_
          rename Led => z6
          rename (Ex _ _ _ z6) => G5
          rename Off [tour, dt, pl, fd, st2, ds2, sp2] _ => O6
          have hfo : faultOf V .Tc [.n] = none := by unfold faultOf; rw [hb']; rfl
          subst hlI
          refine turn_done (C := []) (M := [_, _, _, _, _, _, _]) (by k_asm) (by k_asm) (Ex.trans G4 G5) hz2 offI OP hI rfl O6 Off.nil (G5.zz _ hol9) fun l₃ q1 q2 q3 q4 => ?_
          refine ⟨gl_of _ _ rfl (by keq_hits), nextOf V .Tc [.n], z6, hdue2.trans (by rw [hfo]), fun p hp => G5.zz p (hzz4 p (hzz p hp)), TourAt.mk hA2 q2 q3 q1 (.mk slo (by with_reducible assumption) ?_ ?_ ?_ ?_ ?_ ?_ ?_ shf) ((hpl2.mono (fun p hp => G5.zz p (hzz4 p hp))).more (by omega)) hc2 hcn9 (hP2.mono (fun p hp => G5.zz p (hzz4 p hp)) (by omega)) (Nat.le_succ_of_le hpn2)⟩
          all_goals first | kwd_rel | kfm_turns
        case Do =>
          refine spacing_in (b := false) (by k_asm) (by k_asm) rfl ?_
          generalize hword : Wd.str .Do = word at *
          have hw9 : word = Str.ofString "Do" := hword.symm
          clear hword
          subst hw9
          obtain ⟨b9, r1, rfl, e1⟩ := tags_m (Option.some.inj (hkd9.resolve_left (by decide))).symm
          obtain rfl := tags_nil e1
          obtain ⟨v1, rfl, w1⟩ := hop9.one_of
          have w2 := w1.nam_of
          have hol5 := hzl4 _ hol4
          have hfm5 := hzl4 _ (hzz5 _ hfm)
          cases w2 with
          | mk hnx hndx =>
          have hnx5 := hzl4 _ hnx
          have hndx5 := hzl4 _ hndx
          (try dsimp only); (try k_fold)
          k_steps
          refine Stop.in ?_
          refine' Fn.use (fs_Do) ?B ?F ?X ?N ?T ?kK ?kd ?ku ?_
          kaf_pre
          rintro r5 l5 h5 tk5 F5 N5 ⟨rfl, rfl⟩
          (try dsimp only); (try k_fold)
          k_steps
          refine Stop.in ?_
          have hfo : faultOf V .Do [.m b9] = none := by unfold faultOf; rw [hb']; rfl
          subst hlI
          refine turn_done (C := []) (M := [_, _, _, _, _, _, _]) (by k_asm) (by k_asm) G4 hz2 offI OP hI rfl O4' Off.nil hol9 fun l₃ q1 q2 q3 q4 => ?_
          refine ⟨gl_of _ _ rfl (by keq_hits), nextOf V .Do [.m b9], _, hdue2.trans (by rw [hfo]), fun p hp => hzz4 p (hzz p hp), TourAt.mk hA2 q2 q3 q1 ((hst2.mono hzz4).more (by omega)) ((hpl2.mono hzz4).more (by omega)) hc2 hcn9 (hP2.mono hzz4 (by omega)) (Nat.le_succ_of_le hpn2)⟩
        case Tr =>
          refine spacing_in (b := false) (by k_asm) (by k_asm) rfl ?_
          generalize hword : Wd.str .Tr = word at *
          have hw9 : word = Str.ofString "Tr" := hword.symm
          clear hword
          subst hw9
          (try dsimp only); (try k_fold)
          k_steps
          refine Stop.in ?_
          refine' Fn.use (fs_Tr) ?B ?F ?X ?N ?T ?kK ?kd ?ku ?_
          kaf_pre
          rintro r5 l5 h5 tk5 F5 N5 ⟨rfl, rfl⟩
          (try dsimp only); (try k_fold)
          k_steps
          refine Stop.in ?_
          have hfo : faultOf V .Tr os = none := by unfold faultOf; rw [hb']; rfl
          subst hlI
          refine turn_done (C := []) (M := [_, _, _, _, _, _, _]) (by k_asm) (by k_asm) G4 hz2 offI OP hI rfl O4' Off.nil hol9 fun l₃ q1 q2 q3 q4 => ?_
          refine ⟨gl_of _ _ rfl (by keq_hits), nextOf V .Tr os, _, hdue2.trans (by rw [hfo]), fun p hp => hzz4 p (hzz p hp), TourAt.mk hA2 q2 q3 q1 ((hst2.mono hzz4).more (by omega)) ((hpl2.mono hzz4).more (by omega)) hc2 hcn9 (hP2.mono hzz4 (by omega)) (Nat.le_succ_of_le hpn2)⟩
        case re =>
          refine spacing_in (b := false) (by k_asm) (by k_asm) rfl ?_
          generalize hword : Wd.str .re = word at *
          have hw9 : word = Str.ofString "re" := hword.symm
          clear hword
          subst hw9
          (try dsimp only); (try k_fold)
          k_steps
          refine Stop.in ?_
          refine' Fn.use (fs_re) ?B ?F ?X ?N ?T ?kK ?kd ?ku ?_
          kaf_pre
          rintro r5 l5 h5 tk5 F5 N5 ⟨rfl, rfl⟩
          (try dsimp only); (try k_fold)
          k_steps
          refine Stop.in ?_
          have hfo : faultOf V .re os = none := by unfold faultOf; rw [hb']; rfl
          subst hlI
          refine turn_done (C := []) (M := [_, _, _, _, _, _, _]) (by k_asm) (by k_asm) G4 hz2 offI OP hI rfl O4' Off.nil hol9 fun l₃ q1 q2 q3 q4 => ?_
          refine ⟨gl_of _ _ rfl (by keq_hits), nextOf V .re os, _, hdue2.trans (by rw [hfo]), fun p hp => hzz4 p (hzz p hp), TourAt.mk hA2 q2 q3 q1 ((hst2.mono hzz4).more (by omega)) ((hpl2.mono hzz4).more (by omega)) hc2 hcn9 (hP2.mono hzz4 (by omega)) (Nat.le_succ_of_le hpn2)⟩
  · rintro h1 tk1 m1 news1 F1 N1 ⟨⟨q, rfl⟩, V, z₁, hdue, hzz, hT⟩
    cases hT with
    | @mk st2 ds2 sp2 g0 g1 g2 g3 e0 e1 e2 e3 row place ctm2 font2 size2 parr farr pn fn osp2 P l₁ hA2 O2 OP hz2 hst2 hpl2 hc2 hcn2 hP2 hpn2 =>
    simp only [List.cons_append, List.nil_append] at N1
    (try dsimp only); (try k_fold)
    k_steps
    have hlen : rows.drop oarr.size = [] := by rw [← Array.length_toList, hr.len, List.drop_length]
    rw [hlen] at hdue
    have hcn100 : V.count ≤ 100 := by
      have := hr.len
      rw [Array.length_toList] at this
      omega
    exact hret _ _ _ _ (by k_asm) (by k_asm) ⟨_, _, _, _, hdue, rfl, .tail _ (.tail _ (.tail _ (.head _))), hc2, hcn100, fun p hp => List.mem_append_right [_, _, _, _, _, _, _] (List.mem_append_right _ (hz2 _ (hzz _ (hzL0 _ hp))))⟩
end
local macro_rules | `(tactic| walk_at "pad") => `(tactic| skip)
local macro_rules | `(tactic| walk_at "pad") => `(tactic| skip)
local macro_rules | `(tactic| walk_at "pad") => `(tactic| skip)
local macro_rules | `(tactic| walk_at "pad") => `(tactic| skip)
local macro_rules | `(tactic| walk_at "pad") => `(tactic| skip)
local macro_rules | `(tactic| walk_at "pad") => `(tactic| skip)
local macro_rules | `(tactic| walk_at "pad") => `(tactic| skip)
local macro_rules | `(tactic| walk_at "pad") => `(tactic| skip)
local macro_rules | `(tactic| walk_at "pad") => `(tactic| skip)
local macro_rules | `(tactic| walk_at "pad") => `(tactic| skip)
local macro_rules | `(tactic| walk_at "pad") => `(tactic| skip)
local macro_rules | `(tactic| walk_at "pad") => `(tactic| skip)
local macro_rules | `(tactic| walk_at "pad") => `(tactic| skip)

section
local macro_rules | `(tactic| walk_at "call ref") => `(tactic| (k_here; (with_reducible show wpAny _ _ (call (Value.ref _) _) _ _ _); (refine Stop.out ?_; walk_say "STOP")))
local macro_rules | `(tactic| walk_at "call ref") => `(tactic| (k_here; (with_reducible show wpAny _ _ (call (Value.ref 497) _) _ _ _); k_dflt ((refine' Fn.useC (M := []) ?N ?hs ?O (stNew_ok (sub_on ?hs) ?hc) ?B ?F ?X ?T ?kK ?kd ?ku ?_); (case N => k_asm); (case hs => with_reducible assumption); (case O => first | exact Off.nil | ((show Off [] _); with_reducible assumption)); kt_ors; (case hc => kfm_turns); rintro r' C' l' z' h' tk' F' N' G' hz' hl' O' P' D'; (have hG' := Grow.of G')); k_dflt ((obtain ⟨x', ds', sp', osp', dd', s5', er', ec', n1', n2', n3', hd', ho'⟩ := D'); subst er'; subst ec'; (obtain ⟨q1', q2', q3', q4', q5', q6', q7', q8', ed'⟩ := hd'); subst ed'; skip); (try simp only [st3, List.cons_append, List.nil_append, List.map_cons, List.map_nil] at N' O' P'); (try dsimp only); (try k_fold)))
/-- lay_glyphs: as many glyphs as the law says, or its fault -/
theorem lay_ok {w : World} {mean : ExcName → Option Value} {mg mb : Str → Option Value} {l z : Led} {sheet f : Value} {rows : List (Wd × List OpV)} (hs : ∀ p ∈ z, p ∈ l) (hsh : SheetAt w z sheet f rows) :
    FT w mean mg mb 620 170 [sheet] l z (fun r l' => ∃ n fd arr e, due ⟨false, false, [], 0⟩ rows = .inl n ∧ r = .ref fd ∧ (fd, W.listOf arr e) ∈ l' ∧ arr.size = n ∧ n ≤ 100 ∧ ∀ p ∈ z, p ∈ l') (fun C => ∃ ft, due ⟨false, false, [], 0⟩ rows = .inr ft ∧ C = ft.cls) := by
  unfold FT
  k_fill
  intro dp un gd cn cs aa ccd cl outer A₀ base h₀ L m s Q E B F X N T hk hdd hu hret hthr
  have hsh' := hsh
  cases hsh' with
  | @mk x dx opl fo fm own hsh0 hsh1 hsh2 hsh3 ksh0 ksh1 ksh2 ksh3 f ofo ofm oarr eo rows hx hdx hfo hDf lo hff hfm hDm lom hol hr hn hown =>
  have hxl := hs _ hx
  have hdxl := hs _ hdx
  kqd_sub
  refine Stop.in ?_
  rename Led => zF
  rename (∀ f : Value, StOk _ f _ _ _ _ _ _ _ _) => hso
  rename Off [_, _, _] _ => hoff
  have hzF : ∀ p ∈ z, p ∈ zF := by kt_eqs
  refine' FT.use (sheet_ok (z := zF) ?hs (hsh.mono hzF) hoff ?a1 ?a2 ?a3 ⟨_, _, _, _, _, _, _, _, rfl⟩ (hso f)) ?B ?F ?X ?N ?T ?kK ?kd ?ku ?ret ?thr
  kaf_pre
  case hs => with_reducible assumption
  case a1 => with_reducible assumption
  case a2 => with_reducible assumption
  case a3 => with_reducible assumption
  case ret =>
    rintro r l5 h5 tk5 F5 N5 ⟨n, fd, arr, e, hd, rfl, hm, hsz, h100, hk⟩
    (try dsimp only); (try k_fold)
    k_steps
    exact hret _ _ _ _ (by k_asm) (by k_asm) ⟨n, fd, arr, e, hd, rfl, hm, hsz, h100, fun p hp => hk p (hzF p hp)⟩
  case thr =>
    intro C hC e t vs g2 h2 tk2 F2 U2 R2
    refine leave_onS (by k_asm) F2 R2 U2 ?_
    exact fun h3 R3 _ U3 => hthr C hC _ _ _ _ _ _ (by with_reducible assumption) U3 (RaisedS.sub R3 hzF)
end
local macro_rules | `(tactic| walk_at "pad") => `(tactic| skip)
local macro_rules | `(tactic| walk_at "pad") => `(tactic| skip)
local macro_rules | `(tactic| walk_at "pad") => `(tactic| skip)
theorem frames_one {env : Env} {L b : Addr} (hf : env.frame = some L) (hb : b ∈ [env].filterMap (·.frame)) : b = L := by
  obtain ⟨e, he, h⟩ := List.mem_filterMap.mp hb
  rw [List.mem_singleton.mp he, hf] at h
  exact (Option.some.inj h).symm
/-- a call from the outermost frame of a def that catches -/
theorem code_told {prog : Program} {w : World} {A₀ A : Around} {s : Shared} {base h₀ : Heap} {env : Env} {L : Addr} {m : Str → Option Value} {news : Led} {K : Frag} {p : Program} {loose : List Str} {mean : ExcName → Option Value} {mg mb : Str → Option Value}
    {R : Result → Shared → Prop} {name qual : Str} {params : Arguments} {body : List Stmt} {scope : Scope} {dV kV doc pm cdv ct oc : Value} {an od : Option Addr} {osl : Array (Option Value)} {f : Addr} {args : Args} {binds : List (Str × Value)}
    (B : Below A₀ base [] h₀) (F : Fr h₀ L s.heap m) (X₀ : K.In h₀) (N : News h₀ L s.heap news) (T : Top p loose mean mg mb h₀) (hA : A.frames = some [env]) (hf : env.frame = some L) (hke : env.scope.kind = .function)
    (ho : K.lookup f = some ⟨oc, od, .func (fnOf name qual params body scope dV kV doc pm an cdv ct), osl⟩) (hcd : codeIn K cdv qual = true) (hroom : A.depth < recursionLimit)
    (hbind : BindsTo s (fnOf name qual params body scope dV kV doc pm an cdv ct) args binds) (hloc : ∀ y ∈ binds, scope.names.lookup y.1 = some .local)
    (h : ∀ g L' h₁, Fr h₀ L g m → Fr g L' h₁ (fun y => binds.reverse.lookup y) → News g L' h₁ news → Below A base [env] g → K.In g → Top p loose mean mg mb g → KtsDicts ([env].filterMap (·.frame)) g →
      wpAny (model prog w) (A.deeper (envOf qual scope L' f cdv)) (execs body (envOf qual scope L' f cdv))
        (fun fl s' => LeaveS0 ([env].filterMap (·.frame)) h₀ L m g R (match fl with | .ret v => v | _ => .none) s')
        (fun e s' => wpAny (model prog w) (A.deeper (envOf qual scope L' f cdv)) (leaving (envOf qual scope L' f cdv) e) (fun _ s'' => R (.error e) s'') (fun e' s'' => R (.error e') s'') s')
        { s with heap := h₁, toks := s.toks + binds.length })
    (hco : scope.isCoroutine = false) (hgen : scope.isGenerator = false) (hk : scope.kind = .function)
    (hcell : ∀ x ∈ scope.names, x.2 ≠ .cell) : codeAny (model prog w) A (.call (.ref f) args) R s := by
  have X := X₀.keeps F.keep
  obtain ⟨FG, BG, st, -⟩ := groundX (R := R) B F N hA hf hke
  obtain ⟨oL, es, ep, hL, hLd, hLk, hLf⟩ := F.ns
  have nL : L ∉ news.map (·.1) := fun q => by
    obtain ⟨p, hp, e⟩ := List.mem_map.mp q
    exact (N p hp).2.1 e
  have hLg := hideAll_get (news.map (·.1)) hL nL
  refine codeAny_call_def (fd := fnOf name qual params body scope dV kV doc pm an cdv ct) (body := body) (binds := binds) hroom (X _ _ ho) rfl (T.nolimit.keeps F.keep) (codeRec_of X hcd) rfl hbind hcell hloc (fun h₁ hns hk₁ => ?_) hco hgen hk
  refine wpAny_mono (h _ s.heap.objs.size h₁ FG ⟨hns, fun b o e => hk₁ b o (of_hideAll _ e), Nat.le_of_eq (hideAll_size _ _)⟩
    (fun p hp => ⟨hk₁ _ _ (N p hp).1, Nat.ne_of_lt (Heap.lt_size (N p hp).1), hideAll_none _ (List.mem_map_of_mem hp)⟩) BG (X₀.keeps st) (T.keeps st) (fun b hb => ?_)) (fun fl s' hl => ?_) fun _ _ y => y
  · rw [frames_one hf hb]
    exact ⟨oL, es, ep, hLg, hLd⟩
  obtain ⟨g', L', m', news', T', F', N', k⟩ := hl
  have nL₀ : h₀.get? L = none := kts_self F
  obtain ⟨sl, hs⟩ := T'.up hLg
  refine k ⟨⟨_, es, ep, F'.keep _ _ hs, hLd, hLk, hLf⟩, fun b o e => F'.keep b o (T'.other b o (st b o e) fun q => ?_), F.above⟩ fun p hp => ⟨(N' p hp).1, fun q => ?_, ?_⟩
  · rw [frames_one hf q, nL₀] at e
    cases e
  · have := (N' p hp).2.2
    rw [q, hs] at this
    cases this
  · cases q : h₀.get? p.1 with
    | none => rfl
    | some o =>
      obtain ⟨sl', hs'⟩ := T'.up (st _ _ q)
      have := (N' p hp).2.2
      rw [hs'] at this
      cases this
/-- what _law_told tells -/
def Told : Nat ⊕ Flt → Value → Prop
  | .inl n, r => ∃ t, r = .int (n : Int) t
  | .inr .paint, r => ∃ t, r = .str (Str.ofString "paint") t
  | .inr .font, r => ∃ t, r = .str (Str.ofString "font") t
section
local macro_rules | `(tactic| walk_at "call ref") => `(tactic| (k_here; (with_reducible show wpAny _ _ (call (Value.ref _) _) _ _ _); (refine Stop.out ?_; walk_say "STOP")))
local macro_rules | `(tactic| walk_at "call builtin:len") => `(tactic| (k_here; (with_reducible show wpAny _ _ (call (Value.builtin "len") [Value.ref _]) _ _ _); k_dflt (refine' call_len_list ?l ?f ?_; (case l => exact News.isArr (by k_asm) (by with_reducible assumption)); (case f => omega))))
theorem told_ok {w : World} {mean : ExcName → Option Value} {mg mb : Str → Option Value} {l : Led} {sheet f : Value} {rows : List (Wd × List OpV)} (hsh : SheetAt w l sheet f rows)
    {dp un : Nat} {gd : Option (List Code)} {cn : Str} {cs : Scope} {aa : Addr} {ccd : Value} {cl : List (Str × Addr)} {A₀ : Around} {base h₀ : Heap} {L : Addr} {m : Str → Option Value} {s : Shared} {Q E : Value → Shared → Prop}
    (B : Below A₀ base [] h₀) (F : Fr h₀ L s.heap m) (X : (hd.heap_39 w.params).In h₀) (N : News h₀ L s.heap l) (T : Top hd.view_39 (looseW hd.view_39 [Str.ofString "PaperError", Str.ofString "OTHER_CODES"]) mean mg mb h₀) (XB : (hd.heap_39 w.params).In base) (TB : Top hd.view_39 (looseW hd.view_39 [Str.ofString "PaperError", Str.ofString "OTHER_CODES"]) mean mg mb base) (hk : cs.kind = .function) (hdd : dp + 180 < recursionLimit) (hu : un + 8 * 180 < cLine)
    (hret : ∀ r h' tk', Fr h₀ L h' m → News h₀ L h' l → Told (due ⟨false, false, [], 0⟩ rows) r → Q r { s with heap := h', toks := tk' }) :
    wpAny (model PySem.Challenge.rw_og0194_01.row.prog w) (ktrTop dp un gd cn cs L aa ccd cl []) (call (.ref 816) [sheet]) Q E s := by
  k_fill
  refine wpAny_call ?_
  (refine' code_told ?k1 ?k2 ?k3 ?k4 ?k5 ?kA ?kF ?kK ?k6 ?k7 ?k8 ?k9 ?kB ?_ ?c2 ?c3 ?c4 ?c5; (case kA => exact rfl); (case kF => exact rfl); (case kK => assumption); (case k1 => k_asm); (case k2 => k_asm); (case k3 => k_asm); (case k4 => k_asm); (case k5 => k_asm); (case k6 => k_is); (case k7 => k_is); (case k8 => ktr_room); (case k9 => exact BindsTo.of_eq rfl); (case c5 => decide); (case kB => exact locs rfl); (case c2 => exact rfl); (case c3 => exact rfl); (case c4 => exact rfl))
  intro g' L' h' FG' F' N' B' X' T' D'
  (try dsimp only); (try k_fold)
  k_steps
  refine Stop.in ?_
  refine' FT.use (lay_ok (z := l) sub_self hsh) ?B ?F ?X ?N ?T ?kK ?kd ?ku ?ret ?thr
  kaf_pre
  case ret =>
    rintro r l5 h5 tk5 F5 N5 ⟨n, fd, arr, e, hd, rfl, hm, hsz, h100, hk⟩
    (try dsimp only); (try k_fold)
    k_steps
    exact hret _ _ _ (by k_asm) (News.sub (by k_asm) hk) (by rw [hd]; exact ⟨_, by rw [hsz]⟩)
  case thr =>
    intro C ⟨ft, hd, hC⟩ e t vs g2 h2 tk2 F2 U2 R2
    cases ft with
    | paint =>
      obtain rfl : C = 59 := hC
      (try dsimp only); (try k_fold)
      k_steps
      exact hret _ _ _ (by k_asm) (by k_asm) (by rw [hd]; exact ⟨_, rfl⟩)
    | font =>
      obtain rfl : C = 71 := hC
      (try dsimp only); (try k_fold)
      k_steps
      exact hret _ _ _ (by k_asm) (by k_asm) (by rw [hd]; exact ⟨_, rfl⟩)
end
local macro_rules | `(tactic| walk_at "pad") => `(tactic| skip)
local macro_rules | `(tactic| walk_at "pad") => `(tactic| skip)
local macro_rules | `(tactic| walk_at "pad") => `(tactic| skip)

theorem operand_ok {w : World} {mean : ExcName → Option Value} {mg mb : Str → Option Value} {l z : Led} {tape cells : Addr} {e1 : Nat} {i : Int} {t1 : Tok} {tl : Tok} {tg : Tag} (hs : ∀ p ∈ z, p ∈ l) (O : Off [tape] l) (hT : TapeOk z cells) (h0 : 0 ≤ i) (h1 : i < 900) (htg : tg ∈ [Tag.n, Tag.m, Tag.s, Tag.a]) :
    Fn w mean mg mb 780 8 [.str ⟨#[tg.code]⟩ tl, .ref tape] ([(tape, tapeO cells i t1 e1)] ++ l) (TP [tape] l z fun M' z' r => ∃ i' t, M' = [(tape, tapeO cells i' t e1)] ∧ i ≤ i' ∧ i' ≤ i + 2 ∧ ∃ o : OpV, o.tag = tg ∧ Opd z' o r) := by
  simp only [List.mem_cons, List.not_mem_nil, or_false] at htg
  rcases htg with rfl | rfl | rfl | rfl
  · exact (operand_n hs O hT h0 h1).post (fun r l' ⟨M, l₂, z₂, e, G, O', i', t, q1, q2, q3, q4⟩ => ⟨M, l₂, z₂, e, G, O', i', t, q1, q2, q3, .n, rfl, .num (.dec q4)⟩)
  · exact (operand_m hs O hT h0 h1).post (fun r l' ⟨M, l₂, z₂, e, G, O', i', t, q1, q2, q3, b, q4⟩ => ⟨M, l₂, z₂, e, G, O', i', t, q1, q2, q3, .m b, rfl, .nam q4⟩)
  · exact (operand_s hs O hT h0 h1).post (fun r l' ⟨M, l₂, z₂, e, G, O', i', t, q1, q2, q3, k, q4⟩ => ⟨M, l₂, z₂, e, G, O', i', t, q1, q2, q3, .s k, rfl, .str q4⟩)
  · exact (operand_a hs O hT h0 h1).post (fun r l' ⟨M, l₂, z₂, e, G, O', i', t, q1, q2, q3, ps, q4⟩ => ⟨M, l₂, z₂, e, G, O', i', t, q1, q2, q3, .a ps, rfl, q4⟩)
theorem words_item {w : World} {A : Around} {E : Value → Shared → Prop} {s : Shared} {h₀ : Heap} {L : Addr} {m : Str → Option Value} {value slice : PySem.Expr} {k : Int} {u : Tok} {Q : Value → Shared → Prop} (F : Fr h₀ L s.heap m) (X : (hd.heap_39 w.params).In h₀) (h0 : 0 ≤ k) (h1 : k < 18)
    (h : ∀ (wd : Wd) (t : Tok), Q (.str wd.str t) s) (hs : subscripted slice false (.ref 758) (.int k u) = operate [.ref 758, .int k u] (getItem (.ref 758) (.int k u)) := by with_unfolding_all rfl) :
    wpAny (model PySem.Challenge.rw_og0194_01.row.prog w) A (subscriptTail value slice (.ref 758) (.int k u)) Q E s := by
  have hl : (hd.heap_39 w.params).lookup 758 = some { cls := .type "tuple", data := .seq #[.str (Wd.str .Tj) 1379, .str (Wd.str .BT) 1380, .str (Wd.str .ET) 1381, .str (Wd.str .Tf) 1382, .str (Wd.str .q) 1383, .str (Wd.str .Q) 1384, .str (Wd.str .ap) 1385, .str (Wd.str .qu) 1386, .str (Wd.str .TJ) 1387, .str (Wd.str .Ts) 1388, .str (Wd.str .Td) 1389, .str (Wd.str .TD) 1390, .str (Wd.str .Tm) 1391, .str (Wd.str .Tc) 1392, .str (Wd.str .Tr) 1393, .str (Wd.str .cm) 1394, .str (Wd.str .Do) 1395, .str (Wd.str .re) 1396] } := by kernel_rfl
  refine item_tupAny (vs := [.str (Wd.str .Tj) 1379, .str (Wd.str .BT) 1380, .str (Wd.str .ET) 1381, .str (Wd.str .Tf) 1382, .str (Wd.str .q) 1383, .str (Wd.str .Q) 1384, .str (Wd.str .ap) 1385, .str (Wd.str .qu) 1386, .str (Wd.str .TJ) 1387, .str (Wd.str .Ts) 1388, .str (Wd.str .Td) 1389, .str (Wd.str .TD) 1390, .str (Wd.str .Tm) 1391, .str (Wd.str .Tc) 1392, .str (Wd.str .Tr) 1393, .str (Wd.str .cm) 1394, .str (Wd.str .Do) 1395, .str (Wd.str .re) 1396]) ⟨_, F.keep _ _ (X _ _ hl), rfl, _, rfl⟩ h0 h1 (by decide) (fun v hv => ?_) hs
  simp only [List.mem_cons, List.not_mem_nil, or_false] at hv
  rcases hv with rfl | rfl | rfl | rfl | rfl | rfl | rfl | rfl | rfl | rfl | rfl | rfl | rfl | rfl | rfl | rfl | rfl | rfl <;> exact h _ _
theorem Ex.out3 {I C D : Addr} {oI oC oD : Obj} {l z l₂ z₂ : Led} (g : Ex ((I, oI) :: (C, oC) :: (D, oD) :: l) z l₂ z₂) (h : ∀ p ∈ l, p.1 ≠ I ∧ p.1 ≠ C ∧ p.1 ≠ D) : ∃ l₃, Ex l z l₃ z₂ ∧ (∀ p ∈ (I, oI) :: (C, oC) :: (D, oD) :: l₃, p ∈ l₂) ∧ (∀ p ∈ l₃, p.1 ≠ I ∧ p.1 ≠ C ∧ p.1 ≠ D) := by
  obtain ⟨t, rfl, rfl, u⟩ := g
  refine ⟨t ++ l, ⟨t, rfl, rfl, u.sub fun p hp => .tail _ (.tail _ (.tail _ hp))⟩, fun p hp => ?_, fun p hp => ?_⟩
  · simp only [List.mem_cons, List.mem_append] at hp ⊢
    rcases hp with h | h | h | h | h <;> simp [h]
  · rcases List.mem_append.mp hp with hp | hp
    · exact ⟨fun e => u p hp _ (.head _) e.symm, fun e => u p hp _ (.tail _ (.head _)) e.symm, fun e => u p hp _ (.tail _ (.tail _ (.head _))) e.symm⟩
    · exact h p hp
theorem Ex.dropM {h₀ h : Heap} {L : Addr} {M l l₀ z l' z' : Led} (g : Ex l₀ z l' z') (N : News h₀ L h (M ++ l')) (hl : ∀ p ∈ l, p ∈ l₀) : ∃ l₁, News h₀ L h (M ++ l₁) ∧ Ex l z l₁ z' ∧ ∀ p ∈ l₁, p ∈ l' := by
  obtain ⟨t, rfl, rfl, u⟩ := g
  have s : ∀ p ∈ t ++ l, p ∈ t ++ l₀ := fun p h => (List.mem_append.mp h).elim (List.mem_append_left _) fun h => List.mem_append_right _ (hl p h)
  exact ⟨t ++ l, News.sub N fun p h => (List.mem_append.mp h).elim (List.mem_append_left _) fun h => List.mem_append_right _ (s p h), ⟨t, rfl, rfl, u.sub hl⟩, s⟩
theorem Wd.tags_few (wd : Wd) : ∀ tg ∈ wd.tags, tg ∈ [Tag.n, Tag.m, Tag.s, Tag.a] := by cases wd <;> decide
theorem tagStr_at {tgs : List Tag} {i : Nat} {v : Value} (h : SignAt (tagStr tgs) i v) : ∃ tg u, tgs[i]? = some tg ∧ v = .str ⟨#[tg.code]⟩ u := by
  obtain ⟨c, u, e, rfl⟩ := h
  have e2 : (tgs.map Tag.code)[i]? = some c := by simpa [tagStr] using e
  rw [List.getElem?_map] at e2
  cases hq : tgs[i]? with
  | none => rw [hq] at e2; cases e2
  | some tg =>
    rw [hq] at e2
    cases e2
    exact ⟨tg, u, rfl, rfl⟩
theorem OpsAt.snoc {z : Led} {v : Value} {o : OpV} (h : Opd z o v) : ∀ {vs : List Value} {os : List OpV}, OpsAt z vs os → OpsAt z (vs ++ [v]) (os ++ [o])
  | _, _, .nil => .cons h .nil
  | _, _, .cons h' r => .cons h' (r.snoc h)
theorem tape_three {I C D tape : Addr} {oI oC oD ot : Obj} {l : Led} {h₀ h : Heap} {L : Addr} (N : News h₀ L h ((I, oI) :: (C, oC) :: (D, oD) :: (tape, ot) :: l)) : News h₀ L h ([(tape, ot)] ++ ((I, oI) :: (C, oC) :: (D, oD) :: l)) := News.sub N fun p hp => by
  simp only [List.cons_append, List.nil_append, List.mem_cons] at hp ⊢
  rcases hp with h | h | h | h | h <;> simp [h]
theorem tape_four {I C D tape : Addr} {oI oC oD ot : Obj} {l l₂ : Led} (s : ∀ p ∈ (I, oI) :: (C, oC) :: (D, oD) :: l, p ∈ l₂) : ∀ p ∈ (I, oI) :: (C, oC) :: (D, oD) :: ((tape, ot) :: l), p ∈ [(tape, ot)] ++ l₂ := fun p hp => by
  simp only [List.mem_cons] at hp
  rcases hp with h | h | h | h | h
  · exact .tail _ (s p (by simp [h]))
  · exact .tail _ (s p (by simp [h]))
  · exact .tail _ (s p (by simp [h]))
  · rw [h]; exact .head _
  · exact .tail _ (s p (by simp [h]))
theorem ne_concat9 {p : List Value} {x : Value} : (!(p ++ [x]).isEmpty) = true := by cases p <;> rfl
theorem ne_cons9 {p : List Value} {x : Value} : (!(x :: p).isEmpty) = true := rfl
theorem ne_none9 : (!([] : List Value).isEmpty) = false := rfl
theorem snoc_or (ys : List Value) : ys = [] ∨ ∃ p x, ys = p ++ [x] := by
  induction ys with
  | nil => exact .inl rfl
  | cons y r ih =>
    rcases ih with rfl | ⟨p, x, rfl⟩
    · exact .inr ⟨[], y, rfl⟩
    · exact .inr ⟨y :: p, x, rfl⟩
theorem ne_nil {prog : Program} {w : World} {A : Around} {E : Value → Shared → Prop} {s : Shared} {a b : Addr} {vs : List Value} {Q : Value → Shared → Prop} {x : Bool} (hl : s.heap.IsList a vs.toArray) (hb : s.heap.IsList b #[]) (hu : A.units < cLine) (hx : (!vs.isEmpty) = x) (h : Q (.bool x) s) :
    wpAny (model prog w) A (compareOp .NotEq (.ref a) (.ref b)) Q E s := by
  subst hx
  cases vs with
  | nil => exact PySem.SeqAt.RcNeAt.lists (e := fun _ => true) hl hb rfl hu (fun j h1 => absurd h1 (Nat.not_lt_zero j)) prog w E Q h
  | cons v vs => exact PySem.SeqAt.RcNeAt.lists_lengths hl hb (by simp) hu prog w E Q h
theorem set_first {prog : Program} {w : World} {A : Around} {E : Value → Shared → Prop} {s : Shared} {h₀ : Heap} {L D : Addr} {m : Str → Option Value} {news : Led} {vs : List Value} {n : Nat} {x v : Value} {u : Tok} {g : Obj → Led} {Q : Unit → Shared → Prop} (F : Fr h₀ L s.heap m) (N : News h₀ L s.heap news) (U : UpdF D (W.listOf (x :: vs).toArray n) news g)
    (h : ∀ h', Fr h₀ L h' m → News h₀ L h' (g (W.listOf (v :: vs).toArray n)) → Q () { s with heap := h' }) : wpAny (model prog w) A (setItem (.ref D) (.int 0 u) v) Q E s := by
  obtain ⟨pre, post, rfl, hg, a, b⟩ := U.split
  have z := N (D, W.listOf (x :: vs).toArray n) (List.mem_append.mpr (.inr (.head _)))
  refine ki_setAt z.1 (Int.le_refl _) (by decide) (by simp) (h _ (F.change (Heap.SameBut.update ..) z.2.1 z.2.2) ?_)
  rw [hg]
  exact ki_turn _ N a b (by simp) (by simp)
theorem Off1.off {D : Addr} : ∀ {l : Led}, LCg.Off1 D l → Off [D] l
  | [], _ => fun _ h => nomatch h
  | q :: l, ⟨a, r⟩ => .one fun p hp => by
    rcases List.mem_cons.mp hp with rfl | hp
    · exact a
    · exact (Off1.off r).ne (.head _) p hp
theorem OpsAt.unsnoc {z : Led} {x : Value} : ∀ {p : List Value} {os : List OpV}, OpsAt z (p ++ [x]) os → ∃ o' o, os = o' ++ [o] ∧ OpsAt z p o' ∧ Opd z o x
  | [], _, .cons h .nil => ⟨[], _, rfl, .nil, h⟩
  | _ :: _, _, .cons h r => by
    obtain ⟨o', o, e, h1, h2⟩ := r.unsnoc
    exact ⟨_ :: o', o, by rw [e]; rfl, .cons h h1, h2⟩
theorem slice_last (wd : Wd) : Txt.slice (tagStr wd.tags) none (some (-1)) = tagStr wd.tags.dropLast := by cases wd <;> decide +kernel
theorem slice_first (wd : Wd) : Txt.slice (tagStr wd.tags) (some 1) none = tagStr wd.tags.tail := by cases wd <;> decide +kernel
/-- a row of the law: word, operands, tags -/
def IsRow (z : Led) (v : Value) (wd : Wd) (os : List OpV) : Prop := ∃ (t ol : Addr) (tk tk2 : Tok) (str : Str) (arr : Array Value) (e : Nat), v = .ref t ∧ (t, tupA #[.str wd.str tk, .ref ol, .str str tk2]) ∈ z ∧ (ol, W.listOf arr e) ∈ z ∧ str = tagStr (os.map OpV.tag) ∧ OpsAt z arr.toList os ∧ os.length ≤ 10
theorem IsRow.mono {z z' : Led} {v : Value} {wd : Wd} {os : List OpV} (h : IsRow z v wd os) (s : ∀ p ∈ z, p ∈ z') : IsRow z' v wd os := by
  obtain ⟨t, ol, tk, tk2, str, arr, e, h1, h2, h3, h4, h5, h6⟩ := h
  exact ⟨t, ol, tk, tk2, str, arr, e, h1, s _ h2, s _ h3, h4, h5.mono s, h6⟩
theorem deed_fin {h₀ h : Heap} {L tape D : Addr} {oD ot : Obj} {l l0 z lF zF : Led} (N : News h₀ L h ((D, oD) :: (tape, ot) :: lF)) (G : Ex l0 z lF zF) (hl : ∀ p ∈ l, p ∈ l0) (O : Off [D, tape] lF) (n : @Ne Nat D tape) :
    ∃ l₁, News h₀ L h ([(tape, ot)] ++ l₁) ∧ Ex l z l₁ ((D, oD) :: zF) ∧ Off [tape] l₁ := by
  have G' : Ex l0 z ((D, oD) :: lF) ((D, oD) :: zF) := Ex.off G (O.ne (.head _))
  have N' : News h₀ L h ([(tape, ot)] ++ ((D, oD) :: lF)) := News.sub N fun p hp => by
    simp only [List.cons_append, List.nil_append, List.mem_cons] at hp ⊢
    rcases hp with h | h | h <;> simp [h]
  obtain ⟨l₁, N1, E1, s1⟩ := Ex.dropM G' N' hl
  refine ⟨l₁, N1, E1, Off.sub (as := [tape]) (l := (D, oD) :: lF) (.one fun p hp => ?_) s1⟩
  rcases List.mem_cons.mp hp with rfl | hp
  · exact n
  · exact O.ne (.tail _ (.head _)) p hp
theorem tags_add {prog : Program} {w : World} {A : Around} {E : Value → Shared → Prop} {s : Shared} {x y : Str} {t u : Tok} {Q : Value → Shared → Prop} (hx : x.length ≤ 6) (hy : y.length ≤ 6) (h : ∀ t' tk, Q (.str (x ++ y) t') { s with toks := tk }) : wpAny (model prog w) A (binaryOp .Add (.str x t) (.str y u)) Q E s :=
  add_str h (by rw [sizeLine_eq]; omega)
theorem eq_no {prog : Program} {w : World} {A : Around} {E : Value → Shared → Prop} {s : Shared} {a b : Int} {t u : Tok} {Q : Value → Shared → Prop} (hn : a ≠ b) (h : Q (.bool false) s) : wpAny (model prog w) A (compareOp .Eq (.int a t) (.int b u)) Q E s := eq_int (by rw [show (a == b) = false from by simpa using hn]; exact h)
theorem le_no {prog : Program} {w : World} {A : Around} {E : Value → Shared → Prop} {s : Shared} {a b : Int} {t u : Tok} {Q : Value → Shared → Prop} (hn : ¬ a ≤ b) (h : Q (.bool false) s) : wpAny (model prog w) A (compareOp .LtE (.int a t) (.int b u)) Q E s := le_int (by simpa [hn] using h)
theorem le_yes {prog : Program} {w : World} {A : Around} {E : Value → Shared → Prop} {s : Shared} {a b : Int} {t u : Tok} {Q : Value → Shared → Prop} (hn : a ≤ b) (h : Q (.bool true) s) : wpAny (model prog w) A (compareOp .LtE (.int a t) (.int b u)) Q E s := le_int (by simpa [hn] using h)
theorem tags_more (wd : Wd) : tagStr wd.tags ++ Str.ofString "n" = tagStr (wd.tags ++ [.n]) := by cases wd <;> decide +kernel
theorem tags_t (wd : Wd) : (⟨#[116]⟩ : Str) ++ tagStr wd.tags.tail = tagStr (.t :: wd.tags.tail) := by cases wd <;> decide +kernel
theorem tags_m9 (wd : Wd) : (⟨#[109]⟩ : Str) ++ tagStr wd.tags.tail = tagStr (.m :: wd.tags.tail) := by cases wd <;> decide +kernel
theorem tags_s9 (wd : Wd) : (⟨#[115]⟩ : Str) ++ tagStr wd.tags.tail = tagStr (.s :: wd.tags.tail) := by cases wd <;> decide +kernel
theorem tags_x (wd : Wd) : (⟨#[120]⟩ : Str) ++ tagStr wd.tags.tail = tagStr (.x :: wd.tags.tail) := by cases wd <;> decide +kernel
theorem nameA_ok {w : World} {mean : ExcName → Option Value} {mg mb : Str → Option Value} {l z : Led} {t : Tok} (hs : ∀ p ∈ z, p ∈ l) :
    Fn w mean mg mb 209 4 [.str (Str.ofString "A") t] l (fun r l' => ∃ z', Ex l z l' z' ∧ IsName z' r true) := nameNew_ok (b := true) hs
theorem nameB_ok {w : World} {mean : ExcName → Option Value} {mg mb : Str → Option Value} {l z : Led} {t : Tok} (hs : ∀ p ∈ z, p ∈ l) :
    Fn w mean mg mb 209 4 [.str (Str.ofString "B") t] l (fun r l' => ∃ z', Ex l z l' z' ∧ IsName z' r false) := nameNew_ok (b := false) hs
def IsLawKinds (w : World) (z : Led) (r : Value) : Prop := ∃ d o D, r = .ref d ∧ (d, o) ∈ z ∧ (d == sysModules) = false ∧ o.IsDictOf (PySem.strKind PySem.Challenge.rw_og0194_01.row.prog w) D ∧ ∀ wd : Wd, ∃ t, valueAt D wd.str = wd.kinds.map fun tgs => .str (tagStr tgs) t
theorem lawKinds_ok {w : World} {mean : ExcName → Option Value} {mg mb : Str → Option Value} {l z : Led} (hs : ∀ p ∈ z, p ∈ l) :
    Fn w mean mg mb 765 3 [] l (fun r l' => ∃ z', Ex l z l' z' ∧ IsLawKinds w z' r) :=
  law_kinds_ok.post fun r l' ⟨d, o, D, e1, e2, lo, lt, hd, ht⟩ => ⟨(d, o) :: z, by rw [e2]; exact Ex.one Ex.refl lt, d, o, D, e1, .head _, lo, hd, ht⟩
theorem law_tags (wd : Wd) (t t2 : Tok) : ∃ t3, ((wd.kinds.map fun tgs => Value.str (tagStr tgs) t).getD (.str (Str.ofString "") t2)) = .str (tagStr wd.tags) t3 := by
  unfold Wd.tags
  cases wd.kinds with
  | none => exact ⟨t2, rfl⟩
  | some tgs => exact ⟨t, rfl⟩
theorem cell_sub {h₀ h : Heap} {L c tape : Addr} {oc ot : Obj} {l z : Led} (_ : News h₀ L h ((c, oc) :: (tape, ot) :: l)) (hs : ∀ p ∈ z, p ∈ l) : ∀ p ∈ z, p ∈ (c, oc) :: l := sub_cons hs
theorem cell_turn {h₀ h : Heap} {L c tape : Addr} {oc ot : Obj} {l : Led} (N : News h₀ L h ((c, oc) :: (tape, ot) :: l)) : News h₀ L h ((tape, ot) :: (c, oc) :: l) := News.sub N fun p hp => by
  simp only [List.mem_cons] at hp ⊢
  rcases hp with h | h | h <;> simp [h]
theorem cell_off {h₀ h : Heap} {L c tape : Addr} {oc ot : Obj} {l : Led} (_ : News h₀ L h ((c, oc) :: (tape, ot) :: l)) (oC : Off [c] ((tape, ot) :: l)) (O : Off [tape] l) : Off [tape] ((c, oc) :: l) := fun p hp => by
  rcases List.mem_cons.mp hp with rfl | hp
  · exact fun e => oC _ (.head _) (by rw [List.mem_singleton] at e ⊢; exact e.symm)
  · exact O p hp
theorem cell_all {h₀ h : Heap} {L c tape : Addr} {oc ot : Obj} {l z : Led} (N : News h₀ L h ((c, oc) :: (tape, ot) :: l)) (oC : Off [c] ((tape, ot) :: l)) (O : Off [tape] l) (hs : ∀ p ∈ z, p ∈ l) :
    ∃ l0 : Led, (c, oc) ∈ l0 ∧ (∀ p ∈ l, p ∈ l0) ∧ News h₀ L h ((tape, ot) :: l0) ∧ Off [tape] l0 ∧ ∀ p ∈ z, p ∈ l0 := ⟨_, .head _, fun _ h => .tail _ h, cell_turn N, cell_off N oC O, cell_sub N hs⟩
section
local macro_rules | `(tactic| walk_at "call ref") => `(tactic| (k_here; (with_reducible show wpAny _ _ (call (Value.ref _) _) _ _ _); (refine Stop.out ?_; walk_say "STOP")))
local macro_rules | `(tactic| walk_at "call ref") => `(tactic| (k_here; (with_reducible show wpAny _ _ (call (Value.ref 773) _) _ _ _); k_dflt ((refine' Fn.useT (M := [_]) ?N ?hs ?O (drawT_ok ?hs ?O ?hT ?h0 ?h1 ?h2 ?h3) ?B ?F ?X ?T ?kK ?kd ?ku ?_); (case N => k_asm); (case hs => with_reducible assumption); (case O => with_reducible assumption);  kt_ors; (case hT => kbt_words); (case h0 => omega); (case h1 => omega); (case h2 => decide); (case h3 => decide); rintro r' M' l' z' h' tk' F' N' G' hz' hl' O' D'; (have hG' := Grow.of G')); (obtain ⟨t9', r9', tr9', er', hr0', hr1', em'⟩ := D'); subst er'; subst em'; (try simp only [List.cons_append, List.nil_append, List.map_cons, List.map_nil] at N' O'); (try dsimp only); (try k_fold)))
local macro_rules | `(tactic| walk_at "exec Assign cons ListComp") => `(tactic| (k_here; refine Stop.out ?_; walk_say "STOP COMP"))
local macro_rules | `(tactic| walk_at "compareOp NotEq ref ref") => `(tactic| (k_here; (with_reducible show wpAny _ _ (compareOp CmpOp.NotEq (Value.ref _) (Value.ref _)) _ _ _); k_dflt (refine' ne_nil (x := true) ?l ?b ?u ?x ?_; (case l => exact News.isArr (by k_asm) (by k_mem)); (case b => exact News.isArr (by k_asm) (by k_mem)); (case u => kas_types); (case x => first | with_reducible exact ne_concat9 | with_reducible exact ne_cons9))))
local macro_rules | `(tactic| walk_at "compareOp NotEq ref ref") => `(tactic| (k_here; (with_reducible show wpAny _ _ (compareOp CmpOp.NotEq (Value.ref _) (Value.ref _)) _ _ _); k_dflt (refine' ne_nil (x := false) ?l ?b ?u ?x ?_; (case l => exact News.isArr (by k_asm) (by k_mem)); (case b => exact News.isArr (by k_asm) (by k_mem)); (case u => kas_types); (case x => with_reducible exact ne_none9))))
local macro_rules | `(tactic| walk_at "newTuple") => `(tactic| (k_here; k_dflt (refine' newTup_M (M := [_, _]) ?F ?N ?hs ?O ?z ?_; (case F => k_asm); (case N => k_asm); (case hs => with_reducible assumption); (case O => (show Off [_, _] _); with_reducible assumption); (case z => exact Nat.le_of_ble_eq_true rfl)); intro D' l' z' h' F' N' G' hz' hl' O' hm'; (have hG' := Grow.of G'); (try simp only [List.cons_append, List.nil_append, List.map_cons, List.map_nil] at N' O')))
local macro_rules | `(tactic| walk_at "newList") => `(tactic| (k_here; k_dflt (refine' newLst_M (M := [_, _]) ?F ?N ?hs ?O ?z ?_; (case F => k_asm); (case N => k_asm); (case hs => with_reducible assumption); (case O => (show Off [_, _] _); with_reducible assumption); (case z => exact Nat.le_of_ble_eq_true rfl)); intro D' l' z' h' F' N' G' hz' hl' O' hm'; (have hG' := Grow.of G'); (try simp only [List.cons_append, List.nil_append, List.map_cons, List.map_nil] at N' O')))
local macro_rules | `(tactic| walk_at "call builtin:list.append") => `(tactic| (k_here; k_dflt (refine' append_K ?k1 ?k2 ?k3 ?_ ?z; (case k1 => k_asm); (case k2 => k_asm); (case k3 => k_upd); (case z => rw [sizeLine_eq]; exact Nat.le_trans (by assumption) (by decide : 6 ≤ 16777216))); intro h' F' N'; (try dsimp only [List.nil_append, List.cons_append] at N')))
local macro_rules | `(tactic| walk_at "SignsSrc") => `(tactic| (k_here; refine Stop.out ?_; walk_say "STOP SRC"))
local macro_rules | `(tactic| walk_at "getMethod ref") => `(tactic| (k_here; (with_reducible show wpAny _ _ (getMethod (Value.ref _) (PySem.Str.ofString "get") _) _ _ _); k_dflt (refine' kdg_method (knd := PySem.strKind _ _) ?N ?m ?d ?_; (case N => k_asm); (case m => k_mem); (case d => with_reducible assumption))))
local macro_rules | `(tactic| walk_at "call builtin:dict.get") => `(tactic| (k_here; refine Stop.out ?_; walk_say "STOP GET"))
local macro_rules | `(tactic| walk_at "call builtin:list.pop") => `(tactic| (k_here; (with_reducible show wpAny _ _ (call (Value.builtin _) [Value.ref _]) _ _ _); k_dflt (refine' kl_pop ?F ?N ?e ?U ?z ?_; (case F => k_asm); (case N => k_asm); (case U => k_upd); (case e => exact kpa_last _ _); (case z => rw [sizeLine_eq]; exact Nat.le_trans (by assumption) (by decide : 6 ≤ 16777216))); intro h' F' N'; (try dsimp only [List.nil_append, List.cons_append] at N')))
local macro_rules | `(tactic| walk_at "subscriptTail") => `(tactic| (k_here; (with_reducible show wpAny _ _ (subscriptTail _ _ (Value.ref _) (Value.int _ _)) _ _ _); refine Stop.out ?_; walk_say "STOP ITEM"))
local macro_rules | `(tactic| walk_at "compareOp Eq int int") => `(tactic| (k_here; k_dflt (refine' eq_no ?n ?_; (case n => with_reducible assumption))))
local macro_rules | `(tactic| walk_at "compareOp LtE int int") => `(tactic| (k_here; k_dflt (refine' le_no ?n ?_; (case n => with_reducible assumption))))
local macro_rules | `(tactic| walk_at "compareOp LtE int int") => `(tactic| (k_here; k_dflt (refine' le_yes ?n ?_; (case n => with_reducible assumption))))
local macro_rules | `(tactic| walk_at "binaryOp Add str str") => `(tactic| (k_here; (with_reducible show wpAny _ _ (binaryOp Operator.Add (Value.str _ _) (Value.str _ _)) _ _ _); k_dflt (refine' tags_add ?a ?b ?_; (case a => first | with_reducible assumption | decide); (case b => first | with_reducible assumption | decide)); intro t' tk'))
local macro_rules | `(tactic| walk_at "setItem ref int") => `(tactic| (k_here; (with_reducible show wpAny _ _ (setItem (Value.ref _) (Value.int 0 _) _) _ _ _); k_dflt (refine' set_first ?F ?N ?U ?_; (case F => k_asm); (case N => k_asm); (case U => k_updF)); intro h' F' N'; (try dsimp only at N')))
local macro_rules | `(tactic| walk_at "call ref") => `(tactic| (k_here; (with_reducible show wpAny _ _ (call (Value.ref 209) _) _ _ _); k_dflt ((refine' Fn.useM (M := [_, _]) ?N ?hs (nameA_ok (sub_on ?hs)) ?B ?F ?X ?T ?kK ?kd ?ku ?O ?_); (case N => k_asm); (case hs => with_reducible assumption); kaf_suf; skip; rintro r' l' z' h' tk' F' N' G' hz' hl' O' D'; (have hG' := Grow.of G')); (try simp only [List.cons_append, List.nil_append, List.map_cons, List.map_nil] at N' O'); (obtain ⟨x', er'⟩ := IsName.isRef D'); subst er'; (try dsimp only); (try k_fold)))
local macro_rules | `(tactic| walk_at "call ref") => `(tactic| (k_here; (with_reducible show wpAny _ _ (call (Value.ref 231) _) _ _ _); k_dflt ((refine' Fn.useM (M := [_, _]) ?N ?hs (strNew_ok (sub_on ?hs) ?h1) ?B ?F ?X ?T ?kK ?kd ?ku ?O ?_); (case N => k_asm); (case hs => with_reducible assumption); kaf_suf; (case h1 => first | with_reducible assumption | decide); rintro r' l' z' h' tk' F' N' G' hz' hl' O' D'; (have hG' := Grow.of G')); (try simp only [List.cons_append, List.nil_append, List.map_cons, List.map_nil] at N' O'); (obtain ⟨x', er'⟩ := IsStr.isRef D'); subst er'; (try dsimp only); (try k_fold)))
theorem deed_ok {w : World} {mean : ExcName → Option Value} {mg mb : Str → Option Value} {l z : Led} {tape cells : Addr} {e1 : Nat} {i : Int} {t1 : Tok} (hs : ∀ p ∈ z, p ∈ l) (O : Off [tape] l) (hT : TapeOk z cells) (h0 : 0 ≤ i) (h1 : i < 800) :
    Fn w mean mg mb 785 30 [.ref tape] ([(tape, tapeO cells i t1 e1)] ++ l) (TP [tape] l z fun M' z' r => ∃ i' t, M' = [(tape, tapeO cells i' t e1)] ∧ i ≤ i' ∧ i' ≤ i + 20 ∧ ∃ wd os, IsRow z' r wd os) := by
  unfold Fn
  k_fill
  intro dp un gd cn cs aa ccd cl outer A₀ base h₀ L m s Q E B F X N T hk hdd hu hret
  simp only [List.cons_append, List.nil_append] at N
  krn_off
  refine Stop.in ?_
  rename Off [_] _ => oC
  rename News _ _ _ _ => N1
  obtain ⟨l0, hc0, hl0, N2, O2, hs2⟩ := cell_all N1 oC O hs
  clear N1
  k_steps
  refine Stop.in ?_
  refine words_item (by k_asm) (by k_asm) (by omega) (by omega) fun wd tkw => ?_
  (try dsimp only); (try k_fold)
  k_steps
  refine Stop.in ?_
  rename Int => spl
  rename Led => z3
  (refine' Fn.useM (M := [_]) ?N ?hs (lawKinds_ok (z := z3) (sub_on ?hs)) ?B ?F ?X ?T ?kK ?kd ?ku ?O ?_); (case N => k_asm); (case hs => with_reducible assumption); kaf_suf
  rintro r4 l4 z4 h4 tk4 F4 N4 G4 hzz4 hzl4 O4 ⟨kd, ko, D, rfl, hkm, hlo, hkd, htab⟩
  have hG4 := Grow.of G4
  obtain ⟨tk9, hval⟩ := htab wd
  simp only [List.cons_append, List.nil_append, List.map_cons, List.map_nil] at N4 O4
  (try dsimp only); (try k_fold)
  k_steps
  refine Stop.in ?_
  refine kdg_get2 (knd := PySem.strKind _ _) (by k_asm) (by k_mem) hkd hlo (strKind_is _ _ _ _) _ hval ?_
  obtain ⟨t3, e3⟩ := law_tags wd tk9 _
  rw [e3]
  (try dsimp only); (try k_fold)
  k_steps
  refine Stop.in ?_
  refine Assign_signs (by k_asm) (by rfl) (by with_unfolding_all rfl) (by with_unfolding_all rfl) (by decide) (by rfl) (by decide) (by rfl) (by rfl) (by rfl) ?_
  k_steps
  refine Stop.in ?_
  refine ⟨_, _, _, rfl, by cases wd <;> decide +kernel, rfl, by k_asm, by k_asm, by rw [sizeLine_eq]; cases wd <;> decide +kernel, fun g => ?_⟩
  refine comp_ind (fun j ys nw => ∃ l' z' i' t, nw = (tape, tapeO cells i' t e1) :: l' ∧ Ex l4 z4 l' z' ∧ Off [tape] l' ∧ i + 1 + 1 ≤ i' ∧ i' ≤ i + 1 + 1 + 2 * (j : Int) ∧ ∃ os : List OpV, OpsAt z' ys os ∧ os.map OpV.tag = wd.tags.take j) ⟨_, _, _, _, rfl, Ex.refl, by with_reducible assumption, by omega, by omega, [], .nil, rfl⟩ ?_ ?_
  · rintro j ys nw ⟨l5, z5, i5, t5, rfl, G5, O5, hi5, hi6, os5, hops5, htag5⟩ hj v I oI C oC D5 m₂ h5 tk5 E' hv hC hx F5 N5 O6 ⟨n1, n2, n3⟩
    obtain ⟨tg, u5, htg, rfl⟩ := tagStr_at hv
    have hjn : j < 6 := by
      have : (tagStr wd.tags).cps.size ≤ 6 := by cases wd <;> decide
      omega
    have hG5 := Grow.of G5
    k_steps
    refine Stop.in ?_
    have N6 := tape_three N5
    have hzl5 := sub_cons (q := (I, oI)) (sub_cons (q := (C, oC)) (sub_cons (q := (D5, LCg.lst ys)) (G5.zl hzl4)))
    have hzz5 := G5.zz
    have O7 : Off [tape] ((I, oI) :: (C, oC) :: (D5, LCg.lst ys) :: l5) := .one fun p hp => by
      simp only [List.mem_cons] at hp
      rcases hp with rfl | rfl | rfl | hp
      · exact Ne.symm O6.1.1
      · exact Ne.symm O6.1.2.1
      · exact Ne.symm O6.1.2.2
      · exact O5.ne (.head _) p hp
    (refine' Fn.useT (M := [_]) N6 hzl5 O7 (operand_ok hzl5 O7 (hT.mono (by kt_eqs)) (by omega) (by omega) (wd.tags_few tg (List.mem_of_getElem? htg))) ?B ?F ?X ?T ?kK ?kd ?ku ?_)
    kt_ors
    rintro r7 M7 l7 z7 h7 tk7 F7 N7 G7 hzz7 hzl7 O8 ⟨i8, t8, rfl, hi8, hi9, o, hot, hopd⟩
    obtain ⟨l8, E8, s8, o8⟩ := Ex.out3 G7 O6.2.mem
    refine LCg.CompEnd.intro (by k_asm) N7 ((tape, tapeO cells i8 t8 e1) :: l8) (tape_four s8) (off3_cons O6.1 (LCg.Off3.of o8)) trivial ⟨l8, z7, i8, t8, rfl, G5.trans E8, Off.sub O8 fun p hp => s8 p (.tail _ (.tail _ (.tail _ hp))), by omega, by omega, os5 ++ [o], (hops5.mono hzz7).snoc hopd, ?_⟩
    rw [List.map_append, htag5, List.take_add_one, htg]
    simp [hot]
  · rintro ys nw ⟨l5, z5, i5, t5, rfl, G5, O5, hi5, hi6, os5, hops5, htag5⟩ D5 h5 tk5 F5 N5 O6
    have htl : (tagStr wd.tags).cps.size = wd.tags.length := by cases wd <;> decide +kernel
    rw [htl, List.take_length] at htag5
    have hn6 : wd.tags.length ≤ 6 := by cases wd <;> decide
    rw [htl] at hi6
    have hG5 := Grow.of G5
    have hzz5 := G5.zz
    have hzl5 := G5.zl hzl4
    have nDt : @Ne Nat D5 tape := Ne.symm O6.1
    have OD : Off [D5, tape] l5 := .cons ((Off1.off O6.2).ne (.head _)) O5
    have hcase : spl = 0 ∨ spl = 1 ∨ spl = 2 ∨ spl = 3 ∨ spl = 4 ∨ spl = 5 ∨ 6 ≤ spl := by omega
    have hol : os5.length = wd.tags.length := by rw [← htag5, List.length_map]
    have hyl : ys.length ≤ 6 := by rw [hops5.len, hol]; exact hn6
    have hyl2 : ys.toArray.size ≤ 6 := by rw [List.size_toArray]; exact hyl
    (try dsimp only); (try k_fold)
    have htagl : (tagStr wd.tags).length ≤ 6 := by cases wd <;> decide +kernel
    have hsl : (Txt.slice (tagStr wd.tags) (some 1) none).length ≤ 6 := by rw [slice_first]; cases wd <;> decide +kernel
    rcases hcase with rfl | rfl | rfl | rfl | rfl | rfl | hsp
    · rcases snoc_or ys with rfl | ⟨p, x, rfl⟩
      · k_steps
        rename Led => zF
        rename (Ex _ _ _ zF) => GF
        have GA := Ex.trans (l := l0) (z := z) (by ktu_off1L) GF
        rename Off [D5, tape] _ => OF
        obtain ⟨l₁, N9, E9, O9⟩ := deed_fin (l := l) (by k_asm) GA hl0 OF nDt
        have hz9 : ∀ p ∈ z5, p ∈ zF := by kt_eqs
        rename ((_, tupA #[_, _, _]) ∈ zF) => hm9
        exact hret _ _ _ _ (by k_asm) N9 ⟨[_], l₁, _, rfl, E9, O9, _, _, rfl, by omega, by omega, wd, os5, _, _, _, _, _, _, _, rfl, .tail _ hm9, .head _, (by rw [htag5]), (OpsAt.mono (fun p hp => .tail _ (hz9 p hp)) hops5), (by omega)⟩
      · obtain ⟨o', o, rfl, hp1, hp2⟩ := hops5.unsnoc
        k_steps
        rename Led => zF
        rename (Ex _ _ _ zF) => GF
        have GA := Ex.trans (l := l0) (z := z) (by ktu_off1L) GF
        rename Off [D5, tape] _ => OF
        obtain ⟨l₁, N9, E9, O9⟩ := deed_fin (l := l) (by k_asm) GA hl0 OF nDt
        have hz9 : ∀ p ∈ z5, p ∈ zF := by kt_eqs
        rename ((_, tupA #[_, _, _]) ∈ zF) => hm9
        exact hret _ _ _ _ (by k_asm) N9 ⟨[_], l₁, _, rfl, E9, O9, _, _, rfl, by omega, by omega, wd, o', _, _, _, _, _, _, _, rfl, .tail _ hm9, .head _, (by rw [slice_last, ← htag5, List.map_append, List.map_singleton, List.dropLast_concat]), (OpsAt.mono (fun p hp => .tail _ (hz9 p hp)) hp1), (by simp only [List.length_append, List.length_singleton] at hol; omega)⟩
    · k_steps
      rename Led => zF
      rename (Ex _ _ _ zF) => GF
      have GA := Ex.trans (l := l0) (z := z) (by ktu_off1L) GF
      rename Off [D5, tape] _ => OF
      obtain ⟨l₁, N9, E9, O9⟩ := deed_fin (l := l) (by k_asm) GA hl0 OF nDt
      have hz9 : ∀ p ∈ z5, p ∈ zF := by kt_eqs
      rename ((_, tupA #[_, _, _]) ∈ zF) => hm9
      exact hret _ _ _ _ (by k_asm) N9 ⟨[_], l₁, _, rfl, E9, O9, _, _, rfl, by omega, by omega, wd, os5 ++ [.n], _, _, _, _, _, _, _, rfl, .tail _ hm9, .head _, (by rw [List.map_append, htag5]; exact tags_more wd), (OpsAt.mono (fun p hp => .tail _ hp) (by rw [Array.toList_push]; exact (hops5.mono hz9).snoc (.num (.int (by decide))))), (by rw [List.length_append, List.length_singleton]; omega)⟩
    · cases hops5 with
      | nil =>
        k_steps
        rename Led => zF
        rename (Ex _ _ _ zF) => GF
        have GA := Ex.trans (l := l0) (z := z) (by ktu_off1L) GF
        rename Off [D5, tape] _ => OF
        obtain ⟨l₁, N9, E9, O9⟩ := deed_fin (l := l) (by k_asm) GA hl0 OF nDt
        have hz9 : ∀ p ∈ z5, p ∈ zF := by kt_eqs
        rename ((_, tupA #[_, _, _]) ∈ zF) => hm9
        exact hret _ _ _ _ (by k_asm) N9 ⟨[_], l₁, _, rfl, E9, O9, _, _, rfl, by omega, by omega, wd, [], _, _, _, _, _, _, _, rfl, .tail _ hm9, .head _, (by rw [← htag5]), (OpsAt.mono (fun p hp => .tail _ hp) (OpsAt.nil)), (Nat.zero_le _)⟩
      | @cons y o9 r9 or9 ho9 hr9 =>
        have htl9 : wd.tags.tail = or9.map OpV.tag := by rw [← htag5]; rfl
        k_steps
        refine Stop.in ?_
        refine item_lst (by k_asm) (by k_mem) (by decide) (by decide) rfl ?_
        (try dsimp only); (try k_fold)
        k_steps
        rename Led => zF
        rename (Ex _ _ _ zF) => GF
        have GA := Ex.trans (l := l0) (z := z) (by ktu_off1L) GF
        rename Off [D5, tape] _ => OF
        obtain ⟨l₁, N9, E9, O9⟩ := deed_fin (l := l) (by k_asm) GA hl0 OF nDt
        have hz9 : ∀ p ∈ z5, p ∈ zF := by kt_eqs
        rename ((_, tupA #[_, _, _]) ∈ zF) => hm9
        exact hret _ _ _ _ (by k_asm) N9 ⟨[_], l₁, _, rfl, E9, O9, _, _, rfl, by omega, by omega, wd, .t :: or9, _, _, _, _, _, _, _, rfl, .tail _ hm9, .head _, (by rw [slice_first]; refine (tags_t wd).trans ?_; rw [htl9]; rfl), (OpsAt.mono (fun p hp => .tail _ hp) (.cons (.tru) (hr9.mono hz9))), (by simp only [List.length_cons] at hol ⊢; omega)⟩
    · cases hops5 with
      | nil =>
        k_steps
        rename Led => zF
        rename (Ex _ _ _ zF) => GF
        have GA := Ex.trans (l := l0) (z := z) (by ktu_off1L) GF
        rename Off [D5, tape] _ => OF
        obtain ⟨l₁, N9, E9, O9⟩ := deed_fin (l := l) (by k_asm) GA hl0 OF nDt
        have hz9 : ∀ p ∈ z5, p ∈ zF := by kt_eqs
        rename ((_, tupA #[_, _, _]) ∈ zF) => hm9
        exact hret _ _ _ _ (by k_asm) N9 ⟨[_], l₁, _, rfl, E9, O9, _, _, rfl, by omega, by omega, wd, [], _, _, _, _, _, _, _, rfl, .tail _ hm9, .head _, (by rw [← htag5]), (OpsAt.mono (fun p hp => .tail _ hp) (OpsAt.nil)), (Nat.zero_le _)⟩
      | @cons y o9 r9 or9 ho9 hr9 =>
        have htl9 : wd.tags.tail = or9.map OpV.tag := by rw [← htag5]; rfl
        k_steps
        refine Stop.in ?_
        refine item_lst (by k_asm) (by k_mem) (by decide) (by decide) rfl ?_
        (try dsimp only); (try k_fold)
        k_steps
        rename Led => zF
        rename (Ex _ _ _ zF) => GF
        have GA := Ex.trans (l := l0) (z := z) (by ktu_off1L) GF
        rename Off [D5, tape] _ => OF
        obtain ⟨l₁, N9, E9, O9⟩ := deed_fin (l := l) (by k_asm) GA hl0 OF nDt
        have hz9 : ∀ p ∈ z5, p ∈ zF := by kt_eqs
        rename ((_, tupA #[_, _, _]) ∈ zF) => hm9
        exact hret _ _ _ _ (by k_asm) N9 ⟨[_], l₁, _, rfl, E9, O9, _, _, rfl, by omega, by omega, wd, .m true :: or9, _, _, _, _, _, _, _, rfl, .tail _ hm9, .head _, (by rw [slice_first]; refine (tags_m9 wd).trans ?_; rw [htl9]; rfl), (OpsAt.mono (fun p hp => .tail _ hp) (.cons (by clear hz9; refine' Opd.nam (IsName.mono ?a ?b); (case a => with_reducible assumption); (case b => kt_eqs)) (hr9.mono hz9))), (by simp only [List.length_cons] at hol ⊢; omega)⟩
    · cases hops5 with
      | nil =>
        k_steps
        rename Led => zF
        rename (Ex _ _ _ zF) => GF
        have GA := Ex.trans (l := l0) (z := z) (by ktu_off1L) GF
        rename Off [D5, tape] _ => OF
        obtain ⟨l₁, N9, E9, O9⟩ := deed_fin (l := l) (by k_asm) GA hl0 OF nDt
        have hz9 : ∀ p ∈ z5, p ∈ zF := by kt_eqs
        rename ((_, tupA #[_, _, _]) ∈ zF) => hm9
        exact hret _ _ _ _ (by k_asm) N9 ⟨[_], l₁, _, rfl, E9, O9, _, _, rfl, by omega, by omega, wd, [], _, _, _, _, _, _, _, rfl, .tail _ hm9, .head _, (by rw [← htag5]), (OpsAt.mono (fun p hp => .tail _ hp) (OpsAt.nil)), (Nat.zero_le _)⟩
      | @cons y o9 r9 or9 ho9 hr9 =>
        have htl9 : wd.tags.tail = or9.map OpV.tag := by rw [← htag5]; rfl
        k_steps
        refine Stop.in ?_
        refine item_lst (by k_asm) (by k_mem) (by decide) (by decide) rfl ?_
        (try dsimp only); (try k_fold)
        k_steps
        rename Led => zF
        rename (Ex _ _ _ zF) => GF
        have GA := Ex.trans (l := l0) (z := z) (by ktu_off1L) GF
        rename Off [D5, tape] _ => OF
        obtain ⟨l₁, N9, E9, O9⟩ := deed_fin (l := l) (by k_asm) GA hl0 OF nDt
        have hz9 : ∀ p ∈ z5, p ∈ zF := by kt_eqs
        rename ((_, tupA #[_, _, _]) ∈ zF) => hm9
        exact hret _ _ _ _ (by k_asm) N9 ⟨[_], l₁, _, rfl, E9, O9, _, _, rfl, by omega, by omega, wd, .s (#[120] : Array UInt8).size :: or9, _, _, _, _, _, _, _, rfl, .tail _ hm9, .head _, (by rw [slice_first]; refine (tags_s9 wd).trans ?_; rw [htl9]; rfl), (OpsAt.mono (fun p hp => .tail _ hp) (.cons (by clear hz9; refine' Opd.str (IsStr.mono ?a ?b); (case a => with_reducible assumption); (case b => kt_eqs)) (hr9.mono hz9))), (by simp only [List.length_cons] at hol ⊢; omega)⟩
    · cases hops5 with
      | nil =>
        k_steps
        rename Led => zF
        rename (Ex _ _ _ zF) => GF
        have GA := Ex.trans (l := l0) (z := z) (by ktu_off1L) GF
        rename Off [D5, tape] _ => OF
        obtain ⟨l₁, N9, E9, O9⟩ := deed_fin (l := l) (by k_asm) GA hl0 OF nDt
        have hz9 : ∀ p ∈ z5, p ∈ zF := by kt_eqs
        rename ((_, tupA #[_, _, _]) ∈ zF) => hm9
        exact hret _ _ _ _ (by k_asm) N9 ⟨[_], l₁, _, rfl, E9, O9, _, _, rfl, by omega, by omega, wd, [], _, _, _, _, _, _, _, rfl, .tail _ hm9, .head _, (by rw [← htag5]), (OpsAt.mono (fun p hp => .tail _ hp) (OpsAt.nil)), (Nat.zero_le _)⟩
      | @cons y o9 r9 or9 ho9 hr9 =>
        have htl9 : wd.tags.tail = or9.map OpV.tag := by rw [← htag5]; rfl
        k_steps
        refine Stop.in ?_
        refine item_lst (by k_asm) (by k_mem) (by decide) (by decide) rfl ?_
        (try dsimp only); (try k_fold)
        k_steps
        rename Led => zF
        rename (Ex _ _ _ zF) => GF
        have GA := Ex.trans (l := l0) (z := z) (by ktu_off1L) GF
        rename Off [D5, tape] _ => OF
        obtain ⟨l₁, N9, E9, O9⟩ := deed_fin (l := l) (by k_asm) GA hl0 OF nDt
        have hz9 : ∀ p ∈ z5, p ∈ zF := by kt_eqs
        rename ((_, tupA #[_, _, _]) ∈ zF) => hm9
        exact hret _ _ _ _ (by k_asm) N9 ⟨[_], l₁, _, rfl, E9, O9, _, _, rfl, by omega, by omega, wd, .x :: or9, _, _, _, _, _, _, _, rfl, .tail _ hm9, .head _, (by rw [slice_first]; refine (tags_x wd).trans ?_; rw [htl9]; rfl), (OpsAt.mono (fun p hp => .tail _ hp) (.cons (by clear hz9; refine' Opd.bad ?h (IsName.mono ?a ?b); (case h => k_mem); (case a => with_reducible assumption); (case b => kt_eqs)) (hr9.mono hz9))), (by simp only [List.length_cons] at hol ⊢; omega)⟩
    · have e0 : spl ≠ 0 := by omega
      have e1 : spl ≠ 1 := by omega
      have e2 : 2 ≤ spl := by omega
      have e5 : ¬ spl ≤ 5 := by omega
      k_steps
      rename Led => zF
      rename (Ex _ _ _ zF) => GF
      have GA := Ex.trans (l := l0) (z := z) (by ktu_off1L) GF
      rename Off [D5, tape] _ => OF
      obtain ⟨l₁, N9, E9, O9⟩ := deed_fin (l := l) (by k_asm) GA hl0 OF nDt
      have hz9 : ∀ p ∈ z5, p ∈ zF := by kt_eqs
      rename ((_, tupA #[_, _, _]) ∈ zF) => hm9
      exact hret _ _ _ _ (by k_asm) N9 ⟨[_], l₁, _, rfl, E9, O9, _, _, rfl, by omega, by omega, wd, os5, _, _, _, _, _, _, _, rfl, .tail _ hm9, .head _, (by rw [htag5]), (OpsAt.mono (fun p hp => .tail _ hp) (hops5.mono hz9)), (by omega)⟩
end
local macro_rules | `(tactic| walk_at "pad") => `(tactic| skip)
local macro_rules | `(tactic| walk_at "pad") => `(tactic| skip)
local macro_rules | `(tactic| walk_at "pad") => `(tactic| skip)
local macro_rules | `(tactic| walk_at "pad") => `(tactic| skip)
local macro_rules | `(tactic| walk_at "pad") => `(tactic| skip)
local macro_rules | `(tactic| walk_at "pad") => `(tactic| skip)
local macro_rules | `(tactic| walk_at "pad") => `(tactic| skip)
local macro_rules | `(tactic| walk_at "pad") => `(tactic| skip)
local macro_rules | `(tactic| walk_at "pad") => `(tactic| skip)
local macro_rules | `(tactic| walk_at "pad") => `(tactic| skip)
local macro_rules | `(tactic| walk_at "pad") => `(tactic| skip)
local macro_rules | `(tactic| walk_at "pad") => `(tactic| skip)
local macro_rules | `(tactic| walk_at "pad") => `(tactic| skip)
local macro_rules | `(tactic| walk_at "pad") => `(tactic| skip)
local macro_rules | `(tactic| walk_at "pad") => `(tactic| skip)
local macro_rules | `(tactic| walk_at "pad") => `(tactic| skip)
local macro_rules | `(tactic| walk_at "pad") => `(tactic| skip)
local macro_rules | `(tactic| walk_at "pad") => `(tactic| skip)
local macro_rules | `(tactic| walk_at "pad") => `(tactic| skip)
local macro_rules | `(tactic| walk_at "pad") => `(tactic| skip)
local macro_rules | `(tactic| walk_at "pad") => `(tactic| skip)

/-- bytes of these lengths -/
inductive BytesAt : List Value → List Nat → Prop
  | nil : BytesAt [] []
  | cons {b : Array UInt8} {t : Tok} {vs : List Value} {ks : List Nat} (r : BytesAt vs ks) : BytesAt (.bytes b t :: vs) (b.size :: ks)
theorem BytesAt.snoc {b : Array UInt8} {t : Tok} : ∀ {vs : List Value} {ks : List Nat}, BytesAt vs ks → BytesAt (vs ++ [.bytes b t]) (ks ++ [b.size])
  | _, _, .nil => .cons .nil
  | _, _, .cons r => .cons r.snoc
theorem BytesAt.len : ∀ {vs : List Value} {ks : List Nat}, BytesAt vs ks → vs.length = ks.length
  | _, _, .nil => rfl
  | _, _, .cons r => congrArg (· + 1) r.len
/-- the list of the octets that an operation shows -/
def IsCodesL (z : Led) (r : Value) (ks : List Nat) : Prop := ∃ (d : Addr) (vs : List Value) (e : Nat), r = .ref d ∧ (d, W.listOf vs.toArray e) ∈ z ∧ BytesAt vs ks
theorem no_octs {wd : Wd} {os : List OpV} (h : wd ≠ .Tj) (h2 : wd ≠ .ap) (h3 : wd ≠ .qu) (h4 : wd ≠ .TJ) : octsOf wd os = [] := by cases wd <;> first | rfl | contradiction
theorem skip2 {a b : Addr × Obj} {l : Led} : ∀ p ∈ a :: l, p ∈ a :: b :: l := fun p hp => by
  rcases List.mem_cons.mp hp with rfl | hp
  · exact .head _
  · exact .tail _ (.tail _ hp)
section
local macro_rules | `(tactic| walk_at "call ref") => `(tactic| (k_here; (with_reducible show wpAny _ _ (call (Value.ref _) _) _ _ _); (refine Stop.out ?_; walk_say "STOP")))
theorem codes_Tj {w : World} {mean : ExcName → Option Value} {mg mb : Str → Option Value} {l z : Led} {tk : Tok} {k : Nat} {ol : Addr} {arr : Array Value} {e : Nat} (hs : ∀ p ∈ z, p ∈ l) (hol : (ol, W.listOf arr e) ∈ z) (hops : OpsAt z arr.toList [.s k]) :
    Fn w mean mg mb 790 20 [.str (Str.ofString "Tj") tk, .ref ol] l (fun r l' => ∃ z', Ex l z l' z' ∧ IsCodesL z' r [k]) := by
  unfold Fn
  k_fill
  intro dp un gd cn cs aa ccd cl outer A₀ base h₀ L m s Q E B F X N T hk' hdd hu hret
  obtain ⟨v1, rfl, q1⟩ := hops.one_of
  have i1 := q1.str_of
  cases i1 with
  | mk hx0 hdx0 hb0 =>
  have hx1 := hs _ hx0
  have hdx1 := hs _ hdx0
  have holl := hs _ hol
  kqd_sub
  rename (_ ∧ AllLt _ _) => lA
  exact hret _ _ _ _ (by k_asm) (News.sub (by k_asm) skip2) ⟨_, Ex.one Ex.refl (allLt_mem lA.2), _, _, _, rfl, .head _, .cons .nil⟩
theorem codes_ap {w : World} {mean : ExcName → Option Value} {mg mb : Str → Option Value} {l z : Led} {tk : Tok} {k : Nat} {ol : Addr} {arr : Array Value} {e : Nat} (hs : ∀ p ∈ z, p ∈ l) (hol : (ol, W.listOf arr e) ∈ z) (hops : OpsAt z arr.toList [.s k]) :
    Fn w mean mg mb 790 20 [.str (Str.ofString "'") tk, .ref ol] l (fun r l' => ∃ z', Ex l z l' z' ∧ IsCodesL z' r [k]) := by
  unfold Fn
  k_fill
  intro dp un gd cn cs aa ccd cl outer A₀ base h₀ L m s Q E B F X N T hk' hdd hu hret
  obtain ⟨v1, rfl, q1⟩ := hops.one_of
  have i1 := q1.str_of
  cases i1 with
  | mk hx0 hdx0 hb0 =>
  have hx1 := hs _ hx0
  have hdx1 := hs _ hdx0
  have holl := hs _ hol
  kqd_sub
  rename (_ ∧ AllLt _ _) => lA
  exact hret _ _ _ _ (by k_asm) (News.sub (by k_asm) skip2) ⟨_, Ex.one Ex.refl (allLt_mem lA.2), _, _, _, rfl, .head _, .cons .nil⟩
theorem codes_qu {w : World} {mean : ExcName → Option Value} {mg mb : Str → Option Value} {l z : Led} {tk : Tok} {k : Nat} {ol : Addr} {arr : Array Value} {e : Nat} (hs : ∀ p ∈ z, p ∈ l) (hol : (ol, W.listOf arr e) ∈ z) (hops : OpsAt z arr.toList [.n, .n, .s k]) :
    Fn w mean mg mb 790 20 [.str (Str.ofString "\"") tk, .ref ol] l (fun r l' => ∃ z', Ex l z l' z' ∧ IsCodesL z' r [k]) := by
  unfold Fn
  k_fill
  intro dp un gd cn cs aa ccd cl outer A₀ base h₀ L m s Q E B F X N T hk' hdd hu hret
  obtain ⟨v1, v2, v3, rfl, q1, q2, q3⟩ := hops.three_of
  have i1 := q3.str_of
  cases i1 with
  | mk hx0 hdx0 hb0 =>
  have hx1 := hs _ hx0
  have hdx1 := hs _ hdx0
  have holl := hs _ hol
  kqd_sub
  rename (_ ∧ AllLt _ _) => lA
  exact hret _ _ _ _ (by k_asm) (News.sub (by k_asm) skip2) ⟨_, Ex.one Ex.refl (allLt_mem lA.2), _, _, _, rfl, .head _, .cons .nil⟩
local macro_rules | `(tactic| walk_at "eval ListComp") => `(tactic| (k_here; refine Stop.out ?_; walk_say "STOP COMP"))
local macro_rules | `(tactic| walk_at "CompSrcT") => `(tactic| (k_here; refine Stop.out ?_; walk_say "STOP SRC"))
local macro_rules | `(tactic| walk_at "TestQ") => `(tactic| (k_here; refine Stop.out ?_; walk_say "STOP TEST"))
theorem codes_TJ {w : World} {mean : ExcName → Option Value} {mg mb : Str → Option Value} {l z : Led} {tk : Tok} {ps : List (Option Nat)} {ol : Addr} {arr : Array Value} {e : Nat} (hs : ∀ p ∈ z, p ∈ l) (hol : (ol, W.listOf arr e) ∈ z) (hops : OpsAt z arr.toList [.a ps]) :
    Fn w mean mg mb 790 20 [.str (Str.ofString "TJ") tk, .ref ol] l (fun r l' => ∃ z', Ex l z l' z' ∧ IsCodesL z' r (octs ps)) := by
  unfold Fn
  k_fill
  intro dp un gd cn cs aa ccd cl outer A₀ base h₀ L m s Q E B F X N T hk' hdd hu hret
  obtain ⟨v1, rfl, q1⟩ := hops.one_of
  obtain ⟨ax, arr2, e2, rfl, hax, hparts, hmem⟩ := q1.arr_of
  have hle := arrays_len hmem
  have hlen : arr2.size = ps.length := by rw [← Array.length_toList, hparts.len]
  have holl := hs _ hol
  have hxl := hs _ hax
  kqd_sub
  refine Stop.in ?_
  refine LCt.ListComp_T (by k_asm) (by rfl) (by decide) (by rfl) (by decide) (by rfl) ?_
  k_steps
  refine Stop.in ?_
  refine LCt.CompSrcT.ledger rfl (by k_asm) (by k_asm) hxl (by rw [sizeLine_eq]; omega) fun g => ?_
  refine compT_read (fun i ys => BytesAt ys (octs (ps.take i))) .nil ?_ ?_
  · rintro i ys hy hi v I oI C oC D m₂ h1 tk1 E' hv hC hx F1 N1 off ne
    have o3 := off3_off off
    rcases hparts.at i v (by rw [← Array.getElem?_toList] at hv; exact hv) with ⟨hpi, hnum⟩ | ⟨k, hpi, hstr⟩
    · have hy2 : BytesAt ys (octs (ps.take (i + 1))) := by rw [octs_take hpi]; simpa using hy
      cases hnum with
      | dec hd =>
        cases hd with
        | mk hdx hddx hp hn hb =>
        have hdx1 := hs _ hdx
        have hddx1 := hs _ hddx
        k_steps
        refine Stop.in ?_
        exact TestQ.no (by rfl) (by k_asm) (by k_asm) off (.inr ⟨_, hxl, rfl, _, rfl⟩) hy2
      | int _ =>
        k_steps
        refine Stop.in ?_
        exact TestQ.no (by rfl) (by k_asm) (by k_asm) off (.inr ⟨_, hxl, rfl, _, rfl⟩) hy2
    · cases hstr with
      | mk hx0 hdx0 hb0 =>
      have hx1 := hs _ hx0
      have hdx1 := hs _ hdx0
      k_steps
      refine Stop.in ?_
      refine TestQ.yes (by rfl) ?_
      k_steps
      exact compEnd_keep (by k_asm) (by k_asm) off (.inr ⟨_, hxl, rfl, _, rfl⟩) ⟨rfl, by rw [octs_take hpi]; exact hy.snoc⟩
  rintro ys hy D h1 tk1 F' N' o1
  (try dsimp only); (try k_fold)
  rw [hlen, octs_all] at hy
  k_steps
  exact hret _ _ _ _ (by k_asm) (by k_asm) ⟨_, Ex.off Ex.refl ((Off1.off o1).ne (.head _)), _, ys, _, rfl, .head _, hy⟩
end
local macro_rules | `(tactic| walk_at "pad") => `(tactic| skip)
local macro_rules | `(tactic| walk_at "pad") => `(tactic| skip)
local macro_rules | `(tactic| walk_at "pad") => `(tactic| skip)
local macro_rules | `(tactic| walk_at "pad") => `(tactic| skip)
local macro_rules | `(tactic| walk_at "pad") => `(tactic| skip)
section
theorem codes_BT {w : World} {mean : ExcName → Option Value} {mg mb : Str → Option Value} {l z : Led} {tk : Tok} {v : Value} (hs : ∀ p ∈ z, p ∈ l) :
    Fn w mean mg mb 790 20 [.str (Str.ofString "BT") tk, v] l (fun r l' => ∃ z', Ex l z l' z' ∧ IsCodesL z' r []) := by
  unfold Fn
  k_fill
  intro dp un gd cn cs aa ccd cl outer A₀ base h₀ L m s Q E B F X N T hk' hdd hu hret
  kqd_sub
  rename (_ ∧ AllLt _ _) => lA
  exact hret _ _ _ _ (by k_asm) (News.sub (by k_asm) skip2) ⟨_, Ex.one Ex.refl (allLt_mem lA.2), _, [], _, rfl, .head _, .nil⟩
theorem codes_ET {w : World} {mean : ExcName → Option Value} {mg mb : Str → Option Value} {l z : Led} {tk : Tok} {v : Value} (hs : ∀ p ∈ z, p ∈ l) :
    Fn w mean mg mb 790 20 [.str (Str.ofString "ET") tk, v] l (fun r l' => ∃ z', Ex l z l' z' ∧ IsCodesL z' r []) := by
  unfold Fn
  k_fill
  intro dp un gd cn cs aa ccd cl outer A₀ base h₀ L m s Q E B F X N T hk' hdd hu hret
  kqd_sub
  rename (_ ∧ AllLt _ _) => lA
  exact hret _ _ _ _ (by k_asm) (News.sub (by k_asm) skip2) ⟨_, Ex.one Ex.refl (allLt_mem lA.2), _, [], _, rfl, .head _, .nil⟩
theorem codes_Tf {w : World} {mean : ExcName → Option Value} {mg mb : Str → Option Value} {l z : Led} {tk : Tok} {v : Value} (hs : ∀ p ∈ z, p ∈ l) :
    Fn w mean mg mb 790 20 [.str (Str.ofString "Tf") tk, v] l (fun r l' => ∃ z', Ex l z l' z' ∧ IsCodesL z' r []) := by
  unfold Fn
  k_fill
  intro dp un gd cn cs aa ccd cl outer A₀ base h₀ L m s Q E B F X N T hk' hdd hu hret
  kqd_sub
  rename (_ ∧ AllLt _ _) => lA
  exact hret _ _ _ _ (by k_asm) (News.sub (by k_asm) skip2) ⟨_, Ex.one Ex.refl (allLt_mem lA.2), _, [], _, rfl, .head _, .nil⟩
theorem codes_q {w : World} {mean : ExcName → Option Value} {mg mb : Str → Option Value} {l z : Led} {tk : Tok} {v : Value} (hs : ∀ p ∈ z, p ∈ l) :
    Fn w mean mg mb 790 20 [.str (Str.ofString "q") tk, v] l (fun r l' => ∃ z', Ex l z l' z' ∧ IsCodesL z' r []) := by
  unfold Fn
  k_fill
  intro dp un gd cn cs aa ccd cl outer A₀ base h₀ L m s Q E B F X N T hk' hdd hu hret
  kqd_sub
  rename (_ ∧ AllLt _ _) => lA
  exact hret _ _ _ _ (by k_asm) (News.sub (by k_asm) skip2) ⟨_, Ex.one Ex.refl (allLt_mem lA.2), _, [], _, rfl, .head _, .nil⟩
theorem codes_Q {w : World} {mean : ExcName → Option Value} {mg mb : Str → Option Value} {l z : Led} {tk : Tok} {v : Value} (hs : ∀ p ∈ z, p ∈ l) :
    Fn w mean mg mb 790 20 [.str (Str.ofString "Q") tk, v] l (fun r l' => ∃ z', Ex l z l' z' ∧ IsCodesL z' r []) := by
  unfold Fn
  k_fill
  intro dp un gd cn cs aa ccd cl outer A₀ base h₀ L m s Q E B F X N T hk' hdd hu hret
  kqd_sub
  rename (_ ∧ AllLt _ _) => lA
  exact hret _ _ _ _ (by k_asm) (News.sub (by k_asm) skip2) ⟨_, Ex.one Ex.refl (allLt_mem lA.2), _, [], _, rfl, .head _, .nil⟩
theorem codes_Ts {w : World} {mean : ExcName → Option Value} {mg mb : Str → Option Value} {l z : Led} {tk : Tok} {v : Value} (hs : ∀ p ∈ z, p ∈ l) :
    Fn w mean mg mb 790 20 [.str (Str.ofString "T*") tk, v] l (fun r l' => ∃ z', Ex l z l' z' ∧ IsCodesL z' r []) := by
  unfold Fn
  k_fill
  intro dp un gd cn cs aa ccd cl outer A₀ base h₀ L m s Q E B F X N T hk' hdd hu hret
  kqd_sub
  rename (_ ∧ AllLt _ _) => lA
  exact hret _ _ _ _ (by k_asm) (News.sub (by k_asm) skip2) ⟨_, Ex.one Ex.refl (allLt_mem lA.2), _, [], _, rfl, .head _, .nil⟩
theorem codes_Td {w : World} {mean : ExcName → Option Value} {mg mb : Str → Option Value} {l z : Led} {tk : Tok} {v : Value} (hs : ∀ p ∈ z, p ∈ l) :
    Fn w mean mg mb 790 20 [.str (Str.ofString "Td") tk, v] l (fun r l' => ∃ z', Ex l z l' z' ∧ IsCodesL z' r []) := by
  unfold Fn
  k_fill
  intro dp un gd cn cs aa ccd cl outer A₀ base h₀ L m s Q E B F X N T hk' hdd hu hret
  kqd_sub
  rename (_ ∧ AllLt _ _) => lA
  exact hret _ _ _ _ (by k_asm) (News.sub (by k_asm) skip2) ⟨_, Ex.one Ex.refl (allLt_mem lA.2), _, [], _, rfl, .head _, .nil⟩
theorem codes_TD {w : World} {mean : ExcName → Option Value} {mg mb : Str → Option Value} {l z : Led} {tk : Tok} {v : Value} (hs : ∀ p ∈ z, p ∈ l) :
    Fn w mean mg mb 790 20 [.str (Str.ofString "TD") tk, v] l (fun r l' => ∃ z', Ex l z l' z' ∧ IsCodesL z' r []) := by
  unfold Fn
  k_fill
  intro dp un gd cn cs aa ccd cl outer A₀ base h₀ L m s Q E B F X N T hk' hdd hu hret
  kqd_sub
  rename (_ ∧ AllLt _ _) => lA
  exact hret _ _ _ _ (by k_asm) (News.sub (by k_asm) skip2) ⟨_, Ex.one Ex.refl (allLt_mem lA.2), _, [], _, rfl, .head _, .nil⟩
theorem codes_Tm {w : World} {mean : ExcName → Option Value} {mg mb : Str → Option Value} {l z : Led} {tk : Tok} {v : Value} (hs : ∀ p ∈ z, p ∈ l) :
    Fn w mean mg mb 790 20 [.str (Str.ofString "Tm") tk, v] l (fun r l' => ∃ z', Ex l z l' z' ∧ IsCodesL z' r []) := by
  unfold Fn
  k_fill
  intro dp un gd cn cs aa ccd cl outer A₀ base h₀ L m s Q E B F X N T hk' hdd hu hret
  kqd_sub
  rename (_ ∧ AllLt _ _) => lA
  exact hret _ _ _ _ (by k_asm) (News.sub (by k_asm) skip2) ⟨_, Ex.one Ex.refl (allLt_mem lA.2), _, [], _, rfl, .head _, .nil⟩
theorem codes_Tc {w : World} {mean : ExcName → Option Value} {mg mb : Str → Option Value} {l z : Led} {tk : Tok} {v : Value} (hs : ∀ p ∈ z, p ∈ l) :
    Fn w mean mg mb 790 20 [.str (Str.ofString "Tc") tk, v] l (fun r l' => ∃ z', Ex l z l' z' ∧ IsCodesL z' r []) := by
  unfold Fn
  k_fill
  intro dp un gd cn cs aa ccd cl outer A₀ base h₀ L m s Q E B F X N T hk' hdd hu hret
  kqd_sub
  rename (_ ∧ AllLt _ _) => lA
  exact hret _ _ _ _ (by k_asm) (News.sub (by k_asm) skip2) ⟨_, Ex.one Ex.refl (allLt_mem lA.2), _, [], _, rfl, .head _, .nil⟩
theorem codes_Tr {w : World} {mean : ExcName → Option Value} {mg mb : Str → Option Value} {l z : Led} {tk : Tok} {v : Value} (hs : ∀ p ∈ z, p ∈ l) :
    Fn w mean mg mb 790 20 [.str (Str.ofString "Tr") tk, v] l (fun r l' => ∃ z', Ex l z l' z' ∧ IsCodesL z' r []) := by
  unfold Fn
  k_fill
  intro dp un gd cn cs aa ccd cl outer A₀ base h₀ L m s Q E B F X N T hk' hdd hu hret
  kqd_sub
  rename (_ ∧ AllLt _ _) => lA
  exact hret _ _ _ _ (by k_asm) (News.sub (by k_asm) skip2) ⟨_, Ex.one Ex.refl (allLt_mem lA.2), _, [], _, rfl, .head _, .nil⟩
theorem codes_cm {w : World} {mean : ExcName → Option Value} {mg mb : Str → Option Value} {l z : Led} {tk : Tok} {v : Value} (hs : ∀ p ∈ z, p ∈ l) :
    Fn w mean mg mb 790 20 [.str (Str.ofString "cm") tk, v] l (fun r l' => ∃ z', Ex l z l' z' ∧ IsCodesL z' r []) := by
  unfold Fn
  k_fill
  intro dp un gd cn cs aa ccd cl outer A₀ base h₀ L m s Q E B F X N T hk' hdd hu hret
  kqd_sub
  rename (_ ∧ AllLt _ _) => lA
  exact hret _ _ _ _ (by k_asm) (News.sub (by k_asm) skip2) ⟨_, Ex.one Ex.refl (allLt_mem lA.2), _, [], _, rfl, .head _, .nil⟩
theorem codes_Do {w : World} {mean : ExcName → Option Value} {mg mb : Str → Option Value} {l z : Led} {tk : Tok} {v : Value} (hs : ∀ p ∈ z, p ∈ l) :
    Fn w mean mg mb 790 20 [.str (Str.ofString "Do") tk, v] l (fun r l' => ∃ z', Ex l z l' z' ∧ IsCodesL z' r []) := by
  unfold Fn
  k_fill
  intro dp un gd cn cs aa ccd cl outer A₀ base h₀ L m s Q E B F X N T hk' hdd hu hret
  kqd_sub
  rename (_ ∧ AllLt _ _) => lA
  exact hret _ _ _ _ (by k_asm) (News.sub (by k_asm) skip2) ⟨_, Ex.one Ex.refl (allLt_mem lA.2), _, [], _, rfl, .head _, .nil⟩
theorem codes_re {w : World} {mean : ExcName → Option Value} {mg mb : Str → Option Value} {l z : Led} {tk : Tok} {v : Value} (hs : ∀ p ∈ z, p ∈ l) :
    Fn w mean mg mb 790 20 [.str (Str.ofString "re") tk, v] l (fun r l' => ∃ z', Ex l z l' z' ∧ IsCodesL z' r []) := by
  unfold Fn
  k_fill
  intro dp un gd cn cs aa ccd cl outer A₀ base h₀ L m s Q E B F X N T hk' hdd hu hret
  kqd_sub
  rename (_ ∧ AllLt _ _) => lA
  exact hret _ _ _ _ (by k_asm) (News.sub (by k_asm) skip2) ⟨_, Ex.one Ex.refl (allLt_mem lA.2), _, [], _, rfl, .head _, .nil⟩
end
theorem lawCodes_ok {w : World} {mean : ExcName → Option Value} {mg mb : Str → Option Value} {l z : Led} {wd : Wd} {tk : Tok} {os : List OpV} {ol : Addr} {arr : Array Value} {e : Nat} (hs : ∀ p ∈ z, p ∈ l) (hol : (ol, W.listOf arr e) ∈ z) (hops : OpsAt z arr.toList os) (hk : kindsBad wd os = false) :
    Fn w mean mg mb 790 20 [.str wd.str tk, .ref ol] l (fun r l' => ∃ z', Ex l z l' z' ∧ IsCodesL z' r (octsOf wd os)) := by
  have hm : wd.kinds = none ∨ wd.kinds = some (os.map OpV.tag) := by
    unfold kindsBad at hk
    cases h : wd.kinds with
    | none => exact .inl rfl
    | some tgs =>
      rw [h] at hk
      simp only [Bool.not_eq_false', decide_eq_true_eq] at hk
      exact .inr (by rw [hk])
  cases wd with
  | Tj =>
    obtain ⟨k, r1, rfl, h1⟩ := tags_s (Option.some.inj (hm.resolve_left (by decide))).symm
    obtain rfl := tags_nil h1
    exact codes_Tj hs hol hops
  | ap =>
    obtain ⟨k, r1, rfl, h1⟩ := tags_s (Option.some.inj (hm.resolve_left (by decide))).symm
    obtain rfl := tags_nil h1
    exact codes_ap hs hol hops
  | qu =>
    obtain ⟨r1, rfl, h1⟩ := tags_n (Option.some.inj (hm.resolve_left (by decide))).symm
    obtain ⟨r2, rfl, h2⟩ := tags_n h1
    obtain ⟨k, r3, rfl, h3⟩ := tags_s h2
    obtain rfl := tags_nil h3
    exact codes_qu hs hol hops
  | TJ =>
    obtain ⟨ps, r1, rfl, h1⟩ := tags_a (Option.some.inj (hm.resolve_left (by decide))).symm
    obtain rfl := tags_nil h1
    exact codes_TJ hs hol hops
  | BT => exact codes_BT hs
  | ET => exact codes_ET hs
  | Tf => exact codes_Tf hs
  | q => exact codes_q hs
  | Q => exact codes_Q hs
  | Ts => exact codes_Ts hs
  | Td => exact codes_Td hs
  | TD => exact codes_TD hs
  | Tm => exact codes_Tm hs
  | Tc => exact codes_Tc hs
  | Tr => exact codes_Tr hs
  | cm => exact codes_cm hs
  | Do => exact codes_Do hs
  | re => exact codes_re hs

def fltStr : Option Flt → Str
  | none => Str.ofString ""
  | some .paint => Str.ofString "paint"
  | some .font => Str.ofString "font"
/-- the law's world in the heap, at x, its pile at pl -/
def WorldD (w : World) (o : Obj) (V : WS) (pl : Addr) (t : Tok) : Prop := o.IsDictOf (PySem.strKind PySem.Challenge.rw_og0194_01.row.prog w) [(Str.ofString "open", .bool V.op), (Str.ofString "font", .bool V.font), (Str.ofString "pile", .ref pl), (Str.ofString "count", .int (V.count : Int) t)]
theorem inside_in {w : World} {A : Around} {E : Value → Shared → Prop} {s : Shared} {h₀ : Heap} {L : Addr} {m : Str → Option Value} {wd : Wd} {t : Tok} {Q : Value → Shared → Prop} (F : Fr h₀ L s.heap m) (X : (hd.heap_39 w.params).In h₀) (h : Q (.bool wd.inside) s) :
    wpAny (model PySem.Challenge.rw_og0194_01.row.prog w) A (compareOp .In (.str wd.str t) (.ref 766)) Q E s := by
  have hl : (hd.heap_39 w.params).lookup 766 = some { cls := .type "tuple", data := .seq #[.str (Str.ofString "Tj") 1404, .str (Str.ofString "ET") 1405, .str (Str.ofString "'") 1406, .str (Str.ofString "\"") 1407, .str (Str.ofString "TJ") 1408, .str (Str.ofString "T*") 1409, .str (Str.ofString "Td") 1410, .str (Str.ofString "TD") 1411, .str (Str.ofString "Tm") 1412] } := by kernel_rfl
  refine in_tuple_strs (ys := [Str.ofString "Tj", Str.ofString "ET", Str.ofString "'", Str.ofString "\"", Str.ofString "TJ", Str.ofString "T*", Str.ofString "Td", Str.ofString "TD", Str.ofString "Tm"]) ⟨_, F.keep _ _ (X _ _ hl), rfl, _, rfl⟩ (.cons _ _ (.cons _ _ (.cons _ _ (.cons _ _ (.cons _ _ (.cons _ _ (.cons _ _ (.cons _ _ (.cons _ _ .nil))))))))) ?_
  have e : ([Str.ofString "Tj", Str.ofString "ET", Str.ofString "'", Str.ofString "\"", Str.ofString "TJ", Str.ofString "T*", Str.ofString "Td", Str.ofString "TD", Str.ofString "Tm"].any fun y => y == wd.str) = wd.inside := by cases wd <;> decide +kernel
  rw [e]
  exact h
theorem kd_itemT {prog : Program} {w : World} {K : Type} [DecidableEq K] {knd : KeyKind prog w K} {A : Around} {E : Value → Shared → Prop} {s : Shared} {h₀ : Heap} {L d : Addr} {key v : Value} {k : K} {news : Led} {o : Obj} {kvs : List (K × Value)} {value slice : PySem.Expr} {Q : Value → Shared → Prop} (N : News h₀ L s.heap news) (hp : (d, o) ∈ news) (hd : o.IsDictOf knd kvs) (hkey : knd.is k key = true) (hl : valueAt kvs k = some v) (h : Q v { s with toks := s.toks + 1 })
    (hs : subscripted slice false (.ref d) key = operate [.ref d, key] (getItem (.ref d) key) := by with_unfolding_all rfl) :
    wpAny (model prog w) A (subscriptTail value slice (.ref d) key) Q E s :=
  have hD := kda_dict N hp hd
  tail_any hD.typeIs slot_dict_getitem.lookup (wpAny_getItem_of hkey hD.mapOf hl h) hs
theorem str_ext9 {x y : Str} (h : x.cps.toList = y.cps.toList) : x = y := by
  obtain ⟨a⟩ := x
  obtain ⟨b⟩ := y
  exact congrArg Str.mk (Array.toList_inj.mp h)
theorem ne_yes {prog : Program} {w : World} {A : Around} {E : Value → Shared → Prop} {s : Shared} {x y : Str} {t u : Tok} {Q : Value → Shared → Prop} (hn : x ≠ y) (h : Q (.bool true) s) : wpAny (model prog w) A (compareOp .NotEq (.str x t) (.str y u)) Q E s :=
  PySem.P.ne_str (by rw [show (x.cps.toList != y.cps.toList) = true from by rw [bne_iff_ne]; exact fun e => hn (str_ext9 e)]; exact h)
theorem ne_same {prog : Program} {w : World} {A : Around} {E : Value → Shared → Prop} {s : Shared} {x : Str} {t u : Tok} {Q : Value → Shared → Prop} (h : Q (.bool false) s) : wpAny (model prog w) A (compareOp .NotEq (.str x t) (.str x u)) Q E s :=
  PySem.P.ne_str (by rw [show (x.cps.toList != x.cps.toList) = false from by simp]; exact h)
theorem kinds_bad {wd : Wd} {os : List OpV} (h : kindsBad wd os = true) : ∃ tgs, wd.kinds = some tgs ∧ os.map OpV.tag ≠ tgs := by
  unfold kindsBad at h
  cases hk : wd.kinds with
  | none => rw [hk] at h; cases h
  | some tgs =>
    rw [hk] at h
    exact ⟨tgs, rfl, by simpa using h⟩
section
local macro_rules | `(tactic| walk_at "call ref") => `(tactic| (k_here; (with_reducible show wpAny _ _ (call (Value.ref _) _) _ _ _); (refine Stop.out ?_; walk_say "STOP")))
local macro_rules | `(tactic| walk_at "compareOp NotEq str str") => `(tactic| (k_here; refine Stop.out ?_; walk_say "STOP NE"))
local macro_rules | `(tactic| walk_at "compareOp In str ref") => `(tactic| (k_here; refine Stop.out ?_; walk_say "STOP IN"))
local macro_rules | `(tactic| walk_at "subscriptTail") => `(tactic| (k_here; (with_reducible show wpAny _ _ (subscriptTail _ _ (Value.ref _) (Value.str (Wd.str _) _)) _ _ _); refine Stop.out ?_; walk_say "STOP ITEM"))
theorem fault_bad {w : World} {mean : ExcName → Option Value} {mg mb : Str → Option Value} {l z : Led} {x ol : Addr} {wd : Wd} {os : List OpV} {tk tk2 : Tok} (hs : ∀ p ∈ z, p ∈ l) (hk : kindsBad wd os = true) :
    Fn w mean mg mb 797 30 [.ref x, .str wd.str tk, .ref ol, .str (tagStr (os.map OpV.tag)) tk2] l (fun r l' => ∃ z', Ex l z l' z' ∧ ∃ t, r = .str (Str.ofString "paint") t) := by
  unfold Fn
  k_fill
  intro dp un gd cn cs aa ccd cl outer A₀ base h₀ L m s Q E B F X N T hk' hdd hu hret
  kqd_sub
  refine Stop.in ?_
  (refine' Fn.useM (M := []) ?N ?hs (lawKinds_ok (z := z) (sub_on ?hs)) ?B ?F ?X ?T ?kK ?kd ?ku ?O ?_); (case N => k_asm); (case hs => with_reducible assumption); kaf_suf
  rintro r4 l4 z4 h4 tk4 F4 N4 G4 hzz4 hzl4 O4 ⟨kd, ko, D, rfl, hkm, hlo, hkd, htab⟩
  clear O4
  have hG4 := Grow.of G4
  obtain ⟨tk9, hval⟩ := htab wd
  have hkl := hzl4 _ hkm
  simp only [List.nil_append] at N4
  (try dsimp only); (try k_fold)
  k_steps
  refine Stop.in ?_
  obtain ⟨tgs, hkk, hne⟩ := kinds_bad hk
  refine kda_in (knd := PySem.strKind _ _) (by k_asm) (by k_mem) hkd hlo (strKind_is _ _ _ _) true (by rw [hval, hkk]; rfl) ?_
  (try dsimp only); (try k_fold)
  k_steps
  refine Stop.in ?_
  (refine' Fn.useM (M := []) ?N ?hs (lawKinds_ok (z := z4) (sub_on ?hs)) ?B ?F ?X ?T ?kK ?kd ?ku ?O ?_); (case N => k_asm); (case hs => with_reducible assumption); kaf_suf
  rintro r5 l5 z5 h5 tk5 F5 N5 G5 hzz5 hzl5 O5 ⟨kd5, ko5, D5, rfl, hkm5, hlo5, hkd5, htab5⟩
  clear O5
  have hG5 := Grow.of G5
  obtain ⟨tk9, hval5⟩ := htab5 wd
  have hkl5 := hzl5 _ hkm5
  simp only [List.nil_append] at N5
  (try dsimp only); (try k_fold)
  k_steps
  refine Stop.in ?_
  refine kd_itemT (knd := PySem.strKind _ _) (by k_asm) hkl5 hkd5 (strKind_is _ _ _ _) (v := .str (tagStr tgs) tk9) (by rw [hval5, hkk]; rfl) ?_
  (try dsimp only); (try k_fold)
  k_steps
  refine Stop.in ?_
  refine ne_yes (fun e => hne (tagStr_inj e)) ?_
  (try dsimp only); (try k_fold)
  k_steps
  exact hret _ _ _ _ (by k_asm) (by k_asm) ⟨_, G4.trans G5, _, rfl⟩
end
local macro_rules | `(tactic| walk_at "pad") => `(tactic| skip)
local macro_rules | `(tactic| walk_at "pad") => `(tactic| skip)
local macro_rules | `(tactic| walk_at "pad") => `(tactic| skip)
local macro_rules | `(tactic| walk_at "pad") => `(tactic| skip)
local macro_rules | `(tactic| walk_at "pad") => `(tactic| skip)

theorem fault_in {V : WS} {wd : Wd} {os : List OpV} (hk : kindsBad wd os = false) (hin : wd.inside = true) (hop : V.op = false) : faultOf V wd os = some .paint := by
  unfold faultOf
  rw [hk, hin, hop]
  rfl
theorem fault_BT {V : WS} {os : List OpV} (hk : kindsBad .BT os = false) (hop : V.op = true) : faultOf V .BT os = some .paint := by
  unfold faultOf
  rw [hk, hop]
  rfl
theorem fault_Tf {V : WS} {r : List OpV} (hk : kindsBad .Tf (.m false :: r) = false) : faultOf V .Tf (.m false :: r) = some .font := by
  unfold faultOf
  rw [hk]
  rfl
theorem BytesAt.cons_of {vs : List Value} {ks : List Nat} (h : BytesAt vs ks) (hne : ks ≠ []) : ∃ b t vs2, vs = .bytes b t :: vs2 := by
  cases h with
  | nil => exact absurd rfl hne
  | cons r => exact ⟨_, _, _, rfl⟩
theorem fault_rest {V : WS} {wd : Wd} {os : List OpV} (hk : kindsBad wd os = false) (h1 : (wd.inside && !V.op) = false) (h2 : (decide (wd = .BT) && V.op) = false) (h3 : (decide (wd = .Q) && V.pile.isEmpty) = false) (h4 : wd = .Tf → ∃ r, os = .m true :: r) :
    faultOf V wd os = if (!(octsOf wd os).isEmpty && !V.font) = true then some .font else none := by
  unfold faultOf
  rw [hk, h1, h2, h3]
  by_cases e : wd = .Tf
  · obtain ⟨r, rfl⟩ := h4 e
    subst e
    rfl
  · simp [e]
section
local macro_rules | `(tactic| walk_at "call ref") => `(tactic| (k_here; (with_reducible show wpAny _ _ (call (Value.ref _) _) _ _ _); (refine Stop.out ?_; walk_say "STOP")))
local macro_rules | `(tactic| walk_at "compareOp In str ref") => `(tactic| (k_here; (with_reducible show wpAny _ _ (compareOp CmpOp.In (Value.str (Wd.str _) _) _) _ _ _); refine Stop.out ?_; walk_say "STOP IN"))
local macro_rules | `(tactic| walk_at "subscriptTail") => `(tactic| (k_here; (with_reducible show wpAny _ _ (subscriptTail _ _ (Value.ref _) (Value.str (Wd.str _) _)) _ _ _); refine Stop.out ?_; walk_say "STOP ITEM"))
local macro_rules | `(tactic| walk_at "compareOp NotEq str str") => `(tactic| (k_here; refine Stop.out ?_; walk_say "STOP NE"))
local macro_rules | `(tactic| walk_at "compareOp NotEq ref ref") => `(tactic| (k_here; refine Stop.out ?_; walk_say "STOP NER"))
local macro_rules | `(tactic| walk_at "compareOp Eq ref ref") => `(tactic| (k_here; refine Stop.out ?_; walk_say "STOP EQR"))
theorem fault_known {w : World} {mean : ExcName → Option Value} {mg mb : Str → Option Value} {l z : Led} {x ol pl : Addr} {oW : Obj} {V : WS} {tW : Tok} {parr arr : Array Value} {pn e : Nat} {wd : Wd} {os : List OpV} {tk tk2 : Tok} (hs : ∀ p ∈ z, p ∈ l) (hx : (x, oW) ∈ l) (hW : WorldD w oW V pl tW) (hp : (pl, W.listOf parr pn) ∈ l) (hpn : parr.size = V.pile.length)
    (hol : (ol, W.listOf arr e) ∈ z) (hops : OpsAt z arr.toList os) (hk : kindsBad wd os = false) (hkk : wd.kinds = some (os.map OpV.tag)) :
    Fn w mean mg mb 797 40 [.ref x, .str wd.str tk, .ref ol, .str (tagStr (os.map OpV.tag)) tk2] l (fun r l' => ∃ z', Ex l z l' z' ∧ ∃ t, r = .str (fltStr (faultOf V wd os)) t) := by
  unfold Fn
  k_fill
  intro dp un gd cn cs aa ccd cl outer A₀ base h₀ L m s Q E B F X N T hk' hdd hu hret
  kqd_sub
  refine Stop.in ?_
  (refine' Fn.useM (M := []) ?N ?hs (lawKinds_ok (z := z) (sub_on ?hs)) ?B ?F ?X ?T ?kK ?kd ?ku ?O ?_); (case N => k_asm); (case hs => with_reducible assumption); kaf_suf
  rintro r4 l4 z4 h4 tk4 F4 N4 G4 hzz4 hzl4 O4 ⟨kd, ko, D, rfl, hkm, hlo, hkd, htab⟩
  clear O4
  have hG4 := Grow.of G4
  obtain ⟨tk9, hval⟩ := htab wd
  have hkl := hzl4 _ hkm
  simp only [List.nil_append] at N4
  (try dsimp only); (try k_fold)
  k_steps
  refine Stop.in ?_
  refine kda_in (knd := PySem.strKind _ _) (by k_asm) (by k_mem) hkd hlo (strKind_is _ _ _ _) true (by rw [hval, hkk]; rfl) ?_
  (try dsimp only); (try k_fold)
  k_steps
  refine Stop.in ?_
  (refine' Fn.useM (M := []) ?N ?hs (lawKinds_ok (z := z4) (sub_on ?hs)) ?B ?F ?X ?T ?kK ?kd ?ku ?O ?_); (case N => k_asm); (case hs => with_reducible assumption); kaf_suf
  rintro r5 l5 z5 h5 tk5 F5 N5 G5 hzz5 hzl5 O5 ⟨kd5, ko5, D5, rfl, hkm5, hlo5, hkd5, htab5⟩
  clear O5
  have hG5 := Grow.of G5
  obtain ⟨tk9, hval5⟩ := htab5 wd
  have hkl5 := hzl5 _ hkm5
  simp only [List.nil_append] at N5
  (try dsimp only); (try k_fold)
  k_steps
  refine Stop.in ?_
  refine kd_itemT (knd := PySem.strKind _ _) (by k_asm) hkl5 hkd5 (strKind_is _ _ _ _) (v := .str (tagStr (os.map OpV.tag)) tk9) (by rw [hval5, hkk]; rfl) ?_
  (try dsimp only); (try k_fold)
  k_steps
  refine Stop.in ?_
  refine ne_same ?_
  (try dsimp only); (try k_fold)
  k_steps
  refine Stop.in ?_
  refine inside_in (by k_asm) (by k_asm) ?_
  clear hkl hkl5 hkd hkd5 hkm hkm5 hval hval5 htab htab5
  have hW' := hW
  unfold WorldD at hW'
  cases wd
  case ET =>
    generalize hword : Wd.str .ET = word at *
    have hw9 : word = Str.ofString "ET" := hword.symm
    clear hword
    subst hw9
    show wpAny _ _ _ _ _ _
    k_steps
    · rename (V.op = true) => hop9
      refine Stop.in ?_
      (refine' Fn.useM (M := []) ?N ?hs (lawCodes_ok (wd := .ET) (z := z5) (sub_on ?hs) (hzz5 _ (hzz4 _ hol)) ((hops.mono hzz4).mono hzz5) hk) ?B ?F ?X ?T ?kK ?kd ?ku ?O ?_); (case N => k_asm); (case hs => with_reducible assumption); kaf_suf
      rintro r6 l6 z6 h6 tk6 F6 N6 G6 hzz6 hzl6 O6 ⟨cd, vs, ce, rfl, hcm, hby⟩
      clear O6
      have hG6 := Grow.of G6
      have hcl := hzl6 _ hcm
      simp only [List.nil_append] at N6
      (try dsimp only); (try k_fold)
      k_steps
      refine Stop.in ?_
      obtain rfl : vs = [] := List.eq_nil_of_length_eq_zero hby.len
      refine ne_nil (x := false) (vs := []) (News.isArr (by k_asm) (by k_mem)) (News.isArr (by k_asm) (by k_mem)) (by kas_types) ne_none9 ?_
      (try dsimp only); (try k_fold)
      k_steps
      exact hret _ _ _ _ (by k_asm) (News.tl (by k_asm)) ⟨_, (G4.trans G5).trans G6, _, by rw [fault_rest hk (by rw [hop9]; rfl) (rfl) rfl (fun e => by cases e)]; rfl⟩
    · exact hret _ _ _ _ (by k_asm) (by k_asm) ⟨_, G4.trans G5, _, by rw [fault_in hk rfl (by assumption)]; rfl⟩
  case Ts =>
    generalize hword : Wd.str .Ts = word at *
    have hw9 : word = Str.ofString "T*" := hword.symm
    clear hword
    subst hw9
    show wpAny _ _ _ _ _ _
    k_steps
    · rename (V.op = true) => hop9
      refine Stop.in ?_
      (refine' Fn.useM (M := []) ?N ?hs (lawCodes_ok (wd := .Ts) (z := z5) (sub_on ?hs) (hzz5 _ (hzz4 _ hol)) ((hops.mono hzz4).mono hzz5) hk) ?B ?F ?X ?T ?kK ?kd ?ku ?O ?_); (case N => k_asm); (case hs => with_reducible assumption); kaf_suf
      rintro r6 l6 z6 h6 tk6 F6 N6 G6 hzz6 hzl6 O6 ⟨cd, vs, ce, rfl, hcm, hby⟩
      clear O6
      have hG6 := Grow.of G6
      have hcl := hzl6 _ hcm
      simp only [List.nil_append] at N6
      (try dsimp only); (try k_fold)
      k_steps
      refine Stop.in ?_
      obtain rfl : vs = [] := List.eq_nil_of_length_eq_zero hby.len
      refine ne_nil (x := false) (vs := []) (News.isArr (by k_asm) (by k_mem)) (News.isArr (by k_asm) (by k_mem)) (by kas_types) ne_none9 ?_
      (try dsimp only); (try k_fold)
      k_steps
      exact hret _ _ _ _ (by k_asm) (News.tl (by k_asm)) ⟨_, (G4.trans G5).trans G6, _, by rw [fault_rest hk (by rw [hop9]; rfl) (rfl) rfl (fun e => by cases e)]; rfl⟩
    · exact hret _ _ _ _ (by k_asm) (by k_asm) ⟨_, G4.trans G5, _, by rw [fault_in hk rfl (by assumption)]; rfl⟩
  case Td =>
    generalize hword : Wd.str .Td = word at *
    have hw9 : word = Str.ofString "Td" := hword.symm
    clear hword
    subst hw9
    show wpAny _ _ _ _ _ _
    k_steps
    · rename (V.op = true) => hop9
      refine Stop.in ?_
      (refine' Fn.useM (M := []) ?N ?hs (lawCodes_ok (wd := .Td) (z := z5) (sub_on ?hs) (hzz5 _ (hzz4 _ hol)) ((hops.mono hzz4).mono hzz5) hk) ?B ?F ?X ?T ?kK ?kd ?ku ?O ?_); (case N => k_asm); (case hs => with_reducible assumption); kaf_suf
      rintro r6 l6 z6 h6 tk6 F6 N6 G6 hzz6 hzl6 O6 ⟨cd, vs, ce, rfl, hcm, hby⟩
      clear O6
      have hG6 := Grow.of G6
      have hcl := hzl6 _ hcm
      simp only [List.nil_append] at N6
      (try dsimp only); (try k_fold)
      k_steps
      refine Stop.in ?_
      obtain rfl : vs = [] := List.eq_nil_of_length_eq_zero hby.len
      refine ne_nil (x := false) (vs := []) (News.isArr (by k_asm) (by k_mem)) (News.isArr (by k_asm) (by k_mem)) (by kas_types) ne_none9 ?_
      (try dsimp only); (try k_fold)
      k_steps
      exact hret _ _ _ _ (by k_asm) (News.tl (by k_asm)) ⟨_, (G4.trans G5).trans G6, _, by rw [fault_rest hk (by rw [hop9]; rfl) (rfl) rfl (fun e => by cases e)]; rfl⟩
    · exact hret _ _ _ _ (by k_asm) (by k_asm) ⟨_, G4.trans G5, _, by rw [fault_in hk rfl (by assumption)]; rfl⟩
  case TD =>
    generalize hword : Wd.str .TD = word at *
    have hw9 : word = Str.ofString "TD" := hword.symm
    clear hword
    subst hw9
    show wpAny _ _ _ _ _ _
    k_steps
    · rename (V.op = true) => hop9
      refine Stop.in ?_
      (refine' Fn.useM (M := []) ?N ?hs (lawCodes_ok (wd := .TD) (z := z5) (sub_on ?hs) (hzz5 _ (hzz4 _ hol)) ((hops.mono hzz4).mono hzz5) hk) ?B ?F ?X ?T ?kK ?kd ?ku ?O ?_); (case N => k_asm); (case hs => with_reducible assumption); kaf_suf
      rintro r6 l6 z6 h6 tk6 F6 N6 G6 hzz6 hzl6 O6 ⟨cd, vs, ce, rfl, hcm, hby⟩
      clear O6
      have hG6 := Grow.of G6
      have hcl := hzl6 _ hcm
      simp only [List.nil_append] at N6
      (try dsimp only); (try k_fold)
      k_steps
      refine Stop.in ?_
      obtain rfl : vs = [] := List.eq_nil_of_length_eq_zero hby.len
      refine ne_nil (x := false) (vs := []) (News.isArr (by k_asm) (by k_mem)) (News.isArr (by k_asm) (by k_mem)) (by kas_types) ne_none9 ?_
      (try dsimp only); (try k_fold)
      k_steps
      exact hret _ _ _ _ (by k_asm) (News.tl (by k_asm)) ⟨_, (G4.trans G5).trans G6, _, by rw [fault_rest hk (by rw [hop9]; rfl) (rfl) rfl (fun e => by cases e)]; rfl⟩
    · exact hret _ _ _ _ (by k_asm) (by k_asm) ⟨_, G4.trans G5, _, by rw [fault_in hk rfl (by assumption)]; rfl⟩
  case Tm =>
    generalize hword : Wd.str .Tm = word at *
    have hw9 : word = Str.ofString "Tm" := hword.symm
    clear hword
    subst hw9
    show wpAny _ _ _ _ _ _
    k_steps
    · rename (V.op = true) => hop9
      refine Stop.in ?_
      (refine' Fn.useM (M := []) ?N ?hs (lawCodes_ok (wd := .Tm) (z := z5) (sub_on ?hs) (hzz5 _ (hzz4 _ hol)) ((hops.mono hzz4).mono hzz5) hk) ?B ?F ?X ?T ?kK ?kd ?ku ?O ?_); (case N => k_asm); (case hs => with_reducible assumption); kaf_suf
      rintro r6 l6 z6 h6 tk6 F6 N6 G6 hzz6 hzl6 O6 ⟨cd, vs, ce, rfl, hcm, hby⟩
      clear O6
      have hG6 := Grow.of G6
      have hcl := hzl6 _ hcm
      simp only [List.nil_append] at N6
      (try dsimp only); (try k_fold)
      k_steps
      refine Stop.in ?_
      obtain rfl : vs = [] := List.eq_nil_of_length_eq_zero hby.len
      refine ne_nil (x := false) (vs := []) (News.isArr (by k_asm) (by k_mem)) (News.isArr (by k_asm) (by k_mem)) (by kas_types) ne_none9 ?_
      (try dsimp only); (try k_fold)
      k_steps
      exact hret _ _ _ _ (by k_asm) (News.tl (by k_asm)) ⟨_, (G4.trans G5).trans G6, _, by rw [fault_rest hk (by rw [hop9]; rfl) (rfl) rfl (fun e => by cases e)]; rfl⟩
    · exact hret _ _ _ _ (by k_asm) (by k_asm) ⟨_, G4.trans G5, _, by rw [fault_in hk rfl (by assumption)]; rfl⟩
  case Tc =>
    generalize hword : Wd.str .Tc = word at *
    have hw9 : word = Str.ofString "Tc" := hword.symm
    clear hword
    subst hw9
    show wpAny _ _ _ _ _ _
    k_steps
    refine Stop.in ?_
    (refine' Fn.useM (M := []) ?N ?hs (lawCodes_ok (wd := .Tc) (z := z5) (sub_on ?hs) (hzz5 _ (hzz4 _ hol)) ((hops.mono hzz4).mono hzz5) hk) ?B ?F ?X ?T ?kK ?kd ?ku ?O ?_); (case N => k_asm); (case hs => with_reducible assumption); kaf_suf
    rintro r6 l6 z6 h6 tk6 F6 N6 G6 hzz6 hzl6 O6 ⟨cd, vs, ce, rfl, hcm, hby⟩
    clear O6
    have hG6 := Grow.of G6
    have hcl := hzl6 _ hcm
    simp only [List.nil_append] at N6
    (try dsimp only); (try k_fold)
    k_steps
    refine Stop.in ?_
    obtain rfl : vs = [] := List.eq_nil_of_length_eq_zero hby.len
    refine ne_nil (x := false) (vs := []) (News.isArr (by k_asm) (by k_mem)) (News.isArr (by k_asm) (by k_mem)) (by kas_types) ne_none9 ?_
    (try dsimp only); (try k_fold)
    k_steps
    exact hret _ _ _ _ (by k_asm) (News.tl (by k_asm)) ⟨_, (G4.trans G5).trans G6, _, by rw [fault_rest hk (rfl) (rfl) rfl (fun e => by cases e)]; rfl⟩
  case Tr =>
    generalize hword : Wd.str .Tr = word at *
    have hw9 : word = Str.ofString "Tr" := hword.symm
    clear hword
    subst hw9
    show wpAny _ _ _ _ _ _
    k_steps
    refine Stop.in ?_
    (refine' Fn.useM (M := []) ?N ?hs (lawCodes_ok (wd := .Tr) (z := z5) (sub_on ?hs) (hzz5 _ (hzz4 _ hol)) ((hops.mono hzz4).mono hzz5) hk) ?B ?F ?X ?T ?kK ?kd ?ku ?O ?_); (case N => k_asm); (case hs => with_reducible assumption); kaf_suf
    rintro r6 l6 z6 h6 tk6 F6 N6 G6 hzz6 hzl6 O6 ⟨cd, vs, ce, rfl, hcm, hby⟩
    clear O6
    have hG6 := Grow.of G6
    have hcl := hzl6 _ hcm
    simp only [List.nil_append] at N6
    (try dsimp only); (try k_fold)
    k_steps
    refine Stop.in ?_
    obtain rfl : vs = [] := List.eq_nil_of_length_eq_zero hby.len
    refine ne_nil (x := false) (vs := []) (News.isArr (by k_asm) (by k_mem)) (News.isArr (by k_asm) (by k_mem)) (by kas_types) ne_none9 ?_
    (try dsimp only); (try k_fold)
    k_steps
    exact hret _ _ _ _ (by k_asm) (News.tl (by k_asm)) ⟨_, (G4.trans G5).trans G6, _, by rw [fault_rest hk (rfl) (rfl) rfl (fun e => by cases e)]; rfl⟩
  case cm =>
    generalize hword : Wd.str .cm = word at *
    have hw9 : word = Str.ofString "cm" := hword.symm
    clear hword
    subst hw9
    show wpAny _ _ _ _ _ _
    k_steps
    refine Stop.in ?_
    (refine' Fn.useM (M := []) ?N ?hs (lawCodes_ok (wd := .cm) (z := z5) (sub_on ?hs) (hzz5 _ (hzz4 _ hol)) ((hops.mono hzz4).mono hzz5) hk) ?B ?F ?X ?T ?kK ?kd ?ku ?O ?_); (case N => k_asm); (case hs => with_reducible assumption); kaf_suf
    rintro r6 l6 z6 h6 tk6 F6 N6 G6 hzz6 hzl6 O6 ⟨cd, vs, ce, rfl, hcm, hby⟩
    clear O6
    have hG6 := Grow.of G6
    have hcl := hzl6 _ hcm
    simp only [List.nil_append] at N6
    (try dsimp only); (try k_fold)
    k_steps
    refine Stop.in ?_
    obtain rfl : vs = [] := List.eq_nil_of_length_eq_zero hby.len
    refine ne_nil (x := false) (vs := []) (News.isArr (by k_asm) (by k_mem)) (News.isArr (by k_asm) (by k_mem)) (by kas_types) ne_none9 ?_
    (try dsimp only); (try k_fold)
    k_steps
    exact hret _ _ _ _ (by k_asm) (News.tl (by k_asm)) ⟨_, (G4.trans G5).trans G6, _, by rw [fault_rest hk (rfl) (rfl) rfl (fun e => by cases e)]; rfl⟩
  case Do =>
    generalize hword : Wd.str .Do = word at *
    have hw9 : word = Str.ofString "Do" := hword.symm
    clear hword
    subst hw9
    show wpAny _ _ _ _ _ _
    k_steps
    refine Stop.in ?_
    (refine' Fn.useM (M := []) ?N ?hs (lawCodes_ok (wd := .Do) (z := z5) (sub_on ?hs) (hzz5 _ (hzz4 _ hol)) ((hops.mono hzz4).mono hzz5) hk) ?B ?F ?X ?T ?kK ?kd ?ku ?O ?_); (case N => k_asm); (case hs => with_reducible assumption); kaf_suf
    rintro r6 l6 z6 h6 tk6 F6 N6 G6 hzz6 hzl6 O6 ⟨cd, vs, ce, rfl, hcm, hby⟩
    clear O6
    have hG6 := Grow.of G6
    have hcl := hzl6 _ hcm
    simp only [List.nil_append] at N6
    (try dsimp only); (try k_fold)
    k_steps
    refine Stop.in ?_
    obtain rfl : vs = [] := List.eq_nil_of_length_eq_zero hby.len
    refine ne_nil (x := false) (vs := []) (News.isArr (by k_asm) (by k_mem)) (News.isArr (by k_asm) (by k_mem)) (by kas_types) ne_none9 ?_
    (try dsimp only); (try k_fold)
    k_steps
    exact hret _ _ _ _ (by k_asm) (News.tl (by k_asm)) ⟨_, (G4.trans G5).trans G6, _, by rw [fault_rest hk (rfl) (rfl) rfl (fun e => by cases e)]; rfl⟩
  case Tj =>
    obtain ⟨k, r1, rfl, e1⟩ := tags_s (Option.some.inj hkk).symm
    obtain rfl := tags_nil e1
    generalize hword : Wd.str .Tj = word at *
    have hw9 : word = Str.ofString "Tj" := hword.symm
    clear hword
    subst hw9
    show wpAny _ _ _ _ _ _
    k_steps
    · rename (V.op = true) => hop9
      refine Stop.in ?_
      (refine' Fn.useM (M := []) ?N ?hs (lawCodes_ok (wd := .Tj) (z := z5) (sub_on ?hs) (hzz5 _ (hzz4 _ hol)) ((hops.mono hzz4).mono hzz5) hk) ?B ?F ?X ?T ?kK ?kd ?ku ?O ?_); (case N => k_asm); (case hs => with_reducible assumption); kaf_suf
      rintro r6 l6 z6 h6 tk6 F6 N6 G6 hzz6 hzl6 O6 ⟨cd, vs, ce, rfl, hcm, hby⟩
      clear O6
      have hG6 := Grow.of G6
      have hcl := hzl6 _ hcm
      simp only [List.nil_append] at N6
      (try dsimp only); (try k_fold)
      k_steps
      refine Stop.in ?_
      cases hby with
      | @cons bb bt vs2 ks2 hb2 =>
      cases hb2
      refine ne_nil (x := true) (News.isArr (by k_asm) (by k_mem)) (News.isArr (by k_asm) (by k_mem)) (by kas_types) ne_cons9 ?_
      (try dsimp only); (try k_fold)
      k_steps
      all_goals
        rename (V.font = _) => hfo9
        exact hret _ _ _ _ (by k_asm) (News.tl (by k_asm)) ⟨_, (G4.trans G5).trans G6, _, by rw [fault_rest hk (by rw [hop9]; rfl) rfl rfl (fun e => by cases e), hfo9]; first | rfl⟩
    · exact hret _ _ _ _ (by k_asm) (by k_asm) ⟨_, G4.trans G5, _, by rw [fault_in hk rfl (by assumption)]; rfl⟩
  case ap =>
    obtain ⟨k, r1, rfl, e1⟩ := tags_s (Option.some.inj hkk).symm
    obtain rfl := tags_nil e1
    generalize hword : Wd.str .ap = word at *
    have hw9 : word = Str.ofString "'" := hword.symm
    clear hword
    subst hw9
    show wpAny _ _ _ _ _ _
    k_steps
    · rename (V.op = true) => hop9
      refine Stop.in ?_
      (refine' Fn.useM (M := []) ?N ?hs (lawCodes_ok (wd := .ap) (z := z5) (sub_on ?hs) (hzz5 _ (hzz4 _ hol)) ((hops.mono hzz4).mono hzz5) hk) ?B ?F ?X ?T ?kK ?kd ?ku ?O ?_); (case N => k_asm); (case hs => with_reducible assumption); kaf_suf
      rintro r6 l6 z6 h6 tk6 F6 N6 G6 hzz6 hzl6 O6 ⟨cd, vs, ce, rfl, hcm, hby⟩
      clear O6
      have hG6 := Grow.of G6
      have hcl := hzl6 _ hcm
      simp only [List.nil_append] at N6
      (try dsimp only); (try k_fold)
      k_steps
      refine Stop.in ?_
      cases hby with
      | @cons bb bt vs2 ks2 hb2 =>
      cases hb2
      refine ne_nil (x := true) (News.isArr (by k_asm) (by k_mem)) (News.isArr (by k_asm) (by k_mem)) (by kas_types) ne_cons9 ?_
      (try dsimp only); (try k_fold)
      k_steps
      all_goals
        rename (V.font = _) => hfo9
        exact hret _ _ _ _ (by k_asm) (News.tl (by k_asm)) ⟨_, (G4.trans G5).trans G6, _, by rw [fault_rest hk (by rw [hop9]; rfl) rfl rfl (fun e => by cases e), hfo9]; first | rfl⟩
    · exact hret _ _ _ _ (by k_asm) (by k_asm) ⟨_, G4.trans G5, _, by rw [fault_in hk rfl (by assumption)]; rfl⟩
  case qu =>
    obtain ⟨r1, rfl, e1⟩ := tags_n (Option.some.inj hkk).symm
    obtain ⟨r2, rfl, e2⟩ := tags_n e1
    obtain ⟨k, r3, rfl, e3⟩ := tags_s e2
    obtain rfl := tags_nil e3
    generalize hword : Wd.str .qu = word at *
    have hw9 : word = Str.ofString "\"" := hword.symm
    clear hword
    subst hw9
    show wpAny _ _ _ _ _ _
    k_steps
    · rename (V.op = true) => hop9
      refine Stop.in ?_
      (refine' Fn.useM (M := []) ?N ?hs (lawCodes_ok (wd := .qu) (z := z5) (sub_on ?hs) (hzz5 _ (hzz4 _ hol)) ((hops.mono hzz4).mono hzz5) hk) ?B ?F ?X ?T ?kK ?kd ?ku ?O ?_); (case N => k_asm); (case hs => with_reducible assumption); kaf_suf
      rintro r6 l6 z6 h6 tk6 F6 N6 G6 hzz6 hzl6 O6 ⟨cd, vs, ce, rfl, hcm, hby⟩
      clear O6
      have hG6 := Grow.of G6
      have hcl := hzl6 _ hcm
      simp only [List.nil_append] at N6
      (try dsimp only); (try k_fold)
      k_steps
      refine Stop.in ?_
      cases hby with
      | @cons bb bt vs2 ks2 hb2 =>
      cases hb2
      refine ne_nil (x := true) (News.isArr (by k_asm) (by k_mem)) (News.isArr (by k_asm) (by k_mem)) (by kas_types) ne_cons9 ?_
      (try dsimp only); (try k_fold)
      k_steps
      all_goals
        rename (V.font = _) => hfo9
        exact hret _ _ _ _ (by k_asm) (News.tl (by k_asm)) ⟨_, (G4.trans G5).trans G6, _, by rw [fault_rest hk (by rw [hop9]; rfl) rfl rfl (fun e => by cases e), hfo9]; first | rfl⟩
    · exact hret _ _ _ _ (by k_asm) (by k_asm) ⟨_, G4.trans G5, _, by rw [fault_in hk rfl (by assumption)]; rfl⟩
  case BT =>
    generalize hword : Wd.str .BT = word at *
    have hw9 : word = Str.ofString "BT" := hword.symm
    clear hword
    subst hw9
    show wpAny _ _ _ _ _ _
    k_steps
    · rename (V.op = true) => hop9
      exact hret _ _ _ _ (by k_asm) (by k_asm) ⟨_, G4.trans G5, _, by rw [fault_BT hk hop9]; rfl⟩
    · rename (V.op = false) => hop9
      refine Stop.in ?_
      (refine' Fn.useM (M := []) ?N ?hs (lawCodes_ok (wd := .BT) (z := z5) (sub_on ?hs) (hzz5 _ (hzz4 _ hol)) ((hops.mono hzz4).mono hzz5) hk) ?B ?F ?X ?T ?kK ?kd ?ku ?O ?_); (case N => k_asm); (case hs => with_reducible assumption); kaf_suf
      rintro r6 l6 z6 h6 tk6 F6 N6 G6 hzz6 hzl6 O6 ⟨cd, vs, ce, rfl, hcm, hby⟩
      clear O6
      have hG6 := Grow.of G6
      have hcl := hzl6 _ hcm
      simp only [List.nil_append] at N6
      (try dsimp only); (try k_fold)
      k_steps
      refine Stop.in ?_
      obtain rfl : vs = [] := List.eq_nil_of_length_eq_zero hby.len
      refine ne_nil (x := false) (vs := []) (News.isArr (by k_asm) (by k_mem)) (News.isArr (by k_asm) (by k_mem)) (by kas_types) ne_none9 ?_
      (try dsimp only); (try k_fold)
      k_steps
      exact hret _ _ _ _ (by k_asm) (News.tl (by k_asm)) ⟨_, (G4.trans G5).trans G6, _, by rw [fault_rest hk (rfl) (by rw [hop9]; rfl) rfl (fun e => by cases e)]; rfl⟩
  case Tf =>
    obtain ⟨b9, r1, rfl, e1⟩ := tags_m (Option.some.inj hkk).symm
    obtain ⟨r2, rfl, e2⟩ := tags_n e1
    obtain rfl := tags_nil e2
    obtain ⟨v1, v2, rfl, w1, w2⟩ := hops.two_of
    have hnm := w1.nam_of
    cases hnm with
    | mk hnx hndx =>
    have hnx5 := hzl5 _ (hzz5 _ (hzz4 _ hnx))
    have hndx5 := hzl5 _ (hzz5 _ (hzz4 _ hndx))
    have hol5 := hzl5 _ (hzz5 _ (hzz4 _ hol))
    generalize hword : Wd.str .Tf = word at *
    have hw9 : word = Str.ofString "Tf" := hword.symm
    clear hword
    subst hw9
    show wpAny _ _ _ _ _ _
    cases b9
    · simp only [Bool.false_eq_true, if_false] at hndx5
      k_steps
      refine Stop.in ?_
      refine ne_yes (by decide +kernel) ?_
      (try dsimp only); (try k_fold)
      k_steps
      exact hret _ _ _ _ (by k_asm) (by k_asm) ⟨_, G4.trans G5, _, by rw [fault_Tf hk]; rfl⟩
    · simp only [if_true] at hndx5
      k_steps
      refine Stop.in ?_
      refine ne_same ?_
      (try dsimp only); (try k_fold)
      k_steps
      refine Stop.in ?_
      (refine' Fn.useM (M := []) ?N ?hs (lawCodes_ok (wd := .Tf) (z := z5) (sub_on ?hs) (hzz5 _ (hzz4 _ hol)) ((hops.mono hzz4).mono hzz5) hk) ?B ?F ?X ?T ?kK ?kd ?ku ?O ?_); (case N => k_asm); (case hs => with_reducible assumption); kaf_suf
      rintro r6 l6 z6 h6 tk6 F6 N6 G6 hzz6 hzl6 O6 ⟨cd, vs, ce, rfl, hcm, hby⟩
      clear O6
      have hG6 := Grow.of G6
      have hcl := hzl6 _ hcm
      simp only [List.nil_append] at N6
      (try dsimp only); (try k_fold)
      k_steps
      refine Stop.in ?_
      obtain rfl : vs = [] := List.eq_nil_of_length_eq_zero hby.len
      refine ne_nil (x := false) (vs := []) (News.isArr (by k_asm) (by k_mem)) (News.isArr (by k_asm) (by k_mem)) (by kas_types) ne_none9 ?_
      (try dsimp only); (try k_fold)
      k_steps
      exact hret _ _ _ _ (by k_asm) (News.tl (by k_asm)) ⟨_, (G4.trans G5).trans G6, _, by rw [fault_rest hk (rfl) (rfl) rfl (fun _ => ⟨_, rfl⟩)]; rfl⟩
  case TJ =>
    obtain ⟨ps, r1, rfl, e1⟩ := tags_a (Option.some.inj hkk).symm
    obtain rfl := tags_nil e1
    generalize hword : Wd.str .TJ = word at *
    have hw9 : word = Str.ofString "TJ" := hword.symm
    clear hword
    subst hw9
    show wpAny _ _ _ _ _ _
    k_steps
    · rename (V.op = true) => hop9
      refine Stop.in ?_
      (refine' Fn.useM (M := []) ?N ?hs (lawCodes_ok (wd := .TJ) (z := z5) (sub_on ?hs) (hzz5 _ (hzz4 _ hol)) ((hops.mono hzz4).mono hzz5) hk) ?B ?F ?X ?T ?kK ?kd ?ku ?O ?_); (case N => k_asm); (case hs => with_reducible assumption); kaf_suf
      rintro r6 l6 z6 h6 tk6 F6 N6 G6 hzz6 hzl6 O6 ⟨cd, vs, ce, rfl, hcm, hby⟩
      clear O6
      have hG6 := Grow.of G6
      have hcl := hzl6 _ hcm
      simp only [List.nil_append] at N6
      (try dsimp only); (try k_fold)
      k_steps
      refine Stop.in ?_
      by_cases hne : octs ps = []
      · obtain rfl : vs = [] := List.eq_nil_of_length_eq_zero (hby.len.trans (show (octs ps).length = 0 from by rw [hne]; rfl))
        refine ne_nil (x := false) (vs := []) (News.isArr (by k_asm) (by k_mem)) (News.isArr (by k_asm) (by k_mem)) (by kas_types) ne_none9 ?_
        (try dsimp only); (try k_fold)
        k_steps
        exact hret _ _ _ _ (by k_asm) (News.tl (by k_asm)) ⟨_, (G4.trans G5).trans G6, _, by rw [fault_rest hk (by rw [hop9]; rfl) (rfl) rfl (fun e => by cases e)]; show Value.str _ _ = Value.str (fltStr (if (!(octs ps).isEmpty && !V.font) = true then _ else _)) _; rw [hne]; rfl⟩
      · obtain ⟨bb, bt, vs2, rfl⟩ := BytesAt.cons_of (show BytesAt vs (octs ps) from hby) hne
        have hie : (octsOf .TJ [.a ps]).isEmpty = false := by
          show (octs ps).isEmpty = false
          cases h : octs ps with
          | nil => exact absurd h hne
          | cons _ _ => rfl
        skip
        refine ne_nil (x := true) (News.isArr (by k_asm) (by k_mem)) (News.isArr (by k_asm) (by k_mem)) (by kas_types) ne_cons9 ?_
        (try dsimp only); (try k_fold)
        k_steps
        all_goals
          rename (V.font = _) => hfo9
          exact hret _ _ _ _ (by k_asm) (News.tl (by k_asm)) ⟨_, (G4.trans G5).trans G6, _, by rw [fault_rest hk (by rw [hop9]; rfl) rfl rfl (fun e => by cases e), hie, hfo9]; rfl⟩
    · exact hret _ _ _ _ (by k_asm) (by k_asm) ⟨_, G4.trans G5, _, by rw [fault_in hk rfl (by assumption)]; rfl⟩
  all_goals cases hkk
end
local macro_rules | `(tactic| walk_at "pad") => `(tactic| skip)
local macro_rules | `(tactic| walk_at "pad") => `(tactic| skip)
local macro_rules | `(tactic| walk_at "pad") => `(tactic| skip)
local macro_rules | `(tactic| walk_at "pad") => `(tactic| skip)
local macro_rules | `(tactic| walk_at "pad") => `(tactic| skip)
local macro_rules | `(tactic| walk_at "pad") => `(tactic| skip)
local macro_rules | `(tactic| walk_at "pad") => `(tactic| skip)

theorem fault_Q {V : WS} {os : List OpV} (hk : kindsBad .Q os = false) (hp : V.pile = []) : faultOf V .Q os = some .paint := by
  unfold faultOf
  rw [hk, hp]
  rfl
theorem eq_nil9 {prog : Program} {w : World} {A : Around} {E : Value → Shared → Prop} {s : Shared} {a b : Addr} {arr : Array Value} {Q : Value → Shared → Prop} {x : Bool} (hl : s.heap.IsList a arr) (hb : s.heap.IsList b #[]) (hu : A.units < cLine) (hx : (arr.size == 0) = x) (h : Q (.bool x) s) :
    wpAny (model prog w) A (compareOp .Eq (.ref a) (.ref b)) Q E s := by
  subst hx
  by_cases e : arr.size = 0
  · rw [e] at h
    refine PySem.SeqAt.eq_listAt (e := fun _ => true) hl hb e hu (fun j h1 => absurd h1 (by omega)) ?_
    rw [e]
    exact h
  · refine PySem.SeqAt.eq_list_lengthsAt hl hb (by simpa using e) hu ?_
    rw [show (arr.size == 0) = false from by simpa using e] at h
    exact h
section
local macro_rules | `(tactic| walk_at "call ref") => `(tactic| (k_here; (with_reducible show wpAny _ _ (call (Value.ref _) _) _ _ _); (refine Stop.out ?_; walk_say "STOP")))
local macro_rules | `(tactic| walk_at "compareOp In str ref") => `(tactic| (k_here; (with_reducible show wpAny _ _ (compareOp CmpOp.In (Value.str (Wd.str _) _) _) _ _ _); refine Stop.out ?_; walk_say "STOP IN"))
local macro_rules | `(tactic| walk_at "subscriptTail") => `(tactic| (k_here; (with_reducible show wpAny _ _ (subscriptTail _ _ (Value.ref _) (Value.str (Wd.str _) _)) _ _ _); refine Stop.out ?_; walk_say "STOP ITEM"))
local macro_rules | `(tactic| walk_at "compareOp NotEq str str") => `(tactic| (k_here; refine Stop.out ?_; walk_say "STOP NE"))
local macro_rules | `(tactic| walk_at "compareOp NotEq ref ref") => `(tactic| (k_here; refine Stop.out ?_; walk_say "STOP NER"))
local macro_rules | `(tactic| walk_at "compareOp Eq ref ref") => `(tactic| (k_here; refine Stop.out ?_; walk_say "STOP EQR"))
theorem fault_unknown {w : World} {mean : ExcName → Option Value} {mg mb : Str → Option Value} {l z : Led} {x ol pl : Addr} {oW : Obj} {V : WS} {tW : Tok} {parr arr : Array Value} {pn e : Nat} {wd : Wd} {os : List OpV} {tk tk2 : Tok} (hs : ∀ p ∈ z, p ∈ l) (hx : (x, oW) ∈ l) (hW : WorldD w oW V pl tW) (hp : (pl, W.listOf parr pn) ∈ l) (hpn : parr.size = V.pile.length)
    (hol : (ol, W.listOf arr e) ∈ z) (hops : OpsAt z arr.toList os) (hk : kindsBad wd os = false) (hkk : wd.kinds = none) :
    Fn w mean mg mb 797 40 [.ref x, .str wd.str tk, .ref ol, .str (tagStr (os.map OpV.tag)) tk2] l (fun r l' => ∃ z', Ex l z l' z' ∧ ∃ t, r = .str (fltStr (faultOf V wd os)) t) := by
  unfold Fn
  k_fill
  intro dp un gd cn cs aa ccd cl outer A₀ base h₀ L m s Q E B F X N T hk' hdd hu hret
  kqd_sub
  refine Stop.in ?_
  (refine' Fn.useM (M := []) ?N ?hs (lawKinds_ok (z := z) (sub_on ?hs)) ?B ?F ?X ?T ?kK ?kd ?ku ?O ?_); (case N => k_asm); (case hs => with_reducible assumption); kaf_suf
  rintro r4 l4 z4 h4 tk4 F4 N4 G4 hzz4 hzl4 O4 ⟨kd, ko, D, rfl, hkm, hlo, hkd, htab⟩
  clear O4
  have hG4 := Grow.of G4
  obtain ⟨tk9, hval⟩ := htab wd
  have hkl := hzl4 _ hkm
  simp only [List.nil_append] at N4
  (try dsimp only); (try k_fold)
  k_steps
  refine Stop.in ?_
  refine kda_in (knd := PySem.strKind _ _) (by k_asm) (by k_mem) hkd hlo (strKind_is _ _ _ _) false (by rw [hval, hkk]; rfl) ?_
  (try dsimp only); (try k_fold)
  k_steps
  refine Stop.in ?_
  refine inside_in (by k_asm) (by k_asm) ?_
  clear hkl hkd hkm hval htab
  have hW' := hW
  unfold WorldD at hW'
  cases wd
  all_goals first | (exact absurd hkk (by decide)) | skip
  case q =>
    generalize hword : Wd.str .q = word at *
    have hw9 : word = Str.ofString "q" := hword.symm
    clear hword
    subst hw9
    show wpAny _ _ _ _ _ _
    k_steps
    refine Stop.in ?_
    (refine' Fn.useM (M := []) ?N ?hs (lawCodes_ok (wd := .q) (z := z4) (sub_on ?hs) (hzz4 _ hol) (hops.mono hzz4) hk) ?B ?F ?X ?T ?kK ?kd ?ku ?O ?_); (case N => k_asm); (case hs => with_reducible assumption); kaf_suf
    rintro r6 l6 z6 h6 tk6 F6 N6 G6 hzz6 hzl6 O6 ⟨cd, vs, ce, rfl, hcm, hby⟩
    clear O6
    have hG6 := Grow.of G6
    have hcl := hzl6 _ hcm
    simp only [List.nil_append] at N6
    (try dsimp only); (try k_fold)
    k_steps
    refine Stop.in ?_
    obtain rfl : vs = [] := List.eq_nil_of_length_eq_zero hby.len
    refine ne_nil (x := false) (vs := []) (News.isArr (by k_asm) (by k_mem)) (News.isArr (by k_asm) (by k_mem)) (by kas_types) ne_none9 ?_
    (try dsimp only); (try k_fold)
    k_steps
    exact hret _ _ _ _ (by k_asm) (News.tl (by k_asm)) ⟨_, G4.trans G6, _, by rw [fault_rest hk (rfl) (rfl) rfl (fun e => by cases e)]; rfl⟩
  case re =>
    generalize hword : Wd.str .re = word at *
    have hw9 : word = Str.ofString "re" := hword.symm
    clear hword
    subst hw9
    show wpAny _ _ _ _ _ _
    k_steps
    refine Stop.in ?_
    (refine' Fn.useM (M := []) ?N ?hs (lawCodes_ok (wd := .re) (z := z4) (sub_on ?hs) (hzz4 _ hol) (hops.mono hzz4) hk) ?B ?F ?X ?T ?kK ?kd ?ku ?O ?_); (case N => k_asm); (case hs => with_reducible assumption); kaf_suf
    rintro r6 l6 z6 h6 tk6 F6 N6 G6 hzz6 hzl6 O6 ⟨cd, vs, ce, rfl, hcm, hby⟩
    clear O6
    have hG6 := Grow.of G6
    have hcl := hzl6 _ hcm
    simp only [List.nil_append] at N6
    (try dsimp only); (try k_fold)
    k_steps
    refine Stop.in ?_
    obtain rfl : vs = [] := List.eq_nil_of_length_eq_zero hby.len
    refine ne_nil (x := false) (vs := []) (News.isArr (by k_asm) (by k_mem)) (News.isArr (by k_asm) (by k_mem)) (by kas_types) ne_none9 ?_
    (try dsimp only); (try k_fold)
    k_steps
    exact hret _ _ _ _ (by k_asm) (News.tl (by k_asm)) ⟨_, G4.trans G6, _, by rw [fault_rest hk (rfl) (rfl) rfl (fun e => by cases e)]; rfl⟩
  case Q =>
    generalize hword : Wd.str .Q = word at *
    have hw9 : word = Str.ofString "Q" := hword.symm
    clear hword
    subst hw9
    show wpAny _ _ _ _ _ _
    k_steps
    refine Stop.in ?_
    by_cases hpe : V.pile = []
    · refine eq_nil9 (x := true) (News.isArr (by k_asm) (by k_mem)) (News.isArr (by k_asm) (by k_mem)) (by kas_types) (by rw [hpn, hpe]; rfl) ?_
      (try dsimp only); (try k_fold)
      k_steps
      exact hret _ _ _ _ (by k_asm) (News.tl (by k_asm)) ⟨_, G4, _, by rw [fault_Q hk hpe]; rfl⟩
    · refine eq_nil9 (x := false) (News.isArr (by k_asm) (by k_mem)) (News.isArr (by k_asm) (by k_mem)) (by kas_types) (by rw [hpn]; cases h : V.pile with | nil => exact absurd h hpe | cons _ _ => rfl) ?_
      (try dsimp only); (try k_fold)
      k_steps
      refine Stop.in ?_
      rename News _ _ _ _ => NQ
      have NQ2 := News.tl NQ
      clear NQ
      (refine' Fn.useM (M := []) ?N ?hs (lawCodes_ok (wd := .Q) (z := z4) (sub_on ?hs) (hzz4 _ hol) (hops.mono hzz4) hk) ?B ?F ?X ?T ?kK ?kd ?ku ?O ?_); (case N => k_asm); (case hs => with_reducible assumption); kaf_suf
      rintro r6 l6 z6 h6 tk6 F6 N6 G6 hzz6 hzl6 O6 ⟨cd, vs, ce, rfl, hcm, hby⟩
      clear O6
      have hG6 := Grow.of G6
      have hcl := hzl6 _ hcm
      simp only [List.nil_append] at N6
      (try dsimp only); (try k_fold)
      k_steps
      refine Stop.in ?_
      obtain rfl : vs = [] := List.eq_nil_of_length_eq_zero hby.len
      refine ne_nil (x := false) (vs := []) (News.isArr (by k_asm) (by k_mem)) (News.isArr (by k_asm) (by k_mem)) (by kas_types) ne_none9 ?_
      (try dsimp only); (try k_fold)
      k_steps
      exact hret _ _ _ _ (by k_asm) (News.tl (by k_asm)) ⟨_, G4.trans G6, _, by rw [fault_rest hk (rfl) (rfl) (by cases h : V.pile with | nil => exact absurd h hpe | cons _ _ => rfl) (fun e => by cases e)]; rfl⟩
end
local macro_rules | `(tactic| walk_at "pad") => `(tactic| skip)
local macro_rules | `(tactic| walk_at "pad") => `(tactic| skip)
local macro_rules | `(tactic| walk_at "pad") => `(tactic| skip)
local macro_rules | `(tactic| walk_at "pad") => `(tactic| skip)
local macro_rules | `(tactic| walk_at "pad") => `(tactic| skip)
local macro_rules | `(tactic| walk_at "pad") => `(tactic| skip)
local macro_rules | `(tactic| walk_at "pad") => `(tactic| skip)

theorem lawFault_ok {w : World} {mean : ExcName → Option Value} {mg mb : Str → Option Value} {l z : Led} {x ol pl : Addr} {oW : Obj} {V : WS} {tW : Tok} {parr arr : Array Value} {pn e : Nat} {wd : Wd} {os : List OpV} {tk tk2 : Tok} (hs : ∀ p ∈ z, p ∈ l) (hx : (x, oW) ∈ l) (hW : WorldD w oW V pl tW) (hp : (pl, W.listOf parr pn) ∈ l) (hpn : parr.size = V.pile.length)
    (hol : (ol, W.listOf arr e) ∈ z) (hops : OpsAt z arr.toList os) :
    Fn w mean mg mb 797 40 [.ref x, .str wd.str tk, .ref ol, .str (tagStr (os.map OpV.tag)) tk2] l (fun r l' => ∃ z', Ex l z l' z' ∧ ∃ t, r = .str (fltStr (faultOf V wd os)) t) := by
  cases hk : kindsBad wd os with
  | true => exact (Fn.more (fault_bad hs hk) (by decide)).post fun r l' ⟨z', G, t, e⟩ => ⟨z', G, t, by rw [show faultOf V wd os = some .paint from by unfold faultOf; rw [if_pos hk]]; exact e⟩
  | false =>
    cases hkk : wd.kinds with
    | none => exact fault_unknown hs hx hW hp hpn hol hops hk hkk
    | some tgs =>
      have he : os.map OpV.tag = tgs := by
        unfold kindsBad at hk
        rw [hkk] at hk
        simpa using hk
      subst he
      exact fault_known hs hx hW hp hpn hol hops hk hkk

theorem world_set {prog : Program} {w : World} {A : Around} {E : Value → Shared → Prop} {s : Shared} {h₀ : Heap} {L d : Addr} {m : Str → Option Value} {news : Led} {g : Obj → Led} {o : Obj} {a b c e a' b' c' e' : Value} {key : Str} {kt : Tok} {v : Value} {Q : Unit → Shared → Prop}
    (F : Fr h₀ L s.heap m) (N : News h₀ L s.heap news) (U : UpdF d o news g) (hd : o.IsDictOf (PySem.strKind prog w) [(Str.ofString "open", a), (Str.ofString "font", b), (Str.ofString "pile", c), (Str.ofString "count", e)])
    (q : stored [(Str.ofString "open", a), (Str.ofString "font", b), (Str.ofString "pile", c), (Str.ofString "count", e)] key v = [(Str.ofString "open", a'), (Str.ofString "font", b'), (Str.ofString "pile", c'), (Str.ofString "count", e')])
    (h : ∀ h' o' tk, Fr h₀ L h' m → News h₀ L h' (g o') → o'.IsDictOf (PySem.strKind prog w) [(Str.ofString "open", a'), (Str.ofString "font", b'), (Str.ofString "pile", c'), (Str.ofString "count", e')] → Q () { s with heap := h', toks := tk }) :
    wpAny (model prog w) A (setItem (.ref d) (.str key kt) v) Q E s :=
  kda_set (knd := PySem.strKind _ _) F N U hd (strKind_is _ _ _ _) (by rw [sizeLine_eq]; exact Nat.le_of_ble_eq_true rfl) fun h' o' F' N' hd' => h h' o' _ F' N' (q ▸ hd')
/-- the pile as the law keeps it: the newest last -/
def PileD (parr : Array Value) (pile : List Bool) : Prop := parr.toList = (pile.reverse.map fun b => Value.bool b)
theorem OpsAt.arrs {z : Led} : ∀ {vs : List Value} {os : List OpV}, OpsAt z vs os → ∀ ps, OpV.a ps ∈ os → ps ∈ arrays
  | _, _, .nil => fun _ h => nomatch h
  | _, _, .cons h r => fun ps hp => by
    rcases List.mem_cons.mp hp with e | hp
    · subst e
      cases h with
      | arr _ _ hs => exact hs
    · exact r.arrs ps hp
theorem octs_len {z : Led} {vs : List Value} {os : List OpV} (h : OpsAt z vs os) (wd : Wd) : (octsOf wd os).length ≤ 3 := by
  unfold octsOf
  split
  · exact Nat.le_trans (List.length_filterMap_le _ _) (arrays_len (h.arrs _ (.head _)))
  all_goals simp
theorem BytesAt.at : ∀ {vs : List Value} {ks : List Nat}, BytesAt vs ks → ∀ (i : Nat) (v : Value), vs[i]? = some v → ∃ (b : Array UInt8) (t : Tok), v = .bytes b t ∧ ks[i]? = some b.size
  | _, _, .nil => fun _ _ h => by simp at h
  | _, _, .cons r => fun i v e => by
    cases i with
    | zero => cases e; exact ⟨_, _, rfl, rfl⟩
    | succ i => exact r.at i v e
theorem cast_sum : ∀ ks : List Nat, (ks.map (fun (k : Nat) => (k : Int))).sum = (ks.sum : Int)
  | [] => rfl
  | k :: ks => by rw [List.map_cons, List.sum_cons, List.sum_cons, cast_sum ks]; omega
section
local macro_rules | `(tactic| walk_at "call ref") => `(tactic| (k_here; (with_reducible show wpAny _ _ (call (Value.ref _) _) _ _ _); (refine Stop.out ?_; walk_say "STOP")))
local macro_rules | `(tactic| walk_at "setItem ref str") => `(tactic| (k_here; k_dflt (refine' world_set ?F ?N ?U ?d ?e ?_; (case F => k_asm); (case N => k_asm); (case U => k_updF); (case d => with_reducible assumption); (case e => exact rfl)); intro h' o' tk' F' N' hd'; (try dsimp only at N')))
local macro_rules | `(tactic| walk_at "call builtin:len") => `(tactic| (k_here; (with_reducible show wpAny _ _ (call (Value.builtin "len") [Value.bytes _ _]) _ _ _); k_dflt (refine' len_bytes ?f ?_; (case f => omega))))
local macro_rules | `(tactic| walk_at "CompSrc") => `(tactic| (k_here; refine Stop.out ?_; walk_say "STOP SRC"))
local macro_rules | `(tactic| walk_at "eval ListComp") => `(tactic| (k_here; refine Stop.out ?_; walk_say "STOP COMP"))
theorem follow_BT {w : World} {mean : ExcName → Option Value} {mg mb : Str → Option Value} {l z : Led} {x ol pl : Addr} {oW : Obj} {V : WS} {tW : Tok} {parr arr : Array Value} {pn e : Nat} {os : List OpV} {tk : Tok} (hs : ∀ p ∈ z, p ∈ l) (O : Off [x, pl] l) (nxp : @Ne Nat x pl) (hW : WorldD w oW V pl tW) (hP : PileD parr V.pile) (hol : (ol, W.listOf arr e) ∈ z) (hops : OpsAt z arr.toList os) (hk : kindsBad .BT os = false) :
    Fn w mean mg mb 802 40 [.ref x, .str (Str.ofString "BT") tk, .ref ol] ([(x, oW), (pl, W.listOf parr pn)] ++ l) (TP [x, pl] l z fun M' z' r => r = .none ∧ ∃ oW' parr' pn' t, M' = [(x, oW'), (pl, W.listOf parr' pn')] ∧ WorldD w oW' (nextOf V .BT os) pl t ∧ PileD parr' (nextOf V .BT os).pile) := by
  unfold Fn
  k_fill
  intro dp un gd cn cs aa ccd cl outer A₀ base h₀ L m s Q E B F X N T hk' hdd hu hret
  simp only [List.cons_append, List.nil_append] at N
  unfold WorldD at hW
  kqd_sub
  refine Stop.in ?_
  refine LCg.ListComp_U (by k_asm) (by rfl) (by decide) (by rfl) (by decide) (by rfl) ?_
  k_steps
  refine Stop.in ?_
  (refine' Fn.useM (M := [_, _]) ?N ?hs (lawCodes_ok (wd := .BT) (z := z) (sub_on ?hs) hol hops hk) ?B ?F ?X ?T ?kK ?kd ?ku ?O ?_); (case N => k_asm); (case hs => with_reducible assumption); (case O => (show Off [_, _] _; with_reducible assumption)); (case B => k_asm); (case F => k_asm); (case X => k_asm); (case T => k_asm); (case kK => exact rfl); (case kd => ktr_room); (case ku => kas_types)
  rintro r6 l6 z6 h6 tk6 F6 N6 G6 hzz6 hzl6 O6 ⟨cd, vs, ce, rfl, hcm, hby⟩
  have hcl := hzl6 _ hcm
  simp only [List.cons_append, List.nil_append, List.map_cons, List.map_nil] at N6 O6
  (try dsimp only); (try k_fold)
  k_steps
  refine Stop.in ?_
  have hle := octs_len hops .BT
  have hsz : ∀ k ∈ octsOf .BT os, k ≤ 1099511627776 := fun k hk => by cases hk
  have hvl : vs.toArray.size ≤ 3 := by rw [List.size_toArray, hby.len]; exact hle
  refine LCg.CompSrc.ledger rfl (by k_asm) (by k_asm) (.tail _ (.tail _ hcl)) (by rw [sizeLine_eq]; omega) fun g => ?_
  refine comp_ind (fun i ys nw => nw = (x, _) :: (pl, W.listOf parr pn) :: l6 ∧ IntsAre ys (((octsOf .BT os).take i).map (fun (k : Nat) => (k : Int)))) ⟨rfl, .nil⟩ ?_ ?_
  · rintro i ys nw ⟨rfl, hy⟩ hi v I oI C oC D m₂ h1 tk1 E' hv hC hx F1 N1 off ne
    obtain ⟨b, t, rfl, hb⟩ := hby.at i v (by simpa using hv)
    have o3 := off3_off off
    have hb9 : b.size ≤ 1099511627776 := hsz b.size (List.mem_of_getElem? hb)
    k_steps
    refine compEnd_keep (by k_asm) (by k_asm) off (.inr ⟨_, .tail _ (.tail _ hcl), rfl, _, rfl⟩) ⟨rfl, ?_⟩
    rw [List.take_add_one, hb, List.map_append]
    exact hy.append (.cons _ _ .nil)
  · rintro ys nw ⟨rfl, hy⟩ D h1 tk1 F' N' o1
    have nDx : @Ne Nat D x := Ne.symm o1.1
    have nDp : @Ne Nat D pl := Ne.symm o1.2.1
    (try dsimp only); (try k_fold)
    k_steps
    have hlen9 : vs.toArray.size = (octsOf .BT os).length := by rw [List.size_toArray, hby.len]
    rename (Obj.IsDictOf _ _ _) => hd9
    rw [hlen9, List.take_length, cast_sum] at hd9
    exact hret _ _ _ _ (by k_asm) (News.tl (by k_asm)) ⟨[_, _], l6, z6, rfl, G6, O6, rfl, _, _, _, _, rfl, hd9, hP⟩
end
local macro_rules | `(tactic| walk_at "pad") => `(tactic| skip)
local macro_rules | `(tactic| walk_at "pad") => `(tactic| skip)
local macro_rules | `(tactic| walk_at "pad") => `(tactic| skip)
local macro_rules | `(tactic| walk_at "pad") => `(tactic| skip)
local macro_rules | `(tactic| walk_at "pad") => `(tactic| skip)
local macro_rules | `(tactic| walk_at "pad") => `(tactic| skip)

theorem mem_sum {k : Nat} : ∀ {ks : List Nat}, k ∈ ks → k ≤ ks.sum
  | j :: ks, h => by
    rw [List.sum_cons]
    rcases List.mem_cons.mp h with rfl | h
    · omega
    · have := mem_sum h
      omega
theorem octs_small {z : Led} {vs : List Value} {os : List OpV} (h : OpsAt z vs os) (wd : Wd) : ∀ k ∈ octsOf wd os, k ≤ 1099511627776 := fun _ hk => Nat.le_trans (mem_sum hk) (Nat.le_trans (octs_few h wd) (by decide))
theorem PileD.push {parr : Array Value} {pile : List Bool} (h : PileD parr pile) (b : Bool) : PileD (parr.push (.bool b)) (b :: pile) := by
  unfold PileD at *
  rw [Array.toList_push, h, List.reverse_cons, List.map_append]
  rfl
theorem PileD.last {parr : Array Value} {b : Bool} {pile : List Bool} (h : PileD parr (b :: pile)) : ∃ p : List Value, parr.toList = p ++ [.bool b] ∧ PileD p.toArray pile := by
  unfold PileD at *
  rw [List.reverse_cons, List.map_append] at h
  exact ⟨_, h, rfl⟩
theorem PileD.size {parr : Array Value} {pile : List Bool} (h : PileD parr pile) : parr.size = pile.length := by
  rw [← Array.length_toList, h, List.length_map, List.length_reverse]
theorem eq_noS {prog : Program} {w : World} {A : Around} {E : Value → Shared → Prop} {s : Shared} {x y : Str} {t u : Tok} {Q : Value → Shared → Prop} (hn : x ≠ y) (h : Q (.bool false) s) : wpAny (model prog w) A (compareOp .Eq (.str x t) (.str y u)) Q E s :=
  PySem.P.eq_str (by rw [show (x.cps.toList == y.cps.toList) = false from by rw [beq_eq_false_iff_ne]; exact fun e => hn (str_ext9 e)]; exact h)
theorem no_BT {wd : Wd} (h : wd ≠ .BT) : wd.str ≠ Str.ofString "BT" := by cases wd <;> first | exact absurd rfl h | decide +kernel
theorem no_ET {wd : Wd} (h : wd ≠ .ET) : wd.str ≠ Str.ofString "ET" := by cases wd <;> first | exact absurd rfl h | decide +kernel
theorem no_Tf {wd : Wd} (h : wd ≠ .Tf) : wd.str ≠ Str.ofString "Tf" := by cases wd <;> first | exact absurd rfl h | decide +kernel
theorem no_q {wd : Wd} (h : wd ≠ .q) : wd.str ≠ Str.ofString "q" := by cases wd <;> first | exact absurd rfl h | decide +kernel
theorem no_Q {wd : Wd} (h : wd ≠ .Q) : wd.str ≠ Str.ofString "Q" := by cases wd <;> first | exact absurd rfl h | decide +kernel
theorem next_plain {V : WS} {wd : Wd} {os : List OpV} (h : wd ≠ .BT ∧ wd ≠ .ET ∧ wd ≠ .Tf ∧ wd ≠ .q ∧ wd ≠ .Q) : nextOf V wd os = { V with count := V.count + (octsOf wd os).sum } := by
  obtain ⟨h1, h2, h3, h4, h5⟩ := h
  cases wd <;> first | rfl | contradiction
section
local macro_rules | `(tactic| walk_at "call ref") => `(tactic| (k_here; (with_reducible show wpAny _ _ (call (Value.ref _) _) _ _ _); (refine Stop.out ?_; walk_say "STOP")))
local macro_rules | `(tactic| walk_at "setItem ref str") => `(tactic| (k_here; k_dflt (refine' world_set ?F ?N ?U ?d ?e ?_; (case F => k_asm); (case N => k_asm); (case U => k_updF); (case d => with_reducible assumption); (case e => exact rfl)); intro h' o' tk' F' N' hd'; (try dsimp only at N')))
local macro_rules | `(tactic| walk_at "call builtin:len") => `(tactic| (k_here; (with_reducible show wpAny _ _ (call (Value.builtin "len") [Value.bytes _ _]) _ _ _); k_dflt (refine' len_bytes ?f ?_; (case f => omega))))
local macro_rules | `(tactic| walk_at "CompSrc") => `(tactic| (k_here; refine Stop.out ?_; walk_say "STOP SRC"))
local macro_rules | `(tactic| walk_at "eval ListComp") => `(tactic| (k_here; refine Stop.out ?_; walk_say "STOP COMP"))
local macro_rules | `(tactic| walk_at "compareOp Eq str str") => `(tactic| (k_here; (with_reducible show wpAny _ _ (compareOp CmpOp.Eq (Value.str (Wd.str _) _) _) _ _ _); refine Stop.out ?_; walk_say "STOP EQ"))
local macro_rules | `(tactic| walk_at "call builtin:list.append") => `(tactic| (k_here; k_dflt (refine' append_K ?k1 ?k2 ?k3 ?_ ?z; (case k1 => k_asm); (case k2 => k_asm); (case k3 => k_upd); (case z => rw [sizeLine_eq]; omega)); intro h' F' N'; (try dsimp only [List.nil_append, List.cons_append] at N')))
local macro_rules | `(tactic| walk_at "call builtin:list.pop") => `(tactic| (k_here; (with_reducible show wpAny _ _ (call (Value.builtin _) [Value.ref _]) _ _ _); k_dflt (refine' kl_pop ?F ?N ?e ?U ?z ?_; (case F => k_asm); (case N => k_asm); (case U => k_upd); (case e => with_reducible assumption); (case z => rw [sizeLine_eq, Array.length_toList]; omega)); intro h' F' N'; (try dsimp only [List.nil_append, List.cons_append] at N')))
theorem follow_ET {w : World} {mean : ExcName → Option Value} {mg mb : Str → Option Value} {l z : Led} {x ol pl : Addr} {oW : Obj} {V : WS} {tW : Tok} {parr arr : Array Value} {pn e : Nat} {os : List OpV} {tk : Tok} (hs : ∀ p ∈ z, p ∈ l) (O : Off [x, pl] l) (nxp : @Ne Nat x pl) (hW : WorldD w oW V pl tW) (hP : PileD parr V.pile) (hpz : parr.size ≤ 20) (hol : (ol, W.listOf arr e) ∈ z) (hops : OpsAt z arr.toList os) (hk : kindsBad .ET os = false) :
    Fn w mean mg mb 802 40 [.ref x, .str (Str.ofString "ET") tk, .ref ol] ([(x, oW), (pl, W.listOf parr pn)] ++ l) (TP [x, pl] l z fun M' z' r => r = .none ∧ ∃ oW' parr' pn' t, M' = [(x, oW'), (pl, W.listOf parr' pn')] ∧ WorldD w oW' (nextOf V .ET os) pl t ∧ PileD parr' (nextOf V .ET os).pile) := by
  unfold Fn
  k_fill
  intro dp un gd cn cs aa ccd cl outer A₀ base h₀ L m s Q E B F X N T hk' hdd hu hret
  simp only [List.cons_append, List.nil_append] at N
  unfold WorldD at hW
  kqd_sub
  refine Stop.in ?_
  refine LCg.ListComp_U (by k_asm) (by rfl) (by decide) (by rfl) (by decide) (by rfl) ?_
  k_steps
  refine Stop.in ?_
  (refine' Fn.useM (M := [_, _]) ?N ?hs (lawCodes_ok (wd := .ET) (z := z) (sub_on ?hs) hol hops hk) ?B ?F ?X ?T ?kK ?kd ?ku ?O ?_); (case N => k_asm); (case hs => with_reducible assumption); (case O => (show Off [_, _] _; with_reducible assumption)); (case B => k_asm); (case F => k_asm); (case X => k_asm); (case T => k_asm); (case kK => exact rfl); (case kd => ktr_room); (case ku => kas_types)
  rintro r6 l6 z6 h6 tk6 F6 N6 G6 hzz6 hzl6 O6 ⟨cd, vs, ce, rfl, hcm, hby⟩
  have hcl := hzl6 _ hcm
  simp only [List.cons_append, List.nil_append, List.map_cons, List.map_nil] at N6 O6
  (try dsimp only); (try k_fold)
  k_steps
  refine Stop.in ?_
  have hle := octs_len hops .ET
  have hsz := octs_small hops .ET
  have hvl : vs.toArray.size ≤ 3 := by rw [List.size_toArray, hby.len]; exact hle
  refine LCg.CompSrc.ledger rfl (by k_asm) (by k_asm) (.tail _ (.tail _ hcl)) (by rw [sizeLine_eq]; omega) fun g => ?_
  refine comp_ind (fun i ys nw => nw = (x, _) :: (pl, _) :: l6 ∧ IntsAre ys (((octsOf .ET os).take i).map (fun (k : Nat) => (k : Int)))) ⟨rfl, .nil⟩ ?_ ?_
  · rintro i ys nw ⟨rfl, hy⟩ hi v I oI C oC D m₂ h1 tk1 E' hv hC hx F1 N1 off ne
    obtain ⟨b, t, rfl, hb⟩ := hby.at i v (by simpa using hv)
    have o3 := off3_off off
    have hb9 : b.size ≤ 1099511627776 := hsz b.size (List.mem_of_getElem? hb)
    k_steps
    refine compEnd_keep (by k_asm) (by k_asm) off (.inr ⟨_, .tail _ (.tail _ hcl), rfl, _, rfl⟩) ⟨rfl, ?_⟩
    rw [List.take_add_one, hb, List.map_append]
    exact hy.append (.cons _ _ .nil)
  · rintro ys nw ⟨rfl, hy⟩ D h1 tk1 F' N' o1
    have nDx : @Ne Nat D x := Ne.symm o1.1
    have nDp : @Ne Nat D pl := Ne.symm o1.2.1
    (try dsimp only); (try k_fold)
    k_steps
    have hlen9 : vs.toArray.size = (octsOf .ET os).length := by rw [List.size_toArray, hby.len]
    rename (Obj.IsDictOf _ _ _) => hd9
    rw [hlen9, List.take_length, cast_sum] at hd9
    exact hret _ _ _ _ (by k_asm) (News.tl (by k_asm)) ⟨[_, _], l6, z6, rfl, G6, O6, rfl, _, _, _, _, rfl, hd9, hP⟩
theorem follow_Tf {w : World} {mean : ExcName → Option Value} {mg mb : Str → Option Value} {l z : Led} {x ol pl : Addr} {oW : Obj} {V : WS} {tW : Tok} {parr arr : Array Value} {pn e : Nat} {os : List OpV} {tk : Tok} (hs : ∀ p ∈ z, p ∈ l) (O : Off [x, pl] l) (nxp : @Ne Nat x pl) (hW : WorldD w oW V pl tW) (hP : PileD parr V.pile) (hpz : parr.size ≤ 20) (hol : (ol, W.listOf arr e) ∈ z) (hops : OpsAt z arr.toList os) (hk : kindsBad .Tf os = false) :
    Fn w mean mg mb 802 40 [.ref x, .str (Str.ofString "Tf") tk, .ref ol] ([(x, oW), (pl, W.listOf parr pn)] ++ l) (TP [x, pl] l z fun M' z' r => r = .none ∧ ∃ oW' parr' pn' t, M' = [(x, oW'), (pl, W.listOf parr' pn')] ∧ WorldD w oW' (nextOf V .Tf os) pl t ∧ PileD parr' (nextOf V .Tf os).pile) := by
  unfold Fn
  k_fill
  intro dp un gd cn cs aa ccd cl outer A₀ base h₀ L m s Q E B F X N T hk' hdd hu hret
  simp only [List.cons_append, List.nil_append] at N
  unfold WorldD at hW
  kqd_sub
  refine Stop.in ?_
  refine LCg.ListComp_U (by k_asm) (by rfl) (by decide) (by rfl) (by decide) (by rfl) ?_
  k_steps
  refine Stop.in ?_
  (refine' Fn.useM (M := [_, _]) ?N ?hs (lawCodes_ok (wd := .Tf) (z := z) (sub_on ?hs) hol hops hk) ?B ?F ?X ?T ?kK ?kd ?ku ?O ?_); (case N => k_asm); (case hs => with_reducible assumption); (case O => (show Off [_, _] _; with_reducible assumption)); (case B => k_asm); (case F => k_asm); (case X => k_asm); (case T => k_asm); (case kK => exact rfl); (case kd => ktr_room); (case ku => kas_types)
  rintro r6 l6 z6 h6 tk6 F6 N6 G6 hzz6 hzl6 O6 ⟨cd, vs, ce, rfl, hcm, hby⟩
  have hcl := hzl6 _ hcm
  simp only [List.cons_append, List.nil_append, List.map_cons, List.map_nil] at N6 O6
  (try dsimp only); (try k_fold)
  k_steps
  refine Stop.in ?_
  have hle := octs_len hops .Tf
  have hsz := octs_small hops .Tf
  have hvl : vs.toArray.size ≤ 3 := by rw [List.size_toArray, hby.len]; exact hle
  refine LCg.CompSrc.ledger rfl (by k_asm) (by k_asm) (.tail _ (.tail _ hcl)) (by rw [sizeLine_eq]; omega) fun g => ?_
  refine comp_ind (fun i ys nw => nw = (x, _) :: (pl, _) :: l6 ∧ IntsAre ys (((octsOf .Tf os).take i).map (fun (k : Nat) => (k : Int)))) ⟨rfl, .nil⟩ ?_ ?_
  · rintro i ys nw ⟨rfl, hy⟩ hi v I oI C oC D m₂ h1 tk1 E' hv hC hx F1 N1 off ne
    obtain ⟨b, t, rfl, hb⟩ := hby.at i v (by simpa using hv)
    have o3 := off3_off off
    have hb9 : b.size ≤ 1099511627776 := hsz b.size (List.mem_of_getElem? hb)
    k_steps
    refine compEnd_keep (by k_asm) (by k_asm) off (.inr ⟨_, .tail _ (.tail _ hcl), rfl, _, rfl⟩) ⟨rfl, ?_⟩
    rw [List.take_add_one, hb, List.map_append]
    exact hy.append (.cons _ _ .nil)
  · rintro ys nw ⟨rfl, hy⟩ D h1 tk1 F' N' o1
    have nDx : @Ne Nat D x := Ne.symm o1.1
    have nDp : @Ne Nat D pl := Ne.symm o1.2.1
    (try dsimp only); (try k_fold)
    k_steps
    have hlen9 : vs.toArray.size = (octsOf .Tf os).length := by rw [List.size_toArray, hby.len]
    rename (Obj.IsDictOf _ _ _) => hd9
    rw [hlen9, List.take_length, cast_sum] at hd9
    exact hret _ _ _ _ (by k_asm) (News.tl (by k_asm)) ⟨[_, _], l6, z6, rfl, G6, O6, rfl, _, _, _, _, rfl, hd9, hP⟩
theorem follow_q {w : World} {mean : ExcName → Option Value} {mg mb : Str → Option Value} {l z : Led} {x ol pl : Addr} {oW : Obj} {V : WS} {tW : Tok} {parr arr : Array Value} {pn e : Nat} {os : List OpV} {tk : Tok} (hs : ∀ p ∈ z, p ∈ l) (O : Off [x, pl] l) (nxp : @Ne Nat x pl) (hW : WorldD w oW V pl tW) (hP : PileD parr V.pile) (hpz : parr.size ≤ 20) (hol : (ol, W.listOf arr e) ∈ z) (hops : OpsAt z arr.toList os) (hk : kindsBad .q os = false) :
    Fn w mean mg mb 802 40 [.ref x, .str (Str.ofString "q") tk, .ref ol] ([(x, oW), (pl, W.listOf parr pn)] ++ l) (TP [x, pl] l z fun M' z' r => r = .none ∧ ∃ oW' parr' pn' t, M' = [(x, oW'), (pl, W.listOf parr' pn')] ∧ WorldD w oW' (nextOf V .q os) pl t ∧ PileD parr' (nextOf V .q os).pile) := by
  unfold Fn
  k_fill
  intro dp un gd cn cs aa ccd cl outer A₀ base h₀ L m s Q E B F X N T hk' hdd hu hret
  simp only [List.cons_append, List.nil_append] at N
  unfold WorldD at hW
  kqd_sub
  refine Stop.in ?_
  refine LCg.ListComp_U (by k_asm) (by rfl) (by decide) (by rfl) (by decide) (by rfl) ?_
  k_steps
  refine Stop.in ?_
  (refine' Fn.useM (M := [_, _]) ?N ?hs (lawCodes_ok (wd := .q) (z := z) (sub_on ?hs) hol hops hk) ?B ?F ?X ?T ?kK ?kd ?ku ?O ?_); (case N => k_asm); (case hs => with_reducible assumption); (case O => (show Off [_, _] _; with_reducible assumption)); (case B => k_asm); (case F => k_asm); (case X => k_asm); (case T => k_asm); (case kK => exact rfl); (case kd => ktr_room); (case ku => kas_types)
  rintro r6 l6 z6 h6 tk6 F6 N6 G6 hzz6 hzl6 O6 ⟨cd, vs, ce, rfl, hcm, hby⟩
  have hcl := hzl6 _ hcm
  simp only [List.cons_append, List.nil_append, List.map_cons, List.map_nil] at N6 O6
  (try dsimp only); (try k_fold)
  k_steps
  refine Stop.in ?_
  have hle := octs_len hops .q
  have hsz := octs_small hops .q
  have hvl : vs.toArray.size ≤ 3 := by rw [List.size_toArray, hby.len]; exact hle
  refine LCg.CompSrc.ledger rfl (by k_asm) (by k_asm) (.tail _ (.tail _ hcl)) (by rw [sizeLine_eq]; omega) fun g => ?_
  refine comp_ind (fun i ys nw => nw = (x, _) :: (pl, _) :: l6 ∧ IntsAre ys (((octsOf .q os).take i).map (fun (k : Nat) => (k : Int)))) ⟨rfl, .nil⟩ ?_ ?_
  · rintro i ys nw ⟨rfl, hy⟩ hi v I oI C oC D m₂ h1 tk1 E' hv hC hx F1 N1 off ne
    obtain ⟨b, t, rfl, hb⟩ := hby.at i v (by simpa using hv)
    have o3 := off3_off off
    have hb9 : b.size ≤ 1099511627776 := hsz b.size (List.mem_of_getElem? hb)
    k_steps
    refine compEnd_keep (by k_asm) (by k_asm) off (.inr ⟨_, .tail _ (.tail _ hcl), rfl, _, rfl⟩) ⟨rfl, ?_⟩
    rw [List.take_add_one, hb, List.map_append]
    exact hy.append (.cons _ _ .nil)
  · rintro ys nw ⟨rfl, hy⟩ D h1 tk1 F' N' o1
    have nDx : @Ne Nat D x := Ne.symm o1.1
    have nDp : @Ne Nat D pl := Ne.symm o1.2.1
    (try dsimp only); (try k_fold)
    k_steps
    have hlen9 : vs.toArray.size = (octsOf .q os).length := by rw [List.size_toArray, hby.len]
    rename (Obj.IsDictOf _ _ _) => hd9
    rw [hlen9, List.take_length, cast_sum] at hd9
    exact hret _ _ _ _ (by k_asm) (News.tl (by k_asm)) ⟨[_, _], l6, z6, rfl, G6, O6, rfl, _, _, _, _, rfl, hd9, hP.push _⟩
theorem follow_Q {w : World} {mean : ExcName → Option Value} {mg mb : Str → Option Value} {l z : Led} {x ol pl : Addr} {oW : Obj} {V : WS} {tW : Tok} {parr arr : Array Value} {pn e : Nat} {os : List OpV} {tk : Tok} (hne : V.pile ≠ []) (hs : ∀ p ∈ z, p ∈ l) (O : Off [x, pl] l) (nxp : @Ne Nat x pl) (hW : WorldD w oW V pl tW) (hP : PileD parr V.pile) (hpz : parr.size ≤ 20) (hol : (ol, W.listOf arr e) ∈ z) (hops : OpsAt z arr.toList os) (hk : kindsBad .Q os = false) :
    Fn w mean mg mb 802 40 [.ref x, .str (Str.ofString "Q") tk, .ref ol] ([(x, oW), (pl, W.listOf parr pn)] ++ l) (TP [x, pl] l z fun M' z' r => r = .none ∧ ∃ oW' parr' pn' t, M' = [(x, oW'), (pl, W.listOf parr' pn')] ∧ WorldD w oW' (nextOf V .Q os) pl t ∧ PileD parr' (nextOf V .Q os).pile) := by
  unfold Fn
  k_fill
  intro dp un gd cn cs aa ccd cl outer A₀ base h₀ L m s Q E B F X N T hk' hdd hu hret
  simp only [List.cons_append, List.nil_append] at N
  unfold WorldD at hW
  obtain ⟨op9, fo9, pile9, ct9⟩ := V
  dsimp only at hW hP hne
  obtain ⟨b9, pile8, rfl⟩ : ∃ b p, pile9 = b :: p := by cases pile9 with | nil => exact absurd rfl hne | cons b p => exact ⟨b, p, rfl⟩
  obtain ⟨p9, hp9, hP9⟩ := hP.last
  have hl9 : kl_last parr.toList = some (p9, .bool b9) := by rw [hp9]; exact kpa_last _ _
  kqd_sub
  refine Stop.in ?_
  refine LCg.ListComp_U (by k_asm) (by rfl) (by decide) (by rfl) (by decide) (by rfl) ?_
  k_steps
  refine Stop.in ?_
  (refine' Fn.useM (M := [_, _]) ?N ?hs (lawCodes_ok (wd := .Q) (z := z) (sub_on ?hs) hol hops hk) ?B ?F ?X ?T ?kK ?kd ?ku ?O ?_); (case N => k_asm); (case hs => with_reducible assumption); (case O => (show Off [_, _] _; with_reducible assumption)); (case B => k_asm); (case F => k_asm); (case X => k_asm); (case T => k_asm); (case kK => exact rfl); (case kd => ktr_room); (case ku => kas_types)
  rintro r6 l6 z6 h6 tk6 F6 N6 G6 hzz6 hzl6 O6 ⟨cd, vs, ce, rfl, hcm, hby⟩
  have hcl := hzl6 _ hcm
  simp only [List.cons_append, List.nil_append, List.map_cons, List.map_nil] at N6 O6
  (try dsimp only); (try k_fold)
  k_steps
  refine Stop.in ?_
  have hle := octs_len hops .Q
  have hsz := octs_small hops .Q
  have hvl : vs.toArray.size ≤ 3 := by rw [List.size_toArray, hby.len]; exact hle
  refine LCg.CompSrc.ledger rfl (by k_asm) (by k_asm) (.tail _ (.tail _ hcl)) (by rw [sizeLine_eq]; omega) fun g => ?_
  refine comp_ind (fun i ys nw => nw = (x, _) :: (pl, _) :: l6 ∧ IntsAre ys (((octsOf .Q os).take i).map (fun (k : Nat) => (k : Int)))) ⟨rfl, .nil⟩ ?_ ?_
  · rintro i ys nw ⟨rfl, hy⟩ hi v I oI C oC D m₂ h1 tk1 E' hv hC hx F1 N1 off ne
    obtain ⟨b, t, rfl, hb⟩ := hby.at i v (by simpa using hv)
    have o3 := off3_off off
    have hb9 : b.size ≤ 1099511627776 := hsz b.size (List.mem_of_getElem? hb)
    k_steps
    refine compEnd_keep (by k_asm) (by k_asm) off (.inr ⟨_, .tail _ (.tail _ hcl), rfl, _, rfl⟩) ⟨rfl, ?_⟩
    rw [List.take_add_one, hb, List.map_append]
    exact hy.append (.cons _ _ .nil)
  · rintro ys nw ⟨rfl, hy⟩ D h1 tk1 F' N' o1
    have nDx : @Ne Nat D x := Ne.symm o1.1
    have nDp : @Ne Nat D pl := Ne.symm o1.2.1
    (try dsimp only); (try k_fold)
    k_steps
    have hlen9 : vs.toArray.size = (octsOf .Q os).length := by rw [List.size_toArray, hby.len]
    rename (Obj.IsDictOf _ _ _) => hd9
    rw [hlen9, List.take_length, cast_sum] at hd9
    exact hret _ _ _ _ (by k_asm) (News.tl (by k_asm)) ⟨[_, _], l6, z6, rfl, G6, O6, rfl, _, _, _, _, rfl, hd9, hP9⟩
theorem follow_other {w : World} {mean : ExcName → Option Value} {mg mb : Str → Option Value} {l z : Led} {x ol pl : Addr} {oW : Obj} {V : WS} {tW : Tok} {parr arr : Array Value} {pn e : Nat} {os : List OpV} {tk : Tok} {wd : Wd} (hno : wd ≠ .BT ∧ wd ≠ .ET ∧ wd ≠ .Tf ∧ wd ≠ .q ∧ wd ≠ .Q) (hs : ∀ p ∈ z, p ∈ l) (O : Off [x, pl] l) (nxp : @Ne Nat x pl) (hW : WorldD w oW V pl tW) (hP : PileD parr V.pile) (hpz : parr.size ≤ 20) (hol : (ol, W.listOf arr e) ∈ z) (hops : OpsAt z arr.toList os) (hk : kindsBad wd os = false) :
    Fn w mean mg mb 802 40 [.ref x, .str (wd.str) tk, .ref ol] ([(x, oW), (pl, W.listOf parr pn)] ++ l) (TP [x, pl] l z fun M' z' r => r = .none ∧ ∃ oW' parr' pn' t, M' = [(x, oW'), (pl, W.listOf parr' pn')] ∧ WorldD w oW' (nextOf V wd os) pl t ∧ PileD parr' (nextOf V wd os).pile) := by
  unfold Fn
  k_fill
  intro dp un gd cn cs aa ccd cl outer A₀ base h₀ L m s Q E B F X N T hk' hdd hu hret
  simp only [List.cons_append, List.nil_append] at N
  unfold WorldD at hW
  kqd_sub
  k_steps
  refine Stop.in ?_
  refine eq_noS (no_BT hno.1) ?_
  (try dsimp only); (try k_fold)
  k_steps
  refine Stop.in ?_
  refine eq_noS (no_ET hno.2.1) ?_
  (try dsimp only); (try k_fold)
  k_steps
  refine Stop.in ?_
  refine eq_noS (no_Tf hno.2.2.1) ?_
  (try dsimp only); (try k_fold)
  k_steps
  refine Stop.in ?_
  refine eq_noS (no_q hno.2.2.2.1) ?_
  (try dsimp only); (try k_fold)
  k_steps
  refine Stop.in ?_
  refine eq_noS (no_Q hno.2.2.2.2) ?_
  (try dsimp only); (try k_fold)
  k_steps
  refine Stop.in ?_
  refine LCg.ListComp_U (by k_asm) (by rfl) (by decide) (by rfl) (by decide) (by rfl) ?_
  k_steps
  refine Stop.in ?_
  (refine' Fn.useM (M := [_, _]) ?N ?hs (lawCodes_ok (wd := wd) (z := z) (sub_on ?hs) hol hops hk) ?B ?F ?X ?T ?kK ?kd ?ku ?O ?_); (case N => k_asm); (case hs => with_reducible assumption); (case O => (show Off [_, _] _; with_reducible assumption)); (case B => k_asm); (case F => k_asm); (case X => k_asm); (case T => k_asm); (case kK => exact rfl); (case kd => ktr_room); (case ku => kas_types)
  rintro r6 l6 z6 h6 tk6 F6 N6 G6 hzz6 hzl6 O6 ⟨cd, vs, ce, rfl, hcm, hby⟩
  have hcl := hzl6 _ hcm
  simp only [List.cons_append, List.nil_append, List.map_cons, List.map_nil] at N6 O6
  (try dsimp only); (try k_fold)
  k_steps
  refine Stop.in ?_
  have hle := octs_len hops wd
  have hsz := octs_small hops wd
  have hvl : vs.toArray.size ≤ 3 := by rw [List.size_toArray, hby.len]; exact hle
  refine LCg.CompSrc.ledger rfl (by k_asm) (by k_asm) (.tail _ (.tail _ hcl)) (by rw [sizeLine_eq]; omega) fun g => ?_
  refine comp_ind (fun i ys nw => nw = (x, _) :: (pl, _) :: l6 ∧ IntsAre ys (((octsOf wd os).take i).map (fun (k : Nat) => (k : Int)))) ⟨rfl, .nil⟩ ?_ ?_
  · rintro i ys nw ⟨rfl, hy⟩ hi v I oI C oC D m₂ h1 tk1 E' hv hC hx F1 N1 off ne
    obtain ⟨b, t, rfl, hb⟩ := hby.at i v (by simpa using hv)
    have o3 := off3_off off
    have hb9 : b.size ≤ 1099511627776 := hsz b.size (List.mem_of_getElem? hb)
    k_steps
    refine compEnd_keep (by k_asm) (by k_asm) off (.inr ⟨_, .tail _ (.tail _ hcl), rfl, _, rfl⟩) ⟨rfl, ?_⟩
    rw [List.take_add_one, hb, List.map_append]
    exact hy.append (.cons _ _ .nil)
  · rintro ys nw ⟨rfl, hy⟩ D h1 tk1 F' N' o1
    have nDx : @Ne Nat D x := Ne.symm o1.1
    have nDp : @Ne Nat D pl := Ne.symm o1.2.1
    (try dsimp only); (try k_fold)
    k_steps
    have hlen9 : vs.toArray.size = (octsOf wd os).length := by rw [List.size_toArray, hby.len]
    rename (Obj.IsDictOf _ _ _) => hd9
    rw [hlen9, List.take_length, cast_sum] at hd9
    exact hret _ _ _ _ (by k_asm) (News.tl (by k_asm)) ⟨[_, _], l6, z6, rfl, G6, O6, rfl, _, _, _, _, rfl, (by rw [next_plain hno]; exact hd9), (by rw [next_plain hno]; exact hP)⟩
end
local macro_rules | `(tactic| walk_at "pad") => `(tactic| skip)
local macro_rules | `(tactic| walk_at "pad") => `(tactic| skip)
local macro_rules | `(tactic| walk_at "pad") => `(tactic| skip)
local macro_rules | `(tactic| walk_at "pad") => `(tactic| skip)
local macro_rules | `(tactic| walk_at "pad") => `(tactic| skip)
local macro_rules | `(tactic| walk_at "pad") => `(tactic| skip)
local macro_rules | `(tactic| walk_at "pad") => `(tactic| skip)
local macro_rules | `(tactic| walk_at "pad") => `(tactic| skip)
local macro_rules | `(tactic| walk_at "pad") => `(tactic| skip)

theorem fault_none {V : WS} {wd : Wd} {os : List OpV} (h : faultOf V wd os = none) : kindsBad wd os = false ∧ (wd = .Q → V.pile ≠ []) := by
  unfold faultOf at h
  split at h
  · cases h
  · rename_i hk
    refine ⟨by simpa using hk, fun e hp => ?_⟩
    subst e
    rw [hp] at h
    split at h
    · cases h
    · split at h
      · cases h
      · cases h
theorem lawFollow_ok {w : World} {mean : ExcName → Option Value} {mg mb : Str → Option Value} {l z : Led} {x ol pl : Addr} {oW : Obj} {V : WS} {tW : Tok} {parr arr : Array Value} {pn e : Nat} {wd : Wd} {os : List OpV} {tk : Tok} (hs : ∀ p ∈ z, p ∈ l) (O : Off [x, pl] l) (nxp : @Ne Nat x pl) (hW : WorldD w oW V pl tW) (hP : PileD parr V.pile) (hpz : parr.size ≤ 20) (hol : (ol, W.listOf arr e) ∈ z) (hops : OpsAt z arr.toList os) (hf : faultOf V wd os = none) :
    Fn w mean mg mb 802 40 [.ref x, .str wd.str tk, .ref ol] ([(x, oW), (pl, W.listOf parr pn)] ++ l) (TP [x, pl] l z fun M' z' r => r = .none ∧ ∃ oW' parr' pn' t, M' = [(x, oW'), (pl, W.listOf parr' pn')] ∧ WorldD w oW' (nextOf V wd os) pl t ∧ PileD parr' (nextOf V wd os).pile) := by
  obtain ⟨hk, hQ⟩ := fault_none hf
  cases wd with
  | BT => exact follow_BT hs O nxp hW hP hol hops hk
  | ET => exact follow_ET hs O nxp hW hP hpz hol hops hk
  | Tf => exact follow_Tf hs O nxp hW hP hpz hol hops hk
  | q => exact follow_q hs O nxp hW hP hpz hol hops hk
  | Q => exact follow_Q (hQ rfl) hs O nxp hW hP hpz hol hops hk
  | _ => exact follow_other (by decide) hs O nxp hW hP hpz hol hops hk

/-- the rows of the law -/
inductive RowsD (z : Led) : List Value → List (Wd × List OpV) → Prop
  | nil : RowsD z [] []
  | cons {v : Value} {wd : Wd} {os : List OpV} {vs : List Value} {rows : List (Wd × List OpV)} (h : IsRow z v wd os) (r : RowsD z vs rows) : RowsD z (v :: vs) ((wd, os) :: rows)
theorem RowsD.len {z : Led} : ∀ {vs : List Value} {rows : List (Wd × List OpV)}, RowsD z vs rows → vs.length = rows.length
  | _, _, .nil => rfl
  | _, _, .cons _ r => congrArg (· + 1) r.len
theorem RowsD.at {z : Led} : ∀ {vs : List Value} {rows : List (Wd × List OpV)}, RowsD z vs rows → ∀ (i : Nat) (v : Value), vs[i]? = some v → ∃ wd os, rows[i]? = some (wd, os) ∧ IsRow z v wd os
  | _, _, .nil => fun _ _ h => by simp at h
  | _, _, .cons h r => fun i v e => by
    cases i with
    | zero => cases e; exact ⟨_, _, rfl, h⟩
    | succ i => exact r.at i v e
theorem RowsD.mono {z z' : Led} (s : ∀ p ∈ z, p ∈ z') : ∀ {vs : List Value} {rows : List (Wd × List OpV)}, RowsD z vs rows → RowsD z' vs rows
  | _, _, .nil => .nil
  | _, _, .cons h r => .cons (h.mono s) (r.mono s)
theorem RowsD.snoc {z : Led} {v : Value} {wd : Wd} {os : List OpV} (h : IsRow z v wd os) : ∀ {vs : List Value} {rows : List (Wd × List OpV)}, RowsD z vs rows → RowsD z (vs ++ [v]) (rows ++ [(wd, os)])
  | _, _, .nil => .cons h .nil
  | _, _, .cons h' r => .cons h' (r.snoc h)

/-- the law's world, its pile, and what lies behind -/
def DueAt (w : World) (rows : List (Wd × List OpV)) (l z : Led) (x pl : Addr) (i : Nat) (news : Led) : Prop :=
  ∃ V oW parr pn t l₁ z₁, news = [(x, oW), (pl, W.listOf parr pn)] ++ l₁ ∧ due ⟨false, false, [], 0⟩ rows = due V (rows.drop i) ∧ WorldD w oW V pl t ∧ PileD parr V.pile ∧ V.pile.length ≤ i ∧ Ex l z l₁ z₁ ∧ Off [x, pl] l₁
theorem next_pile {V : WS} {wd : Wd} {os : List OpV} {i : Nat} (h : V.pile.length ≤ i) : (nextOf V wd os).pile.length ≤ i + 1 := by
  cases wd <;> first | exact Nat.le_succ_of_le h | exact Nat.succ_le_succ h | skip
  exact Nat.le_trans (by show V.pile.tail.length ≤ V.pile.length; rw [List.length_tail]; exact Nat.sub_le _ _) (Nat.le_succ_of_le h)
theorem due_swap {h₀ h : Heap} {L : Addr} {p q : Addr × Obj} {l : Led} (N : News h₀ L h (p :: q :: l)) : News h₀ L h ([q, p] ++ l) := News.sub N fun r hr => by
  simp only [List.cons_append, List.nil_append, List.mem_cons] at hr ⊢
  rcases hr with h | h | h <;> simp [h]
theorem name_lt {c t : Addr} (_ : @LT.lt Nat _ c t) : ∃ t' : Addr, t' = t := ⟨t, rfl⟩
theorem name_lo {c t : Addr} (_ : @LT.lt Nat _ c t) : ∃ c' : Addr, c' = c := ⟨c, rfl⟩
section
local macro_rules | `(tactic| walk_at "call ref") => `(tactic| (k_here; (with_reducible show wpAny _ _ (call (Value.ref _) _) _ _ _); (refine Stop.out ?_; walk_say "STOP")))
local macro_rules | `(tactic| walk_at "eval Dict") => `(tactic| (k_here; k_dflt (refine' kdn_str ?q ?F ?N ?b ?a ?l ?e ?n ?_; (case q => rfl); (case F => k_asm); (case N => k_asm); (case b => exact Top.nolimit (by k_asm)); (case a => rfl); (case l => rfl); (case e => exact List.cons_ne_nil _ _); (case n => exact Nat.le_of_ble_eq_true rfl)); intro d' h' o' F' N' l1 lo' hd'; (have l9 := l1); (try k_lt l1)))
local macro_rules | `(tactic| walk_at "exec For Tuple Name cons nil") => `(tactic| (k_here; refine Stop.out ?_; walk_say "STOP FOR"))
local macro_rules | `(tactic| walk_at "ForSrc") => `(tactic| (k_here; refine Stop.out ?_; walk_say "STOP SRC"))
local macro_rules | `(tactic| walk_at "TurnQ") => `(tactic| (k_here; refine Stop.out ?_; walk_say "STOP TURN"))
local macro_rules | `(tactic| walk_at "compareOp NotEq str str") => `(tactic| (k_here; refine Stop.out ?_; walk_say "STOP NE"))
theorem lawDue_ok {w : World} {mean : ExcName → Option Value} {mg mb : Str → Option Value} {l z : Led} {rl : Addr} {arr : Array Value} {e : Nat} {rows : List (Wd × List OpV)} (hs : ∀ p ∈ z, p ∈ l) (hrl : (rl, W.listOf arr e) ∈ z) (hr : RowsD z arr.toList rows) (hn : rows.length ≤ 8) :
    Fn w mean mg mb 809 80 [.ref rl] l (fun r _ => Told (due ⟨false, false, [], 0⟩ rows) r) := by
  unfold Fn
  k_fill
  intro dp un gd cn cs aa ccd cl outer A₀ base h₀ L m s Q E B F X N T hk hdd hu hret
  have hrl2 := hs _ hrl
  kqd_sub
  refine Stop.in ?_
  rename (∀ p : Addr × Obj, p ∈ l → p.1 < _) => lx
  rename (_ ∧ AllLt _ _) => lp
  rename (Obj.IsDictOf _ _ _) => hD0
  rename News _ _ _ _ => N0
  obtain ⟨lxp, lpa⟩ := lp
  have hlp := allLt_mem lpa
  obtain ⟨pl, rfl⟩ := name_lt lxp
  obtain ⟨x, rfl⟩ := name_lo lxp
  have N9 := due_swap N0
  have nxp : @Ne Nat x pl := Nat.ne_of_lt lxp
  have O9 : Off [x, pl] l := .cons (ne_of_ltAll lx) (.one (ne_of_ltAll hlp))
  have hW0 : WorldD w _ ⟨false, false, [], 0⟩ pl _ := hD0
  refine For_led (by k_asm) (fun _ _ _ _ _ a b => go_tuple a b) ?_
  k_steps
  refine Stop.in ?_
  refine ForSrc.of (fun m₀ news₀ i m' news' => (∃ q, m' = gl m₀ [Str.ofString "word", Str.ofString "operands", Str.ofString "tags", Str.ofString "fault"] (Str.ofString "world") (.ref x) q) ∧ DueAt w rows l z x pl i news') rfl (by k_asm) N9 (.inr ⟨_, List.mem_append_right _ hrl2, rfl, _, rfl⟩) ?_ ?_ ?_
  · exact ⟨⟨_, gl_self _ _ rfl⟩, ⟨false, false, [], 0⟩, _, _, _, _, _, _, rfl, rfl, hW0, rfl, Nat.zero_le _, Ex.refl, O9⟩
  · rintro i v I oI m₁ news₁ h1 tk1 hi hv ⟨⟨q, rfl⟩, V, oW, parr, pn, t, l₁, z₁, rfl, hdue, hW, hP, hpl, G, O⟩ F1 N1 off S
    obtain ⟨wd, os, hrow, t', ol, tkw, tks, str, arr2, e2, rfl, htm, holm, rfl, hopsA, hlen9⟩ := hr.at i v (by rw [← Array.getElem?_toList] at hv; exact hv)
    have hdue2 := hdue.trans (due_at hrow)
    have hi8 : i < 8 := by
      have := hr.len
      rw [Array.length_toList] at this
      omega
    have hzz := G.zz
    have hzl := G.zl hs
    have N2 := News.turn (M := [_, _]) N1
    have O2 : Off [x, pl] ((I, oI) :: l₁) := off_in off O
    have hI : I ∉ [x, pl] := inM off
    have offI := off_app off
    have hzl2 : ∀ p ∈ z₁, p ∈ (I, oI) :: l₁ := fun p hp => .tail _ (hzl p hp)
    have ht2 := hzl2 _ (hzz _ htm)
    have hpz : parr.size ≤ 20 := by rw [hP.size]; omega
    clear N1
    generalize hlI : (I, oI) :: l₁ = lI at N2 O2 hzl2 ht2
    simp only [List.cons_append, List.nil_append] at N2
    k_steps
    refine Stop.in ?_
    (refine' Fn.useM (M := [_, _]) ?N ?hs (lawFault_ok (wd := wd) (os := os) (z := z₁) (sub_on hzl2) (.head _) hW (.tail _ (.head _)) hP.size (hzz _ holm) (hopsA.mono hzz)) ?B ?F ?X ?T ?kK ?kd ?ku ?O ?_); (case N => k_asm); (case hs => exact hzl2); (case O => exact O2); (case B => k_asm); (case F => k_asm); (case X => k_asm); (case T => k_asm); (case kK => exact rfl); (case kd => ktr_room); (case ku => kas_types)
    rintro r4 l4 z4 h4 tk4 F4 N4 G4 hzz4 hzl4 O4 ⟨t4, rfl⟩
    simp only [List.cons_append, List.nil_append, List.map_cons, List.map_nil] at N4 O4
    (try dsimp only); (try k_fold)
    k_steps
    refine Stop.in ?_
    cases hF : faultOf V wd os with
    | some ft =>
      refine ne_yes (by cases ft <;> decide +kernel) ?_
      (try dsimp only); (try k_fold)
      k_steps
      refine Stop.in ?_
      unfold TurnQ
      (try dsimp only); (try k_fold)
      k_steps
      exact hret _ _ _ _ (by k_asm) (by k_asm) (by rw [hdue2, hF]; cases ft <;> exact ⟨_, rfl⟩)
    | none =>
      refine ne_same ?_
      (try dsimp only); (try k_fold)
      k_steps
      refine Stop.in ?_
      (refine' Fn.useT (M := [_, _]) ?N hzl4 O4 (lawFollow_ok (wd := wd) (os := os) hzl4 O4 nxp hW hP hpz (hzz4 _ (hzz _ holm)) ((hopsA.mono hzz).mono hzz4) hF) ?B ?F ?X ?T ?kK ?kd ?ku ?_); (case N => k_asm)
      kt_ors
      rintro r5 M5 l5 z5 h5 tk5 F5 N5 G5 hzz5 hzl5 O5 ⟨rfl, oW5, parr5, pn5, t5, rfl, hW5, hP5⟩
      (try dsimp only); (try k_fold)
      k_steps
      refine Stop.in ?_
      subst hlI
      obtain ⟨l6, E6, s6, o6⟩ := Ex.out (Ex.trans G4 G5) offI
      refine TurnQ.nxt ([(x, oW5), (pl, W.listOf parr5 pn5)] ++ l6) (by k_asm) (by k_asm) (sub_app (M := [_, _]) s6) (app_off (offM hI rfl) o6) (.inr ⟨_, List.mem_append_right _ (E6.zl hzl _ (E6.zz _ (hzz _ hrl))), rfl, _, rfl⟩) ⟨gl_of _ _ rfl (by keq_hits), nextOf V wd os, oW5, parr5, pn5, t5, l6, z5, rfl, ?_, hW5, hP5, next_pile hpl, G.trans E6, Off.sub O5 fun p hp => s6 p (.tail _ hp)⟩
      rw [hdue2, hF]
  · rintro h1 tk1 m1 news1 F1 N1 ⟨⟨q, rfl⟩, V, oW, parr, pn, t, l₁, z₁, rfl, hdue, hW, hP, hpl, G, O⟩
    have hd9 : rows.drop arr.size = [] := List.drop_eq_nil_of_le (by rw [← hr.len, Array.length_toList]; exact Nat.le_refl _)
    rw [hd9] at hdue
    unfold WorldD at hW
    simp only [List.cons_append, List.nil_append] at N1
    k_steps
    exact hret _ _ _ _ (by k_asm) (by k_asm) (by rw [hdue]; exact ⟨_, rfl⟩)
end
local macro_rules | `(tactic| walk_at "pad") => `(tactic| skip)
local macro_rules | `(tactic| walk_at "pad") => `(tactic| skip)
local macro_rules | `(tactic| walk_at "pad") => `(tactic| skip)
local macro_rules | `(tactic| walk_at "pad") => `(tactic| skip)
local macro_rules | `(tactic| walk_at "pad") => `(tactic| skip)
local macro_rules | `(tactic| walk_at "pad") => `(tactic| skip)
local macro_rules | `(tactic| walk_at "pad") => `(tactic| skip)

open LCg in
/-- the turns of a comprehension over a list of rows of three: J from turn to turn -/
def Rows3 (prog : Program) (w : World) (A : Around) (env : Env) (h₀ : Heap) (L : Addr) (m : Str → Option Value) (elt : Expr) (x y z : Str) (scope : Scope) (cl : List (Str × Addr)) (s₁ : Shared) (ax : Addr) (its : Array Value) (k : Nat) (J : Nat → List Value → Led → Prop) : Prop :=
  ∀ i ys nw v, J i ys nw → i < its.size → its[i]? = some v → ∃ (t : Addr) (v₁ v₂ v₃ : Value), v = .ref t ∧ (t, ({ cls := .type "tuple", data := .seq #[v₁, v₂, v₃] } : Obj)) ∈ nw ∧
      ∀ I oI C oC D m₂ h tk (E' : Value → Shared → Prop), NsObj oC m₂ → m₂ x = some v₁ → m₂ y = some v₂ → m₂ z = some v₃ → Fr h₀ L h m → News h₀ L h ((I, oI) :: (C, oC) :: (D, lst ys) :: nw) → Off3 I C D nw → ((@Ne Nat I C) ∧ (@Ne Nat I D) ∧ (@Ne Nat C D)) →
        wpAny (model prog w) A (eval elt (compEnvC scope cl C env)) (CompEnd h₀ L m { s₁ with heap := h, toks := tk } I oI C oC D (lst ys) (fun nw' => (ax, W.listOf its k) ∈ nw') (fun v' nw' => J (i + 1) (ys ++ [v']) nw')) E' { s₁ with heap := h, toks := tk }
theorem mem_three {a b c : Addr × Obj} {l : Led} {P : Addr × Obj → Prop} (ha : P a) (hb : P b) (hc : P c) (h : ∀ p ∈ l, P p) : ∀ p ∈ a :: b :: c :: l, P p := fun p hp => by
  simp only [List.mem_cons] at hp
  rcases hp with rfl | rfl | rfl | hp
  · exact ha
  · exact hb
  · exact hc
  · exact h p hp
/-- three names of a comprehension take the parts of a row -/
theorem assign_three {prog : Program} {w : World} {A : Around} {E : Value → Shared → Prop} {s : Shared} {x y z : Str} {px py pz tp : Pos} {tk} {scope : Scope} {cl : List (Str × Addr)} {env : Env} {C t : Addr} {v₁ v₂ v₃ : Value} {mc : Str → Option Value} {Q : Unit → Shared → Prop} (hh : A.handled = none) (hkind : scope.kind = .function)
    (hx : scope.names.lookup x = some .local) (hy : scope.names.lookup y = some .local) (hz : scope.names.lookup z = some .local) (hn : s.heap.Ns C mc) (ht : (s.heap.get? t) = some { cls := .type "tuple", data := .seq #[v₁, v₂, v₃] })
    (h : ∀ h' tk', h'.Ns C (fun q => if q = z then some v₃ else if q = y then some v₂ else if q = x then some v₁ else mc q) → (∀ b o, b ≠ C → s.heap.get? b = some o → h'.get? b = some o) → Q () { s with heap := h', toks := tk' }) :
    wpAny (model prog w) A (assign (.Tuple [.Name x px, .Name y py, .Name z pz] tk tp) (compEnvC scope cl C env) (.ref t)) Q E s := by
  refine assign_Tuple_tuple hh (items := #[v₁, v₂, v₃]) ⟨_, ht, rfl, _, rfl⟩ rfl rfl fun h₁ e₁ => ?_
  have k₁ : ∀ b o, s.heap.get? b = some o → h₁.get? b = some o := fun b o e => e₁ b o (Nat.ne_of_lt (Heap.lt_size e)) e
  refine assignInOrder_cons (wpAny_assign_Name (wpAny_storeName_local (lookup_relabel_local hx) (hn.at' fun o e => k₁ _ o e) (fun h₂ n₂ s₂ => ?_) (by simp [compEnvC, relabel, hkind])))
  refine assignInOrder_cons (wpAny_assign_Name (wpAny_storeName_local (lookup_relabel_local hy) n₂ (fun h₃ n₃ s₃ => ?_) (by simp [compEnvC, relabel, hkind])))
  refine assignInOrder_cons (wpAny_assign_Name (wpAny_storeName_local (lookup_relabel_local hz) n₃ (fun h₄ n₄ s₄ => ?_) (by simp [compEnvC, relabel, hkind])))
  exact assignInOrder_nil (h h₄ _ n₄ fun b o hb e => s₄.extBut b o hb (s₃.extBut b o hb (s₂.extBut b o hb (k₁ b o e))))
open LCg in
theorem block_three {prog : Program} {w : World} {A : Around} {E : Value → Shared → Prop} {h₀ : Heap} {L : Addr} {m : Str → Option Value} {env : Env} {elt iter : Expr} {x y z : Str} {px py pz tp : Pos} {tk} {scope : Scope} {cl : List (Str × Addr)} {pos : Pos} {s₁ : Shared} {ax : Addr} {its : Array Value} {k : Nat} {news : Led} {J : Nat → List Value → Led → Prop} {RR : Value → Addr → Result → Shared → Prop}
    (hcell : ∀ v ∈ scope.names, v.2 ≠ .cell) (hkind : scope.kind = .function) (hx : scope.names.lookup x = some .local) (hy : scope.names.lookup y = some .local) (hz : scope.names.lookup z = some .local) (hxy : x ≠ y) (hxz : x ≠ z) (hyz : y ≠ z)
    (hh : A.handled = none) (F : Fr h₀ L s₁.heap m) (N : News h₀ L s₁.heap news) (hax : (ax, W.listOf its k) ∈ news) (hsz : its.size ≤ sizeLine) (h0 : J 0 [] news) (step : Rows3 prog w A env h₀ L m elt x y z scope cl s₁ ax its k J)
    (hRR : ∀ D C h tk m' ys news', Fr h₀ L h m → News h₀ L h ((D, lst ys) :: news') → Off1 D news' → h.Ns C m' → h₀.get? C = none → C ≠ L → C ≠ D → (∀ p ∈ news', p.1 ≠ C) → J its.size ys news' → RR (.ref D) C (.ok .next) { s₁ with heap := h, toks := tk }) :
    wpAny (model prog w) A (newList []) (fun acc s₃ => wpAny (model prog w) A (newFunctionEnv scope env.globals cl [] env.qual none .none (some env)) (fun cenv s₄ =>
      codeAny (model prog w) A (.compStart (.ListComp elt [⟨.Tuple [.Name x px, .Name y py, .Name z pz] tk tp, iter, [], 0⟩] scope pos) 0 (.ref s₁.heap.objs.size) acc { cenv with scope := relabel scope env }) (RR acc cenv.locals) s₄) E s₃) E
      { s₁ with heap := s₁.heap.push { cls := .type "list_iterator", data := .fields #[.ref ax, .int 0 0] } } := by
  have hlt : ax < s₁.heap.objs.size := Heap.lt_size (N _ hax).1
  generalize hI : s₁.heap.objs.size = I at hlt ⊢
  generalize hg : s₁.heap.push { cls := .type "list_iterator", data := .fields #[.ref ax, .int 0 0] } = g
  have upg : ∀ b o, s₁.heap.get? b = some o → g.get? b = some o := fun b o e => hg ▸ Heap.get?_push_of_some _ e
  have szg : g.objs.size = I + 1 := by rw [← hg, Heap.size_push, hI]
  have Wk : Walks prog w A I [I, ax] [I] its.size (fun i v => its[i]? = some v) (fun i h => h.IsListIter I ax i ∧ h.IsList ax its) := Walks.list hh I ax (Nat.ne_of_lt hlt) its
  refine wpAny_newObj_type (wpAny_newFunctionEnv hcell (by intro v hv; simp at hv) (fun h₁ hns₁ hsb₁ => ?_) hkind)
  dsimp only at hns₁ hsb₁ ⊢
  generalize hg2 : g.push { cls := .type "list", dict := none, data := .seq ([] : List Value).toArray } = g2 at hns₁ hsb₁ ⊢
  generalize hD : g.objs.size = D at hns₁ hsb₁ ⊢
  have eD : D = I + 1 := by rw [← hD, szg]
  generalize hC : g2.objs.size = C at hns₁ hsb₁ ⊢
  have eC : C = I + 2 := by rw [← hC, ← hg2, Heap.size_push, szg]
  have cI : I ≠ C := by omega
  have dI : I ≠ D := by omega
  have cD : C ≠ D := by omega
  have lo : ∀ b o, s₁.heap.get? b = some o → @LT.lt Nat _ b I := fun b o e => hI ▸ Heap.lt_size e
  have log : ∀ b o, g.get? b = some o → @LT.lt Nat _ b (I + 1) := fun b o e => szg ▸ Heap.lt_size e
  have up2 : ∀ b o, g.get? b = some o → h₁.get? b = some o := fun b o e => hsb₁.extBut b o (Nat.ne_of_lt (Nat.lt_of_lt_of_le (log b o e) (by omega))) (Heap.get?_push_of_some _ (hg2 ▸ Heap.get?_push_of_some _ e))
  have up1 : ∀ b o, s₁.heap.get? b = some o → h₁.get? b = some o := fun b o e => up2 b o (upg b o e)
  have new : ∀ a : Addr, @LE.le Nat _ I a → h₀.get? a = none := fun a ha => by
    cases e : h₀.get? a with
    | none => rfl
    | some o => have := lo _ _ (F.keep a o e); omega
  have lL : @LT.lt Nat _ L I := by rw [← hI]; exact F.ns.lt
  have nI := new I (Nat.le_refl _)
  have nC := new C (by omega)
  have nD := new D (by omega)
  have eLI : L ≠ I := Nat.ne_of_lt lL
  have eCL : C ≠ L := by omega
  have eDL : D ≠ L := by omega
  have hst : h₁.IsListIter I ax 0 ∧ h₁.IsList ax its := ⟨⟨_, up2 _ _ (by rw [← hg, ← hI]; exact Heap.get?_push_size _ rfl), rfl, rfl⟩, ⟨_, up1 _ _ (N _ hax).1, rfl, _, rfl⟩⟩
  have acc : h₁.get? D = some (lst []) := hsb₁.extBut _ _ (Ne.symm cD) (Heap.get?_push_of_some _ (by rw [← hg2, ← hD]; exact Heap.get?_push_size _ rfl))
  have loop : ∀ s₃ : Shared, s₃ = { s₁ with heap := h₁, toks := s₁.toks + ([] : List (Str × Value)).length } →
      codeAny (model prog w) A (.compLoop (.ListComp elt [⟨.Tuple [.Name x px, .Name y py, .Name z pz] tk tp, iter, [], 0⟩] scope pos) 0 (.ref I) (.ref D) (compEnvC scope cl C env)) (RR (.ref D) C) s₃ := by
    rintro s₃ rfl
    refine LCp.codeAny_compLoop_pair (fun n s' => ∃ h' tk i ys m' nw, s' = { s₁ with heap := h', toks := tk } ∧ i ≤ its.size ∧ n = its.size + 1 - i ∧ ys.length = i ∧ (h'.IsListIter I ax i ∧ h'.IsList ax its) ∧ Fr h₀ L h' m ∧ h'.Ns C m' ∧ News h₀ L h' ((D, lst ys) :: nw) ∧ Off3 I C D nw ∧ (ax, W.listOf its k) ∈ nw ∧ J i ys nw) ?_ (its.size + 1)
      ⟨h₁, _, 0, [], _, news, rfl, Nat.zero_le _, rfl, rfl, hst, F.keeps up1, hns₁, fun p hp => ?_, Off3.of fun p hp => ?_, hax, h0⟩
    · rintro n s' ⟨h', tk', i, ys, m', nw, rfl, hi, rfl, hyl, hst', F', n', N', off, hax', j⟩
      have off3 := off.mem
      have keep : ∀ h₂ : Heap, (∀ b o, b ∉ [I] → h'.get? b = some o → h₂.get? b = some o) → Fr h₀ L h₂ m ∧ News h₀ L h₂ ((D, lst ys) :: nw) ∧ h₂.Ns C m' := fun h₂ hk => ⟨fr_but F' hk eLI nI, news_but N' hk fun p hp => by
        rcases List.mem_cons.mp hp with rfl | hp
        · exact Ne.symm dI
        · exact (off3 p hp).1, n'.at' fun o e => hk _ o (by simpa using Ne.symm cI) e⟩
      by_cases hlt : i < its.size
      · refine Wk.item i _ _ _ hlt hst' fun v h₂ tk₂ hv hst₂ hk₂ => ?_
        obtain ⟨F₂, N₂, n₂⟩ := keep h₂ hk₂
        obtain ⟨t, v₁, v₂, v₃, rfl, ht, go⟩ := step i ys nw v j hlt hv
        refine wpAny_letOwnedTupleGo_listiter hst₂.1 ?_
        refine assign_three hh hkind hx hy hz n₂ (N₂ _ (.tail _ ht)).1 fun h₃ tk₃ n₃ k₃ => ?_
        obtain ⟨oI, heI, rI⟩ := hst₂.1
        obtain ⟨oC, heC, hoC⟩ := ns_obj n₃
        have F₃ : Fr h₀ L h₃ m := ⟨F₂.ns.at' fun o e => k₃ _ o (Ne.symm eCL) e, fun b o e => k₃ b o (fun q => by rw [q, nC] at e; cases e) (F₂.keep b o e), F₂.above⟩
        have N₃ : News h₀ L h₃ ((I, oI) :: (C, oC) :: (D, lst ys) :: nw) := mem_three ⟨k₃ _ _ cI heI, Ne.symm eLI, nI⟩ ⟨heC, eCL, nC⟩ ⟨k₃ _ _ (Ne.symm cD) (N₂ _ (.head _)).1, eDL, nD⟩ fun p hp => ⟨k₃ _ _ (off3 p hp).2.1 (N₂ _ (.tail _ hp)).1, (N₂ _ (.tail _ hp)).2⟩
        refine wpAny_mono (go I oI C oC D _ h₃ _ _ hoC (by simp [hxy, hxz]) (by simp [hyz]) (by simp) F₃ N₃ off ⟨cI, dI, cD⟩) (fun v' s₄ e₄ => ?_) fun _ _ e => e
        obtain ⟨h₄, tk₄, nw₄, rfl, F₄, N₄, off₄, hax₄, j₄⟩ := e₄
        refine append_at (hsz := by show ys.toArray.size ≤ sizeLine; rw [List.size_toArray, hyl]; omega) (N₄ (D, lst ys) (.tail _ (.tail _ (.head _)))).1 fun h₅ hs₅ hD₅ => ?_
        have off4 := off₄.mem
        have k₅ : ∀ p ∈ nw₄, h₅.get? p.1 = some p.2 := fun p hp => hs₅.extBut _ _ (off4 p hp).2.2 (N₄ p (.tail _ (.tail _ (.tail _ hp)))).1
        refine ⟨its.size + 1 - (i + 1), by omega, h₅, tk₄, i + 1, ys ++ [v'], _, nw₄, rfl, hlt, rfl, by rw [List.length_append, List.length_singleton, hyl], ⟨⟨oI, hs₅.extBut _ _ dI (N₄ (I, oI) (.head _)).1, rI⟩, ⟨_, k₅ _ hax₄, rfl, _, rfl⟩⟩, F₄.change hs₅ eDL nD,
          (hoC.ns (N₄ (C, oC) (.tail _ (.head _))).1).sameBut hs₅ cD, fun p hp => ?_, off₄, hax₄, j₄⟩
        rcases List.mem_cons.mp hp with rfl | hp
        · exact ⟨hD₅.trans (congrArg some (lst_snoc ys v')), eDL, nD⟩
        · exact ⟨k₅ p hp, (N₄ p (.tail _ (.tail _ (.tail _ hp)))).2⟩
      · obtain rfl : i = its.size := Nat.le_antisymm hi (Nat.not_lt.mp hlt)
        refine Wk.done _ _ _ hst' fun h₂ tk₂ hk₂ => ?_
        obtain ⟨F₂, N₂, n₂⟩ := keep h₂ hk₂
        exact hRR _ _ h₂ tk₂ _ ys nw F₂ N₂ off.one n₂ nC eCL cD (fun p hp => (off3 p hp).2.1) j
    · rcases List.mem_cons.mp hp with rfl | hp
      · exact ⟨acc, eDL, nD⟩
      · exact ⟨up1 _ _ (N p hp).1, (N p hp).2⟩
    · have l9 := lo _ _ (N p hp).1
      exact ⟨Nat.ne_of_lt l9, Nat.ne_of_lt (Nat.lt_of_lt_of_le l9 (by omega)), Nat.ne_of_lt (Nat.lt_of_lt_of_le l9 (by omega))⟩
  exact codeAny_compStart_list (loop _ rfl) (Wk.self 0 _ _ _ hst (loop _ rfl))
open LCg in
/-- the list that a comprehension over rows of three makes -/
def RowsSrc (prog : Program) (w : World) (A : Around) (env : Env) (h₀ : Heap) (L : Addr) (m : Str → Option Value) (elt : Expr) (x y z : Str) (scope : Scope) (cl : List (Str × Addr)) (Q : Value → Shared → Prop) (xv : Value) (s₁ : Shared) : Prop :=
  ∃ (ax : Addr) (its : Array Value) (k : Nat) (news : Led) (J : Nat → List Value → Led → Prop), xv = .ref ax ∧ A.handled = none ∧ Fr h₀ L s₁.heap m ∧ News h₀ L s₁.heap news ∧ (ax, W.listOf its k) ∈ news ∧ its.size ≤ sizeLine ∧ J 0 [] news ∧
    Rows3 prog w A env h₀ L m elt x y z scope cl s₁ ax its k J ∧ (∀ ys nw, J its.size ys nw → FinE h₀ L m s₁ Q ys nw)
open LCg in
theorem ListComp_three {prog : Program} {w : World} {A : Around} {E : Value → Shared → Prop} {s : Shared} {h₀ : Heap} {L : Addr} {m : Str → Option Value} {env : Env} {elt iter : Expr} {x y z : Str} {px py pz tp : Pos} {tk} {scope : Scope} {cl : List (Str × Addr)} {pos : Pos} {Q : Value → Shared → Prop} (_ : Fr h₀ L s.heap m)
    (hclos : closureFor scope env = pure cl) (hcell : ∀ v ∈ scope.names, v.2 ≠ .cell) (hkind : scope.kind = .function)
    (hnames : ∀ v ∈ scope.names, v.2 = .local → scope.names.lookup v.1 = some .local) (hx : scope.names.lookup x = some .local) (hy : scope.names.lookup y = some .local) (hz : scope.names.lookup z = some .local) (hxy : x ≠ y) (hxz : x ≠ z) (hyz : y ≠ z)
    (h : wpAny (model prog w) A (eval iter env) (RowsSrc prog w A env h₀ L m elt x y z scope cl Q) E s)
    (hs : ∀ v, foldedSetIterable iter env v = pure v := by intro _; rfl) :
    wpAny (model prog w) A (eval (.ListComp elt [⟨.Tuple [.Name x px, .Name y py, .Name z pz] tk tp, iter, [], 0⟩] scope pos) env) Q E s := by
  rw [eval_ListComp]
  refine wpAny_comprehension_free (use := none) rfl hs hclos hkind hnames (wpAny_mono h (fun xv s₁ h₁ => ?_) fun _ _ e => e)
  obtain ⟨ax, its, k, news, J, rfl, hh, F, N, hax, hsz, h0, step, fin⟩ := h₁
  refine wpAny_pyIter_list ⟨_, (N _ hax).1, rfl, _, rfl⟩ ?_
  refine block_three hcell hkind hx hy hz hxy hxz hyz hh F N hax hsz h0 step ?_
  intro D C h tk m' ys news' F' N' o1 hn hC₀ hCL hCD offC hj
  refine ⟨m', hn, fun h'' hs'' => fin ys news' hj D h'' tk (F'.change hs'' hCL hC₀) (fun p hp => ?_) o1⟩
  refine ⟨hs''.extBut _ _ ?_ (N' p hp).1, (N' p hp).2⟩
  rcases List.mem_cons.mp hp with rfl | hp
  · exact Ne.symm hCD
  · exact offC p hp

section
local macro_rules | `(tactic| walk_at "call ref") => `(tactic| (k_here; (with_reducible show wpAny _ _ (call (Value.ref _) _) _ _ _); (refine Stop.out ?_; walk_say "STOP")))
theorem fontNew_ok {w : World} {mean : ExcName → Option Value} {mg mb : Str → Option Value} {l z : Led} {nl rl u st : Addr} {arr : Array Value} {en er : Nat} {td : Tok} (hs : ∀ p ∈ z, p ∈ l) (hn : (nl, W.listOf arr en) ∈ z) (hsz : arr.size = 256) (ha : ∀ i < 256, ∃ t, arr[i]? = some (.str (Str.ofString "") t)) (hr : (rl, W.listOf #[] er) ∈ z) (ht : (st, ({ cls := .type "tuple", data := .seq #[] } : Obj)) ∈ z) (hu : IsD z (.ref u) 3) :
    Fn w mean mg mb 753 6 [.ref nl, .none, .none, .ref rl, .int 500 td, .ref u, .ref st] l (fun r l' => ∃ z', Ex l z l' z' ∧ IsFont z' r) := by
  unfold Fn
  k_fill
  intro dp un gd cn cs aa ccd cl outer A₀ base h₀ L m s Q E B F X N T hk hdd hu9 hret
  kba_ints
  exact hret _ _ _ _ (by k_asm) (by k_asm) ⟨_, Ex.cls (z := z) Ex.refl (by assumption) (by assumption), .mk (.head _) (.tail _ (.head _)) (.tail _ (.tail _ hn)) hsz ha (.tail _ (.tail _ hr)) (.tail _ (.tail _ ht)) (hu.mono fun p hp => .tail _ (.tail _ hp))⟩
theorem opNew_ok {w : World} {mean : ExcName → Option Value} {mg mb : Str → Option Value} {l z : Led} {ol : Addr} {word : Str} {tw : Tok} {arr : Array Value} {eo : Nat} {os : List OpV} (hs : ∀ p ∈ z, p ∈ l) (hol : (ol, W.listOf arr eo) ∈ z) (ho : OpsAt z arr.toList os) :
    Fn w mean mg mb 399 6 [.str word tw, .ref ol] l (fun r l' => ∃ z', Ex l z l' z' ∧ IsOp z' r word os) := by
  unfold Fn
  k_fill
  intro dp un gd cn cs aa ccd cl outer A₀ base h₀ L m s Q E B F X N T hk hdd hu9 hret
  kba_ints
  exact hret _ _ _ _ (by k_asm) (by k_asm) ⟨_, Ex.cls (z := z) Ex.refl (by assumption) (by assumption), .mk (.head _) (.tail _ (.head _)) (.tail _ (.tail _ hol)) (ho.mono fun p hp => .tail _ (.tail _ hp))⟩
theorem sheetNew_ok {w : World} {mean : ExcName → Option Value} {mg mb : Str → Option Value} {l z : Led} {opl fo fm own : Addr} {f : Value} {ofo ofm : Obj} {oarr : Array Value} {eo : Nat} {rows : List (Wd × List OpV)} (hs : ∀ p ∈ z, p ∈ l) (hfo : (fo, ofo) ∈ z) (hD : ofo.IsDictOf (PySem.strKind PySem.Challenge.rw_og0194_01.row.prog w) [(Str.ofString "A", f)]) (lo : (fo == sysModules) = false) (hf : IsFont z f)
      (hfm : (fm, ofm) ∈ z) (hDm : ofm.IsDictOf (PySem.strKind PySem.Challenge.rw_og0194_01.row.prog w) []) (lom : (fm == sysModules) = false) (hol : (opl, W.listOf oarr eo) ∈ z) (hr : RowsAt z oarr.toList rows) (hn : rows.length ≤ 8) (hown : IsM z (.ref own) 2) :
    Fn w mean mg mb 462 6 [.ref opl, .ref fo, .ref fm, .ref own] l (fun r l' => ∃ z', Ex l z l' z' ∧ SheetAt w z' r f rows) := by
  unfold Fn
  k_fill
  intro dp un gd cn cs aa ccd cl outer A₀ base h₀ L m s Q E B F X N T hk hdd hu9 hret
  kba_ints
  exact hret _ _ _ _ (by k_asm) (by k_asm) ⟨_, Ex.cls (z := z) Ex.refl (by assumption) (by assumption), .mk (.head _) (.tail _ (.head _)) (.tail _ (.tail _ hfo)) hD lo (hf.mono fun p hp => .tail _ (.tail _ hp)) (.tail _ (.tail _ hfm)) hDm lom (.tail _ (.tail _ hol)) (hr.mono fun p hp => .tail _ (.tail _ hp)) hn (hown.mono fun p hp => .tail _ (.tail _ hp))⟩
end
local macro_rules | `(tactic| walk_at "pad") => `(tactic| skip)
local macro_rules | `(tactic| walk_at "pad") => `(tactic| skip)

/-- the tape's cells: a list of one to sixty ints -/
def TapeQ (h₀ : Heap) (L : Addr) (m : Str → Option Value) (news : Led) (s : Shared) (v : Value) (s' : Shared) : Prop :=
  ∃ c vs ns e h' tk', v = .ref c ∧ s' = { s with heap := h', toks := tk' } ∧ Fr h₀ L h' m ∧ News h₀ L h' ((c, W.listOf vs.toArray e) :: news) ∧ (∀ p ∈ news, p.1 < c) ∧ IntsAre vs ns ∧ 0 < (ns.length : Int) ∧ ns.length ≤ 60
theorem TapeQ.of {h₀ : Heap} {L : Addr} {m : Str → Option Value} {news all : Led} {s : Shared} {c : Addr} {vs : List Value} {ns : List Int} {e : Nat} {h' : Heap} {tk' : Nat} (F : Fr h₀ L h' m) (N : News h₀ L h' all) (sub : ∀ p ∈ (c, W.listOf vs.toArray e) :: news, p ∈ all) (lt : ∀ p ∈ news, p.1 < c) (hi : IntsAre vs ns) (h0 : 0 < ns.length) (h1 : ns.length ≤ 60) :
    TapeQ h₀ L m news s (.ref c) { s with heap := h', toks := tk' } := ⟨c, vs, ns, e, h', tk', rfl, rfl, F, News.sub N sub, lt, hi, by omega, h1⟩
theorem tape_cut {M : Model} {A : Around} {E : Value → Shared → Prop} {s : Shared} {t : Sem Value} {h₀ : Heap} {L : Addr} {m : Str → Option Value} {news : Led} {Q : Value → Shared → Prop} (_ : Fr h₀ L s.heap m) (_ : News h₀ L s.heap news) (h1 : wpAny M A t (TapeQ h₀ L m news s) E s)
    (h2 : ∀ c vs ns e h' tk', Fr h₀ L h' m → News h₀ L h' ((c, W.listOf vs.toArray e) :: news) → (∀ p ∈ news, p.1 < c) → IntsAre vs ns → 0 < (ns.length : Int) → ns.length ≤ 60 → Q (.ref c) { s with heap := h', toks := tk' }) : wpAny M A t Q E s :=
  wpAny_mono h1 (fun v s' ⟨c, vs, ns, e, h', tk', hv, hs, F, N, lt, hi, h0, h6⟩ => by subst hv hs; exact h2 c vs ns e h' tk' F N lt hi h0 h6) fun _ _ e => e
theorem lt_one {a c : Addr} {o : Obj} (h : @LT.lt Nat _ a c) : ∀ p ∈ [(a, o)], p.1 < c := fun p hp => by rw [List.mem_singleton.mp hp]; exact h
theorem off_two {t c d : Addr} {oc od : Obj} (h1 : @LT.lt Nat _ c t) (h2 : @LT.lt Nat _ d t) : Off [t] [(c, oc), (d, od)] := .one fun p hp => by
  simp only [List.mem_cons, List.not_mem_nil, or_false] at hp
  rcases hp with rfl | rfl
  · exact Nat.ne_of_lt h1
  · exact Nat.ne_of_lt h2
theorem mem_head2 {q r s : Addr × Obj} : ∀ p ∈ q :: [s], p ∈ q :: r :: [s] := fun p hp => by
  simp only [List.mem_cons, List.not_mem_nil, or_false] at hp ⊢
  rcases hp with h | h <;> simp [h]
theorem mem_head3 {q r s t : Addr × Obj} : ∀ p ∈ q :: [t], p ∈ q :: r :: s :: [t] := fun p hp => by
  simp only [List.mem_cons, List.not_mem_nil, or_false] at hp ⊢
  rcases hp with h | h <;> simp [h]
theorem repLst_M {prog : Program} {w : World} {A : Around} {E : Value → Shared → Prop} {s : Shared} {h₀ : Heap} {L t : Addr} {m : Str → Option Value} {M l z : Led} {v : Value} {e : Nat} {u : Tok} {Q : Value → Shared → Prop} (F : Fr h₀ L s.heap m) (N : News h₀ L s.heap (M ++ l)) (hs : ∀ p ∈ z, p ∈ l) (O : Off (M.map (·.1)) l) (hl : (t, W.listOf #[v] e) ∈ z)
    (h : ∀ D l₂ z₂ h', Fr h₀ L h' m → News h₀ L h' (M ++ l₂) → Ex l z l₂ z₂ → (∀ p ∈ z, p ∈ z₂) → (∀ p ∈ z₂, p ∈ l₂) → Off (M.map (·.1)) l₂ → (D, W.listOf (List.replicate 256 v).toArray 0) ∈ z₂ → Q (.ref D) { s with heap := h' }) :
    wpAny (model prog w) A (binaryOp .Mult (.ref t) (.int 256 u)) Q E s := by
  refine KMa.mul (vs := [v]) (ws := List.replicate 256 v) F N (News.isList N (List.mem_append_right _ (hs _ hl))) (by decide) (by decide) (by show 1 * 256 ≤ 256; decide) (by rw [show (256 : Int).toNat = 256 from rfl]; exact List.flatten_replicate_singleton) fun D h' F' N' lt => ?_
  have l1 : ∀ p ∈ l, p.1 < D := fun p hp => lt p (List.mem_append_right _ hp)
  have G : Ex l z ((D, W.listOf (List.replicate 256 v).toArray 0) :: l) ((D, W.listOf (List.replicate 256 v).toArray 0) :: z) := Ex.one Ex.refl l1
  refine h D _ _ h' F' (News.sub N' fun p hp => ?_) G G.zz (G.zl hs) (fun p hp e => ?_) (.head _)
  · rcases List.mem_append.mp hp with hp | hp
    · exact .tail _ (List.mem_append_left _ hp)
    · rcases List.mem_cons.mp hp with rfl | hp
      · exact .head _
      · exact .tail _ (List.mem_append_right _ hp)
  · rcases List.mem_cons.mp hp with rfl | hp
    · obtain ⟨q, hq, e⟩ := List.mem_map.mp e
      exact absurd e (Nat.ne_of_lt (lt q (List.mem_append_left _ hq)))
    · exact O p hp e
theorem tape_at {c d t : Addr} {oc : Obj} {vs : List Value} {ns : List Int} {e : Nat} (_ : @LT.lt Nat _ d t) (hi : IntsAre vs ns) (h0 : 0 < (ns.length : Int)) (h1 : ns.length ≤ 60) : TapeOk [(c, W.listOf vs.toArray e), (d, oc)] c := ⟨vs, ns, e, hi, .head _, h0, h1⟩
theorem rep_any {v : Value} {n i : Nat} (h : i < n) : (List.replicate n v).toArray[i]? = some v := by simp [List.getElem?_replicate, h]
theorem rep_at {t : Tok} : ∀ i < 256, ∃ t', (List.replicate 256 (Value.str (Str.ofString "") t)).toArray[i]? = some (.str (Str.ofString "") t') := fun i hi => ⟨t, rep_any hi⟩
theorem RowsAt.snoc {z : Led} {v : Value} {wd : Wd} {os : List OpV} (h : IsOp z v wd.str os) (hn : os.length ≤ 10) : ∀ {vs : List Value} {rows : List (Wd × List OpV)}, RowsAt z vs rows → RowsAt z (vs ++ [v]) (rows ++ [(wd, os)])
  | _, _, .nil => .cons h hn .nil
  | _, _, .cons h' hn' r => .cons h' hn' (r.snoc h hn)
theorem cell_new {h₀ h : Heap} {L d tp : Addr} {o ot ot' : Obj} {l z : Led} (N : News h₀ L h ((d, o) :: (tp, ot) :: l)) (lt : ∀ p ∈ (tp, ot') :: l, p.1 < d) (O : Off [tp] l) : News h₀ L h ((tp, ot) :: (d, o) :: l) ∧ Ex l z ((d, o) :: l) ((d, o) :: z) ∧ Off [tp] ((d, o) :: l) :=
  ⟨cell_turn N, Ex.one Ex.refl fun p hp => lt p (.tail _ hp), .one fun p hp => by
    rcases List.mem_cons.mp hp with rfl | hp
    · exact Nat.ne_of_gt (lt _ (.head _))
    · exact O.ne (.head _) p hp⟩

theorem cell_at {d t : Addr} {oc : Obj} {q : Addr × Obj} (_ : @LT.lt Nat _ d t) : (d, oc) ∈ [q, (d, oc)] := .tail _ (.head _)
theorem name_led {z l : Led} (_ : ∀ p ∈ z, p ∈ l) : ∃ l' : Led, l' = l := ⟨l, rfl⟩
section
local macro_rules | `(tactic| walk_at "call ref") => `(tactic| (k_here; (with_reducible show wpAny _ _ (call (Value.ref _) _) _ _ _); (refine Stop.out ?_; walk_say "STOP")))
local macro_rules | `(tactic| walk_at "eval BoolOp") => `(tactic| (k_here; (with_reducible show wpAny _ _ (eval (Expr.BoolOp BoolOp.Or _ _) _) _ _ _); refine Stop.out ?_; walk_say "STOP OR"))
local macro_rules | `(tactic| walk_at "TapeQ") => `(tactic| (k_here; refine Stop.out ?_; walk_say "STOP TAPE"))
local macro_rules | `(tactic| walk_at "newList") => `(tactic| (k_here; k_dflt (refine' newLst_M (M := [_]) ?F ?N ?hs ?O ?z ?_; (case F => k_asm); (case N => k_asm); (case hs => with_reducible assumption); (case O => (show Off [_] _); with_reducible assumption); (case z => exact Nat.le_of_ble_eq_true rfl)); intro D' l' z' h' F' N' G' hz' hl' O' hm'; (have hG' := Grow.of G'); (try simp only [List.cons_append, List.nil_append, List.map_cons, List.map_nil] at N' O')))
local macro_rules | `(tactic| walk_at "newTuple") => `(tactic| (k_here; k_dflt (refine' newTup_M (M := [_]) ?F ?N ?hs ?O ?z ?_; (case F => k_asm); (case N => k_asm); (case hs => with_reducible assumption); (case O => (show Off [_] _); with_reducible assumption); (case z => exact Nat.le_of_ble_eq_true rfl)); intro D' l' z' h' F' N' G' hz' hl' O' hm'; (have hG' := Grow.of G'); (try simp only [List.cons_append, List.nil_append, List.map_cons, List.map_nil] at N' O')))
local macro_rules | `(tactic| walk_at "binaryOp Mult ref int") => `(tactic| (k_here; k_dflt (refine' repLst_M (M := [_]) ?F ?N ?hs ?O ?l ?_; (case F => k_asm); (case N => k_asm); (case hs => with_reducible assumption); (case O => (show Off [_] _); with_reducible assumption); (case l => with_reducible assumption)); intro D' l' z' h' F' N' G' hz' hl' O' hm'; (have hG' := Grow.of G'); (try simp only [List.cons_append, List.nil_append, List.map_cons, List.map_nil] at N' O')))
local macro_rules | `(tactic| walk_at "call ref") => `(tactic| (k_here; (with_reducible show wpAny _ _ (call (Value.ref 361) _) _ _ _); k_dflt ((refine' Fn.useM (M := [_]) ?N ?hs (identity_ok (n := 0) (sub_on ?hs)) ?B ?F ?X ?T ?kK ?kd ?ku ?O ?_); (case N => k_asm); (case hs => with_reducible assumption); kaf_suf; skip; rintro r' l' z' h' tk' F' N' G' hz' hl' O' D'; (have hG' := Grow.of G')); (try simp only [List.cons_append, List.nil_append, List.map_cons, List.map_nil] at N' O'); (obtain ⟨x', er'⟩ := IsM.isRef D'); subst er'; (try dsimp only); (try k_fold)))
local macro_rules | `(tactic| walk_at "RowsSrc") => `(tactic| (k_here; refine Stop.out ?_; walk_say "STOP ROWS"))
local macro_rules | `(tactic| walk_at "eval ListComp") => `(tactic| (k_here; refine Stop.out ?_; walk_say "STOP COMP"))
local macro_rules | `(tactic| walk_at "eval Dict nil nil") => `(tactic| (k_here; refine Stop.out ?_; walk_say "STOP DICT2"))
local macro_rules | `(tactic| walk_at "eval Dict") => `(tactic| (k_here; refine Stop.out ?_; walk_say "STOP DICT"))
local macro_rules | `(tactic| walk_at "CompSrc") => `(tactic| (k_here; refine Stop.out ?_; walk_say "STOP SRC"))
theorem law_holds : PySem.Challenge.rw_og0194_01.Holds := hd (by
  k_go0
  (all_goals try k_fold)
  k_steps
  refine Stop.in ?_
  rename Fr _ _ _ _ => F1
  rename News _ _ _ _ => N1
  refine tape_cut F1 N1 ?_ ?_
  · refine BoolOp_or ?_
    k_steps
    · refine Stop.in ?_
      rename (_ ∧ _) => lt9
      rename (List.length _ = min _ _) => hm9
      exact TapeQ.of (by k_asm) (by k_asm) mem_head2 (lt_one lt9.2) (by with_reducible assumption) (by with_reducible assumption) (by omega)
    · refine Stop.in ?_
      refine BoolOp_one ?_
      k_steps
      refine Stop.in ?_
      rename (_ ∧ _ ∧ _) => lt9
      exact TapeQ.of (ns := [0]) (by k_asm) (by k_asm) mem_head3 (lt_one lt9.2.2) (.cons _ _ .nil) (by decide) (by decide)
  · intro c vs ns e h2 tk2 F2 N2 lt2 hI2 h02 h602
    (try dsimp only); (try k_fold)
    k_steps
    refine Stop.in ?_
    rename (Obj.data _ = _) => hoc
    rename Obj => oc
    rename (_ ∧ _) => lt3
    obtain ⟨lt3, lt4⟩ := lt3
    obtain ⟨tp, rfl⟩ := name_lt lt3
    rename Fr _ _ _ _ => F3
    rename News _ _ _ _ => N3
    simp only [List.cons_append, List.nil_append] at N3
    have O3 := off_two (oc := W.listOf vs.toArray e) (od := oc) lt3 lt4
    have hcl3 := cell_at (oc := oc) (q := (c, W.listOf vs.toArray e)) lt4
    have hT3 := tape_at (c := c) (e := e) (oc := oc) lt4 hI2 h02 h602
    (refine' Fn.useT (M := [_]) N3 sub_self O3 (drawT_ok sub_self O3 hT3 (Int.le_refl 0) (by decide) (by decide) (by decide)) ?B ?F ?X ?T ?kK ?kd ?ku ?_)
    kt_ors
    rintro r5 M5 l5 z5 h5 tk5 F5 N5 G5 hzz5 hzl5 O5 ⟨t9, r9, tr9, rfl, hr0, hr1, rfl⟩
    simp only [List.cons_append, List.nil_append] at N5
    have hG5 := Grow.of G5
    (try dsimp only); (try k_fold)
    k_steps
    refine Stop.in ?_
    refine LCg.CompSrc.range (by rfl) (by k_asm) (by k_asm) (by assumption) (small_one (by omega) (by omega) (by omega) (by omega)) (rangeSize_nat _ _) (by rw [sizeLine_eq]; omega) fun g => ?_
    refine comp_ind (fun j ys nw => ∃ l' z' i' t, nw = (tp, tapeO c i' t 0) :: l' ∧ Ex l5 z5 l' z' ∧ Off [tp] l' ∧ 0 ≤ i' ∧ i' ≤ 1 + 20 * (j : Int) ∧ ∃ rows, RowsD z' ys rows ∧ rows.length = j) ⟨_, _, _, _, rfl, Ex.refl, O5, by omega, by omega, [], .nil, rfl⟩ ?_ ?_
    · rintro j ys nw ⟨l6, z6, i6, t6, rfl, G6, O6, hi6, hi7, rows6, hrows, hlen⟩ hj v I oI C oC D6 m₂ h6 tk6 E' hv hC hx F6 N6 off3 ⟨n1, n2, n3⟩
      obtain ⟨tv, rfl⟩ := hv
      have hj9 : j < 8 := by omega
      have hG6 := Grow.of G6
      k_steps
      refine Stop.in ?_
      have N7 := tape_three N6
      have hzl7 := sub_cons (q := (I, oI)) (sub_cons (q := (C, oC)) (sub_cons (q := (D6, LCg.lst ys)) (G6.zl hzl5)))
      have hzz6 := G6.zz
      have O7 : Off [tp] ((I, oI) :: (C, oC) :: (D6, LCg.lst ys) :: l6) := .one (mem_three (Ne.symm off3.1.1) (Ne.symm off3.1.2.1) (Ne.symm off3.1.2.2) (O6.ne (.head _)))
      (refine' Fn.useT (M := [_]) N7 hzl7 O7 (deed_ok hzl7 O7 (hT3.mono (by kt_eqs)) (by omega) (by omega)) ?B ?F ?X ?T ?kK ?kd ?ku ?_)
      kt_ors
      rintro r8 M8 l8 z8 h8 tk8 F8 N8 G8 hzz8 hzl8 O8 ⟨i9, t9', rfl, hi9, hi10, wd, os, hrow⟩
      obtain ⟨l9, E9, s9, o9⟩ := Ex.out3 G8 off3.2.mem
      refine LCg.CompEnd.intro (by k_asm) N8 ((tp, tapeO c i9 t9' 0) :: l9) (tape_four s9) (off3_cons off3.1 (LCg.Off3.of o9)) trivial ⟨l9, z8, i9, t9', rfl, G6.trans E9, Off.sub O8 fun p hp => s9 p (.tail _ (.tail _ (.tail _ hp))), by omega, by omega, rows6 ++ [(wd, os)], (hrows.mono hzz8).snoc hrow, by simp [hlen]⟩
    · rintro ys nw ⟨l6, z6, i6, t6, rfl, G6, O6, hi6, hi7, rows6, hrows, hlen⟩ D6 h6 tk6 F6 N6 o6
      have hn9 : rows6.length ≤ 8 := by omega
      have nDt : @Ne Nat D6 tp := Ne.symm o6.1
      have N7 := cell_turn N6
      have O7 : Off [tp] ((D6, LCg.lst ys) :: l6) := .one fun p hp => by
        rcases List.mem_cons.mp hp with rfl | hp
        · exact nDt
        · exact O6.ne (.head _) p hp
      have hzl7 : ∀ p ∈ (D6, LCg.lst ys) :: z6, p ∈ (D6, LCg.lst ys) :: l6 := fun p hp => by
        rcases List.mem_cons.mp hp with rfl | hp
        · exact .head _
        · exact .tail _ (G6.zl hzl5 p hp)
      have hrows7 := hrows.mono (z' := (D6, LCg.lst ys) :: z6) fun p hp => .tail _ hp
      have hD7 : (D6, LCg.lst ys) ∈ (D6, LCg.lst ys) :: z6 := .head _
      have hT7 := hT3.mono (z' := (D6, LCg.lst ys) :: z6) fun p hp => .tail _ (G6.zz p (hzz5 p hp))
      have hcl7 := List.mem_cons_of_mem (D6, LCg.lst ys) (G6.zz _ (hzz5 _ hcl3))
      clear N6
      generalize (D6, LCg.lst ys) :: z6 = z7 at hzl7 hrows7 hD7 hT7 hcl7
      generalize (D6, LCg.lst ys) :: l6 = l7 at N7 O7 hzl7
      (try dsimp only); (try k_fold)
      k_steps
      refine Stop.in ?_
      (refine' Fn.useM (M := [_]) ?N ?hs (decNew_ok (n := 3) (sub_on ?hs) (by decide) (by decide) (by decide)) ?B ?F ?X ?T ?kK ?kd ?ku ?O ?_); (case N => k_asm); (case hs => with_reducible assumption); (case O => (show Off [_] _; with_reducible assumption)); (case B => k_asm); (case F => k_asm); (case X => k_asm); (case T => k_asm); (case kK => exact rfl); (case kd => ktr_room); (case ku => kas_types)
      rintro ru lu zu hu tku Fu Nu Gu hzzu hzlu Ou hdu
      have hGu := Grow.of Gu
      obtain ⟨ux, rfl⟩ := hdu.isRef
      simp only [List.cons_append, List.nil_append, List.map_cons, List.map_nil] at Nu Ou
      (try dsimp only); (try k_fold)
      k_steps
      refine Stop.in ?_
      (refine' Fn.useM (M := [_]) ?N ?hs (fontNew_ok (sub_on ?hs) ?hn ?hsz ?ha ?hr ?ht ?hu) ?B ?F ?X ?T ?kK ?kd ?ku ?O ?_); (case N => k_asm); (case hs => with_reducible assumption); (case O => (show Off [_] _; with_reducible assumption)); (case B => k_asm); (case F => k_asm); (case X => k_asm); (case T => k_asm); (case kK => exact rfl); (case kd => ktr_room); (case ku => kas_types); (case hn => k_mem); (case hsz => exact List.size_toArray.trans List.length_replicate); (case ha => exact rep_at); (case hr => k_mem); (case ht => k_mem); (case hu => kwd_rel)
      rintro rf l8 z8 h8 tk8 F8 N8 G8 hzz8 hzl8 O8 hff
      have hG8 := Grow.of G8
      obtain ⟨fx, rfl⟩ := hff.isRef
      have hrows8 := hrows7.mono (z' := z8) (by kt_eqs)
      have hD8 : (D6, LCg.lst ys) ∈ z8 := by k_mem
      have hz78 : ∀ p ∈ z7, p ∈ z8 := by kt_eqs
      have hT8 := hT7.mono hz78
      have hcl8 := hz78 _ hcl7
      simp only [List.cons_append, List.nil_append, List.map_cons, List.map_nil] at N8 O8
      (try dsimp only); (try k_fold)
      k_steps
      refine Stop.in ?_
      refine ListComp_three (by k_asm) (by rfl) (by decide) (by rfl) (by decide) (by rfl) (by rfl) (by rfl) (by decide) (by decide) (by decide) ?_
      k_steps
      refine Stop.in ?_
      have hysl : ys.length = rows6.length := hrows8.len
      refine ⟨_, _, _, _, fun j ops nw => ∃ l' z', nw = (tp, tapeO c i6 t6 0) :: l' ∧ Ex l8 z8 l' z' ∧ Off [tp] l' ∧ RowsAt z' ops (rows6.take j), rfl, by rfl, by k_asm, by k_asm, .tail _ (hzl8 _ hD8), (by rw [sizeLine_eq, List.size_toArray]; omega), ⟨_, _, rfl, Ex.refl, O8, .nil⟩, ?_, ?_⟩
      · rintro i ops nw v ⟨l9, z9, rfl, G9, O9, hops9⟩ hi hv
        obtain ⟨wd, os, hrow, t', ol, tkw, tks, str, arr2, e2, rfl, htm, holm, rfl, hopsA, hlen9⟩ := hrows8.at i v (by simpa using hv)
        have hzl9 := G9.zl hzl8
        refine ⟨t', _, _, _, rfl, .tail _ (hzl9 _ (G9.zz _ htm)), ?_⟩
        intro I oI C oC D9 m₂ h9 tk9 E' hC hx hy hz F9 N9 off3 ne9
        have hG9 := Grow.of G9
        k_steps
        refine Stop.in ?_
        have hzz9 := G9.zz
        have N10 := tape_three N9
        have hzl10 := sub_cons (q := (I, oI)) (sub_cons (q := (C, oC)) (sub_cons (q := (D9, LCg.lst ops)) hzl9))
        have O10 : Off [tp] ((I, oI) :: (C, oC) :: (D9, LCg.lst ops) :: l9) := .one (mem_three (Ne.symm off3.1.1) (Ne.symm off3.1.2.1) (Ne.symm off3.1.2.2) (O9.ne (.head _)))
        (refine' Fn.useM (M := [_]) N10 hzl10 (opNew_ok (word := wd.str) (os := os) (sub_on hzl10) (hzz9 _ holm) (hopsA.mono hzz9)) ?B ?F ?X ?T ?kK ?kd ?ku O10 ?_); (case B => k_asm); (case F => k_asm); (case X => k_asm); (case T => k_asm); (case kK => exact rfl); (case kd => ktr_room); (case ku => kas_types)
        rintro r11 l11 z11 h11 tk11 F11 N11 G11 hzz11 hzl11 O11 hop
        obtain ⟨l12, E12, s12, o12⟩ := Ex.out3 G11 off3.2.mem
        refine LCg.CompEnd.intro (by k_asm) N11 ((tp, tapeO c i6 t6 0) :: l12) (tape_four s12) (off3_cons off3.1 (LCg.Off3.of o12)) (.tail _ (E12.zl hzl9 _ (hzz11 _ (hzz9 _ hD8)))) ⟨l12, z11, rfl, G9.trans E12, Off.sub O11 fun p hp => s12 p (.tail _ (.tail _ (.tail _ hp))), ?_⟩
        rw [List.take_add_one, hrow]
        exact (hops9.mono hzz11).snoc hop hlen9
      · rintro ops nw ⟨l9, z9, rfl, G9, O9, hops9⟩
        unfold LCg.FinE
        intro D9 h9 tk9 F9 N9 o9
        rw [show rows6.take ys.toArray.size = rows6 from by rw [List.size_toArray, hysl, List.take_length]] at hops9
        have N10 := cell_turn N9
        have O10 : Off [tp] ((D9, LCg.lst ops) :: l9) := .one fun p hp => by
          rcases List.mem_cons.mp hp with rfl | hp
          · exact Ne.symm o9.1
          · exact O9.ne (.head _) p hp
        have hzl10 : ∀ p ∈ (D9, LCg.lst ops) :: z9, p ∈ (D9, LCg.lst ops) :: l9 := fun p hp => by
          rcases List.mem_cons.mp hp with rfl | hp
          · exact .head _
          · exact .tail _ (G9.zl hzl8 p hp)
        have hzz10 : ∀ p ∈ z8, p ∈ (D9, LCg.lst ops) :: z9 := fun p hp => .tail _ (G9.zz p hp)
        have hops10 := hops9.mono (z' := (D9, LCg.lst ops) :: z9) fun p hp => .tail _ hp
        have hD10 : (D9, LCg.lst ops) ∈ (D9, LCg.lst ops) :: z9 := .head _
        clear N9
        generalize (D9, LCg.lst ops) :: z9 = z10 at hzl10 hops10 hD10 hzz10
        generalize (D9, LCg.lst ops) :: l9 = l10 at N10 O10 hzl10
        (try dsimp only); (try k_fold)
        k_steps
        refine Stop.in ?_
        refine kdn_str rfl (by k_asm) (by k_asm) (Top.nolimit (by k_asm)) rfl rfl (List.cons_ne_nil _ _) (Nat.le_of_ble_eq_true rfl) ?_
        intro dA7 h11 o11 F11 N11 ltA loA7 hdA
        have oA9 := Off.one (ne_of_ltAll ltA)
        have ltA9 := ltA
        (try k_lt ltA9)
        k_steps
        refine Stop.in ?_
        rename Obj => oA7
        rename (Obj.IsDictOf _ _ _) => hdA7
        rename News _ _ _ _ => N12
        obtain ⟨N13, G13, O13⟩ := cell_new (z := z10) N12 ltA O10
        have hzl13 := G13.zl hzl10
        refine newDict_K (by k_asm) N13 (Top.nolimit (by k_asm)) fun dB7 h14 oB7 F14 N14 ltB loB7 hdB7 _ _ _ => ?_
        obtain ⟨N7, G15, O7⟩ := cell_new N14 ltB O13
        have hzl7 := G15.zl hzl13
        have hmA7 : (dA7, oA7) ∈ (dB7, oB7) :: (dA7, oA7) :: z10 := .tail _ (.head _)
        have hmB7 : (dB7, oB7) ∈ (dB7, oB7) :: (dA7, oA7) :: z10 := .head _
        have hzz7 : ∀ p ∈ z10, p ∈ (dB7, oB7) :: (dA7, oA7) :: z10 := fun p hp => .tail _ (.tail _ hp)
        clear G13 G15 N12 N13 N14 hzl13 O13 oA9 hdA
        generalize (dB7, oB7) :: (dA7, oA7) :: z10 = zW7 at hzl7 hmA7 hmB7 hzz7
        generalize (dB7, oB7) :: (dA7, oA7) :: l10 = lW7 at N7 O7 hzl7
        (try dsimp only); (try k_fold)
        k_steps
        refine Stop.in ?_
        rename (∀ p, p ∈ zW7 → p ∈ _) => hzi7
        have hzA7 : ∀ p ∈ z10, p ∈ _ := fun p hp => hzi7 p (hzz7 p hp)
        have hfA7 := IsFont.mono hff (fun p hp => hzA7 p (hzz10 p hp))
        have hopA7 := hops10.mono hzA7
        (refine' Fn.useM (M := [_]) ?N ?hs (sheetNew_ok (rows := rows6) (sub_on ?hs) (hzi7 _ hmA7) hdA7 loA7 hfA7 (hzi7 _ hmB7) hdB7 loB7 (hzA7 _ hD10) hopA7 hn9 ?hown) ?B ?F ?X ?T ?kK ?kd ?ku ?O ?_); (case N => k_asm); (case hs => with_reducible assumption); (case O => (show Off [_] _; with_reducible assumption)); (case B => k_asm); (case F => k_asm); (case X => k_asm); (case T => k_asm); (case kK => exact rfl); (case kd => ktr_room); (case ku => kas_types); (case hown => kfm_turns)
        rintro rs7 l17 z17 h17 tk17 F17 N17 G17 hzz17 hzl17 O17 hsh7
        have hG17 := Grow.of G17
        simp only [List.cons_append, List.nil_append, List.map_cons, List.map_nil] at N17 O17
        (try dsimp only); (try k_fold)
        k_steps
        have hz17 : ∀ p ∈ z8, p ∈ z17 := fun p hp => hzz17 p (hzA7 p (hzz10 p hp))
        refine Stop.in ?_
        (refine' Fn.useM (M := [(tp, _)]) ?N hzl17 (nameB_ok (sub_on hzl17)) ?B ?F ?X ?T ?kK ?kd ?ku O17 ?_); (case N => k_asm); (case B => k_asm); (case F => k_asm); (case X => k_asm); (case T => k_asm); (case kK => exact rfl); (case kd => ktr_room); (case ku => kas_types)
        rintro rb lb zb hb tkb Fb Nb Gb hzzb hzlb Ob hqb
        simp only [List.cons_append, List.nil_append, List.map_cons, List.map_nil] at Nb Ob
        obtain ⟨nx, rfl⟩ := hqb.isRef
        have hclb := hzlb _ (hzzb _ (hz17 _ hcl8))
        (try dsimp only); (try k_fold)
        k_steps
        refine Stop.in ?_
        (refine' Fn.useT (M := [_]) ?N hzlb Ob (drawT_ok hzlb Ob (hT8.mono fun p hp => hzzb p (hz17 p hp)) hi6 (by omega) (by decide) (by decide)) ?B ?F ?X ?T ?kK ?kd ?ku ?_); (case N => k_asm)
        kt_ors
        rintro rd Md ld zd hd9 tkd Fd Nd Gd hzzd hzld Od ⟨td, nd, trd, rfl, hd0, hd1, rfl⟩
        simp only [List.cons_append, List.nil_append, List.map_cons, List.map_nil] at Nd Od
        (try dsimp only); (try k_fold)
        k_steps
        refine Stop.in ?_
        (refine' Fn.useM (M := [(tp, _)]) ?N hzld (decNew_ok (n := 1) (sub_on hzld) (by omega) (by omega) (dec_small (by omega) (by omega))) ?B ?F ?X ?T ?kK ?kd ?ku Od ?_); (case N => k_asm); (case B => k_asm); (case F => k_asm); (case X => k_asm); (case T => k_asm); (case kK => exact rfl); (case kd => ktr_room); (case ku => kas_types)
        rintro re le ze he tke Fe Ne Ge hzze hzle Oe hqe
        simp only [List.cons_append, List.nil_append, List.map_cons, List.map_nil] at Ne Oe
        obtain ⟨ex, rfl⟩ := hqe.isRef
        (try dsimp only); (try k_fold)
        k_steps
        rename (∀ p, p ∈ ze → p ∈ _) => hzf
        rename ((_, W.listOf _ _) ∈ _) => hmf
        rename Off [tp] _ => Of
        rename Led => zf
        rename (∀ p, p ∈ zf → p ∈ _) => hzlf
        have hnf := IsName.mono hqb fun p hp => hzf p (hzze p (hzzd p hp))
        have hef := IsD.mono hqe hzf
        refine Stop.in ?_
        (refine' Fn.useM (M := [(tp, _)]) ?N hzlf (opNew_ok (word := Str.ofString "Tf") (os := [.m false, .n]) (sub_on hzlf) hmf (.cons (.nam hnf) (.cons (.num (.dec hef)) .nil))) ?B ?F ?X ?T ?kK ?kd ?ku Of ?_); (case N => k_asm); (case B => k_asm); (case F => k_asm); (case X => k_asm); (case T => k_asm); (case kK => exact rfl); (case kd => ktr_room); (case ku => kas_types)
        rintro ro lo zo ho tko Fo No Go hzzo hzlo Oo hqo
        simp only [List.cons_append, List.nil_append, List.map_cons, List.map_nil] at No Oo
        (try dsimp only); (try k_fold)
        k_steps
        rename (∀ p, p ∈ zo → p ∈ _) => hzm
        rename ((_, W.listOf _ _) ∈ _) => hmm
        rename Off [tp] _ => Om
        rename Led => zm
        rename (∀ p, p ∈ zm → p ∈ _) => hzlm
        obtain ⟨lm, rfl⟩ := name_led hzlm
        have hopm : RowsAt zm [_] [(Wd.Tf, [OpV.m false, OpV.n])] := .cons (hqo.mono hzm) (by decide) .nil
        have hz1m : ∀ p ∈ z17, p ∈ zm := fun p hp => hzm p (hzzo p (hzf p (hzze p (hzzd p (hzzb p hp)))))
        refine Stop.in ?_
        refine kdn_str rfl (by k_asm) (by k_asm) (Top.nolimit (by k_asm)) rfl rfl (List.cons_ne_nil _ _) (Nat.le_of_ble_eq_true rfl) ?_
        intro dA4 h11 o11 F11 N11 ltA loA4 hdA
        have oA9 := Off.one (ne_of_ltAll ltA)
        have ltA9 := ltA
        (try k_lt ltA9)
        k_steps
        refine Stop.in ?_
        rename Obj => oA4
        rename (Obj.IsDictOf _ _ _) => hdA4
        rename News _ _ _ _ => N12
        obtain ⟨N13, G13, O13⟩ := cell_new (z := zm) N12 ltA Om
        have hzl13 := G13.zl hzlm
        refine newDict_K (by k_asm) N13 (Top.nolimit (by k_asm)) fun dB4 h14 oB4 F14 N14 ltB loB4 hdB4 _ _ _ => ?_
        obtain ⟨N4, G15, O4⟩ := cell_new N14 ltB O13
        have hzl4 := G15.zl hzl13
        have hmA4 : (dA4, oA4) ∈ (dB4, oB4) :: (dA4, oA4) :: zm := .tail _ (.head _)
        have hmB4 : (dB4, oB4) ∈ (dB4, oB4) :: (dA4, oA4) :: zm := .head _
        have hzz4 : ∀ p ∈ zm, p ∈ (dB4, oB4) :: (dA4, oA4) :: zm := fun p hp => .tail _ (.tail _ hp)
        clear G13 G15 N12 N13 N14 hzl13 O13 oA9 hdA
        generalize (dB4, oB4) :: (dA4, oA4) :: zm = zW4 at hzl4 hmA4 hmB4 hzz4
        generalize (dB4, oB4) :: (dA4, oA4) :: lm = lW4 at N4 O4 hzl4
        (try dsimp only); (try k_fold)
        k_steps
        refine Stop.in ?_
        rename (∀ p, p ∈ zW4 → p ∈ _) => hzi4
        have hzA4 : ∀ p ∈ zm, p ∈ _ := fun p hp => hzi4 p (hzz4 p hp)
        have hfA4 := IsFont.mono hfA7 (fun p hp => hzA4 p (hz1m p (hzz17 p hp)))
        have hopA4 := hopm.mono hzA4
        (refine' Fn.useM (M := [_]) ?N ?hs (sheetNew_ok (rows := [(Wd.Tf, [OpV.m false, OpV.n])]) (sub_on ?hs) (hzi4 _ hmA4) hdA4 loA4 hfA4 (hzi4 _ hmB4) hdB4 loB4 (hzA4 _ hmm) hopA4 (by decide) ?hown) ?B ?F ?X ?T ?kK ?kd ?ku ?O ?_); (case N => k_asm); (case hs => with_reducible assumption); (case O => (show Off [_] _; with_reducible assumption)); (case B => k_asm); (case F => k_asm); (case X => k_asm); (case T => k_asm); (case kK => exact rfl); (case kd => ktr_room); (case ku => kas_types); (case hown => kfm_turns)
        rintro rs4 l14 z14 h14 tk14 F14 N14 G14 hzz14 hzl14 O14 hsh4
        have hG14 := Grow.of G14
        simp only [List.cons_append, List.nil_append, List.map_cons, List.map_nil] at N14 O14
        (try dsimp only); (try k_fold)
        k_steps
        have hz84 : ∀ p ∈ z17, p ∈ z14 := fun p hp => hzz14 p (hzA4 p (hz1m p hp))
        have hzlT : ∀ p ∈ z14, p ∈ (tp, tapeO c (i6 + 1) td 0) :: l14 := fun p hp => .tail _ (hzl14 p hp)
        have hshL := SheetAt.mono hsh4 hzlT
        have hshS := SheetAt.mono hsh7 fun p hp => hzlT p (hz84 p hp)
        have hrows14 := hrows8.mono fun p hp => hz84 p (hz17 p hp)
        have hD14 := hz84 _ (hz17 _ hD8)
        refine Stop.in ?_
        (refine' told_ok (l := (tp, tapeO c (i6 + 1) td 0) :: l14) hshL ?B ?F ?X ?N ?T ?XB ?TB ?kK ?kd ?ku ?_); (case F => k_asm); (case N => k_asm); (case B => k_asm); (case X => k_asm); (case T => k_asm); (case XB => k_asm); (case TB => k_asm); (case kK => exact rfl); (case kd => ktr_room); (case ku => kas_types)
        rintro ra ha9 tka Fa Na hTa
        have hTa9 : Told (.inr .font) ra := hTa
        obtain ⟨ta9, rfl⟩ := hTa9
        (try dsimp only); (try k_fold)
        k_steps
        refine Stop.in ?_
        (refine' told_ok (l := (tp, tapeO c (i6 + 1) td 0) :: l14) hshS ?B ?F ?X ?N ?T ?XB ?TB ?kK ?kd ?ku ?_); (case F => k_asm); (case N => k_asm); (case B => k_asm); (case X => k_asm); (case T => k_asm); (case XB => k_asm); (case TB => k_asm); (case kK => exact rfl); (case kd => ktr_room); (case ku => kas_types)
        rintro rc hc9 tkc Fc Nc hTc
        (try dsimp only); (try k_fold)
        k_steps
        refine Stop.in ?_
        (refine' Fn.use (lawDue_ok (l := (tp, tapeO c (i6 + 1) td 0) :: l14) hzlT hD14 hrows14 hn9) ?B ?F ?X ?N ?T ?kK ?kd ?ku ?_)
        kaf_pre
        rintro rz lz hz9 tkz Fz Nz hTz
        generalize hdue9 : due ⟨false, false, [], 0⟩ rows6 = dd at hTc hTz
        rcases dd with n9 | ft9
        · obtain ⟨tc, rfl⟩ := hTc
          obtain ⟨tz, rfl⟩ := hTz
          (try dsimp only); (try k_fold)
          k_steps
        · cases ft9
          · obtain ⟨tc, rfl⟩ := hTc
            obtain ⟨tz, rfl⟩ := hTz
            (try dsimp only); (try k_fold)
            k_steps
          · obtain ⟨tc, rfl⟩ := hTc
            obtain ⟨tz, rfl⟩ := hTz
            (try dsimp only); (try k_fold)
            k_steps)
end
local macro_rules | `(tactic| walk_at "pad") => `(tactic| skip)
local macro_rules | `(tactic| walk_at "pad") => `(tactic| skip)
local macro_rules | `(tactic| walk_at "pad") => `(tactic| skip)
local macro_rules | `(tactic| walk_at "pad") => `(tactic| skip)
local macro_rules | `(tactic| walk_at "pad") => `(tactic| skip)
local macro_rules | `(tactic| walk_at "pad") => `(tactic| skip)
local macro_rules | `(tactic| walk_at "pad") => `(tactic| skip)
local macro_rules | `(tactic| walk_at "pad") => `(tactic| skip)
local macro_rules | `(tactic| walk_at "pad") => `(tactic| skip)
local macro_rules | `(tactic| walk_at "pad") => `(tactic| skip)
local macro_rules | `(tactic| walk_at "pad") => `(tactic| skip)
local macro_rules | `(tactic| walk_at "pad") => `(tactic| skip)
local macro_rules | `(tactic| walk_at "pad") => `(tactic| skip)

end Mine
theorem PySem.Challenge.cw_og0194_01_holds : PySem.Challenge.rw_og0194_01.Holds :=
  Mine.law_holds
