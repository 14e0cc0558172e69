import PyProof.Rows.All
import Wide.All
import OpenK.AllK
import Wide.FinOn
import PySem.Challenge.RW_pb0320_01
/-! The law of compare_real, pb0320-01. Each def is walked once, as a contract of its call over a ledger («Does»); the plain law stands apart (sections P*); the law's turn is walked once (range_ind), its loops over written ints once (items_ind). Written by an AI agent. -/
open PySem PySem.W PyProof.Rows PySem.Spec PySem.Calls
set_option Elab.async false
set_option linter.unusedVariables false
namespace Mine
set_option maxRecDepth 100000 in
set_option maxHeartbeats 8000000 in
open_top hd for PySem.Challenge.rw_pb0320_01

section Base
abbrev Led := List (Addr × Obj)

/-- a call of the def at f from within a def, upon a ledger: it comes back with Out of its value and of the ledger behind it -/
def Does (w : World) (mean : ExcName → Option Value) (mg mb : Str → Option Value) (f : Addr) (ht : Nat) (vs : List Value) (news : Led) (Out : Value → Led → Prop) : Prop :=
  ∀ (dp un : Nat) (gd : Option (List Code)) (cn : Str) (cs : Scope) (a : Addr) (ccd : Value) (cl : List (Str × Addr)) (outer : List Env) (A₀ : Around) (base h₀ : Heap) (L : Addr) (m : Str → Option Value) (s : Shared) (Q E : Value → Shared → Prop),
    Below A₀ base outer h₀ → Fr h₀ L s.heap m → (hd.heap_39 w.params).In h₀ → News h₀ L s.heap news → Top hd.view_39 (looseW hd.view_39 [Str.ofString "pack"]) mean mg mb h₀ → cs.kind = .function → dp + ht < recursionLimit → un + 8 * ht < cLine →
    (∀ r news' h' tk', Fr h₀ L h' m → News h₀ L h' news' → Out r news' → Q r { s with heap := h', toks := tk' }) →
    wpAny (model PySem.Challenge.rw_pb0320_01.row.prog w) (ktrTop dp un gd cn cs L a ccd cl outer) (call (.ref f) vs) Q E s

abbrev poolO (ca : Addr) (p1 : Int) (t1 : Tok) (p2 : Int) (t2 : Tok) : Obj := W.listOf #[.ref ca, .int p1 t1, .int p2 t2] 0

/-- the tokens of a form's dict -/
structure FT where
  k1 : Tok
  u1 : Tok
  k2 : Tok
  u2 : Tok
  k3 : Tok
  u3 : Tok
  k4 : Tok
  u4 : Tok
  k5 : Tok
  u5 : Tok
  k6 : Tok
  u6 : Tok
/-- the dict of a form -/
abbrev formD (P : Params) (e f bias top hid least : Int) (T : FT) : Obj :=
  dictOf [⟨PyData.keyHash P (Str.ofString "exponent_bits"), .str (Str.ofString "exponent_bits") T.k1, .int e T.u1⟩,
    ⟨PyData.keyHash P (Str.ofString "fraction_bits"), .str (Str.ofString "fraction_bits") T.k2, .int f T.u2⟩,
    ⟨PyData.keyHash P (Str.ofString "bias"), .str (Str.ofString "bias") T.k3, .int bias T.u3⟩,
    ⟨PyData.keyHash P (Str.ofString "top"), .str (Str.ofString "top") T.k4, .int top T.u4⟩,
    ⟨PyData.keyHash P (Str.ofString "hidden"), .str (Str.ofString "hidden") T.k5, .int hid T.u5⟩,
    ⟨PyData.keyHash P (Str.ofString "least"), .str (Str.ofString "least") T.k6, .int least T.u6⟩] 6
/-- what the constructor's numbers are to one another -/
structure FormOk (e f bias top hid least : Int) : Prop where
  he1 : 2 ≤ e
  he2 : e ≤ 8
  hf1 : 1 ≤ f
  hf2 : f ≤ 23
  hbias : bias = 2 ^ (e - 1).toNat - 1
  htop : top = 2 ^ e.toNat - 1
  hhid : hid = 2 ^ f.toNat
  hleast : least = 1 - bias - f
/-- None or an int -/
def optV (o : Option Int) (t : Tok) : Value := match o with
  | none => .none
  | some x => .int x t
end Base

local macro_rules | `(tactic| walk_at "execs cons") => `(tactic| (k_here; dsimp only; k_gentoks))
local macro_rules | `(tactic| walk_at "execs nil") => `(tactic| (k_here; dsimp only; k_gentoks))
section C1
theorem fmod_nn {a b : Int} (h : 0 < b) : 0 ≤ a.fmod b ∧ a.fmod b < b := ⟨Int.fmod_nonneg_of_pos _ h, Int.fmod_lt_of_pos _ h⟩
theorem fr_w4 {g : Heap} {L : Addr} {h : Heap} {m m' : Str → Option Value} {a b c d : Str} (F : Fr g L h m') (e : ∀ y, y ≠ a ∧ y ≠ b ∧ y ≠ c ∧ y ≠ d → m' y = m y) : Fr g L h (fun y => if y = a then m' a else if y = b then m' b else if y = c then m' c else if y = d then m' d else m y) := by
  have q : (fun y => if y = a then m' a else if y = b then m' b else if y = c then m' c else if y = d then m' d else m y) = m' := by
    funext y
    by_cases h1 : y = a
    · rw [if_pos h1, h1]
    · rw [if_neg h1]
      by_cases h2 : y = b
      · rw [if_pos h2, h2]
      · rw [if_neg h2]
        by_cases h3 : y = c
        · rw [if_pos h3, h3]
        · rw [if_neg h3]
          by_cases h4 : y = d
          · rw [if_pos h4, h4]
          · rw [if_neg h4, e y ⟨h1, h2, h3, h4⟩]
  rw [q]
  exact F
/-- behind the pool's filling -/
def JD (s : Shared) (h₀ : Heap) (L : Addr) (m : Str → Option Value) (P : Str → Prop) (pa ca : Addr) (p1 : Int) (ws : List Value) (news : Led) (fl : Flow) (s' : Shared) : Prop :=
  fl = .next ∧ ∃ m' h tk p1' t1' p2' t2', s' = { s with heap := h, toks := tk } ∧ Fr h₀ L h m' ∧ News h₀ L h ((pa, poolO ca p1' t1' p2' t2') :: (ca, W.listOf ws.toArray 0) :: news) ∧ (∀ y, P y → m' y = m y) ∧ p1 ≤ p1' ∧ p1' ≤ p1 + 1 ∧ 0 ≤ p2'
theorem join_d {M : Model} {A : Around} {E : Value → Shared → Prop} {Q : Flow → Shared → Prop} {t : Sem Flow} {s : Shared} {h₀ : Heap} {L : Addr} {m : Str → Option Value} {pa ca : Addr} {p1 p2 : Int} {t1 t2 : Tok} {ws : List Value} {news : Led} (P : Str → Prop)
    (F0 : Fr h₀ L s.heap m) (N0 : News h₀ L s.heap ((pa, poolO ca p1 t1 p2 t2) :: (ca, W.listOf ws.toArray 0) :: news))
    (h1 : wpAny M A t (JD s h₀ L m P pa ca p1 ws news) E s)
    (h2 : ∀ m' h tk p1' t1' p2' t2', (∀ y, P y → m' y = m y) → Fr h₀ L h m' → News h₀ L h ((pa, poolO ca p1' t1' p2' t2') :: (ca, W.listOf ws.toArray 0) :: news) → p1 ≤ p1' → p1' ≤ p1 + 1 → 0 ≤ p2' → Q .next { s with heap := h, toks := tk }) : wpAny M A t Q E s := by
  refine wpAny_mono h1 (fun fl s' hJ => ?_) fun _ _ x => x
  obtain ⟨rfl, m', h, tk, p1', t1', p2', t2', rfl, F', N', e, a1, a2, a3⟩ := hJ
  exact h2 m' h tk p1' t1' p2' t2' e F' N' a1 a2 a3
set_option maxRecDepth 100000 in
set_option maxHeartbeats 8000000 in
theorem digit_does (w : World) (mean : ExcName → Option Value) (mg mb : Str → Option Value) (pa ca : Addr) (most p1 p2 : Int) (tm t1 t2 : Tok) (ws : List Value) (ns : List Int) (news : Led)
    (hw : IntsAre ws ns) (hn : 0 < ns.length) (hn2 : ns.length ≤ 40) (hpc : @Ne Nat ca pa) (hoff : OwnOff news [pa]) (hm : 0 < most) (hm2 : most ≤ 1048576) (hp1 : 0 ≤ p1) (hp1b : p1 < 2 ^ 30) (hp2 : 0 ≤ p2) :
    Does w mean mg mb 141 1 [.ref pa, .int most tm] ((pa, poolO ca p1 t1 p2 t2) :: (ca, W.listOf ws.toArray 0) :: news) (fun r news' => ∃ v t p1' t1' p2' t2', r = .int v t ∧ news' = (pa, poolO ca p1' t1' p2' t2') :: (ca, W.listOf ws.toArray 0) :: news ∧ 0 ≤ v ∧ v < most ∧ p1 ≤ p1' ∧ p1' ≤ p1 + 1 ∧ 0 ≤ p2') := by
  w_top off
  k_with_none
  unfold Does
  k_fill
  intro dp un gd cn cs a ccd cl outer A₀ base h₀ L m s Q E B F X N T hk hd hu hret
  refine wpAny_call ?_
  k_dflt ktr_enter
  repeat' (first | ((fail_if_success (with_reducible show wpAny _ _ (exec (Stmt.If _ _ _ _) _) _ _ _)); first | (k_unfold; (try dsimp only)) | (k_end; wrow_close) | walk1 | (dsimp only; (fail_if_success (with_reducible show wpAny _ _ (exec (Stmt.If _ _ _ _) _) _ _ _)); walk1)) | fail "no")
  refine join_d (fun y => y ≠ Str.ofString "cells" ∧ y ≠ Str.ofString "spot" ∧ y ≠ Str.ofString "cell" ∧ y ≠ Str.ofString "small") (by assumption) (by assumption) ?la ?lb
  case la =>
    k_steps
    all_goals refine ⟨rfl, _, _, _, _, _, _, _, rfl, by assumption, (by first | assumption | exact cb_drop (by assumption) (fun p hp => List.Mem.tail _ hp)), (by intro y hy; simp only [if_neg hy.1, if_neg hy.2.1, if_neg hy.2.2.1, if_neg hy.2.2.2]), ?_⟩
    all_goals first
      | exact ⟨Int.le_refl _, by omega, hp2⟩
      | exact ⟨by omega, by omega, (fmod_nn (by decide)).1⟩
  intro m1 h1 tk1 p1' t1' p2' t2' J1 F1 N1 q1 q2 q3
  have F1x := fr_w4 F1 J1
  clear F1 J1
  (try k_sweep)
  (try dsimp only)
  (try k_fold)
  k_steps
  all_goals exact hret _ _ _ _ (by assumption) (by assumption) ⟨_, _, _, _, _, _, rfl, rfl, (fmod_nn hm).1, (fmod_nn hm).2, q1, q2, Int.fdiv_nonneg q3 (Int.le_of_lt hm)⟩

theorem upd_mem {d : Addr} {o o' : Obj} : ∀ {l l' : Led}, Upd d o o' l l' → ∀ p ∈ l', p = (d, o') ∨ (p ∈ l ∧ p.1 ≠ d)
  | _, _, .head h, p, hp => by
    rcases List.mem_cons.mp hp with rfl | hp
    · exact .inl rfl
    · exact .inr ⟨.tail _ hp, h p hp⟩
  | _, _, .tail h r, p, hp => by
    rcases List.mem_cons.mp hp with rfl | hp
    · exact .inr ⟨.head _, h⟩
    · exact (upd_mem r p hp).imp id fun q => ⟨.tail _ q.1, q.2⟩
theorem upd_at {d : Addr} {o o' : Obj} : ∀ {l l' : Led}, Upd d o o' l l' → (d, o) ∈ l
  | _, _, .head _ => .head _
  | _, _, .tail _ r => .tail _ (upd_at r)
abbrev offL (pa : Addr) (news : Led) : Led := news.filter (fun p => p.1 != pa)
theorem offL_off (pa : Addr) (news : Led) : OwnOff (offL pa news) [pa] := by
  intro p hp b hb
  rw [List.mem_singleton.mp hb]
  have := (List.mem_filter.mp hp).2
  simpa using this
theorem offL_in {pa ca : Addr} {P C : Obj} {news : Led} (h1 : (pa, P) ∈ news) (h2 : (ca, C) ∈ news) : ∀ p ∈ (pa, P) :: (ca, C) :: offL pa news, p ∈ news := by
  intro p hp
  rcases List.mem_cons.mp hp with rfl | hp
  · exact h1
  rcases List.mem_cons.mp hp with rfl | hp
  · exact h2
  · exact (List.mem_filter.mp hp).1
theorem offL_out {pa ca : Addr} {P P' C : Obj} {news news' : Led} (U : Upd pa P P' news news') : ∀ p ∈ news', p ∈ (pa, P') :: (ca, C) :: offL pa news := by
  intro p hp
  rcases upd_mem U p hp with rfl | h
  · exact .head _
  · exact .tail _ (.tail _ (List.mem_filter.mpr ⟨h.1, by simpa using h.2⟩))

theorem digit_use {w : World} {mean : ExcName → Option Value} {mg mb : Str → Option Value} {pa ca : Addr} {most p1 p2 : Int} {tm t1 t2 : Tok} {ws : List Value} {ns : List Int} {news : Led}
    {dp un : Nat} {gd : Option (List Code)} {cn : Str} {cs : Scope} {a : Addr} {ccd : Value} {cl : List (Str × Addr)} {outer : List Env} {A₀ : Around} {base h₀ : Heap} {L : Addr} {m : Str → Option Value} {s : Shared} {Q E : Value → Shared → Prop}
    (B : Below A₀ base outer h₀) (F : Fr h₀ L s.heap m) (X : (hd.heap_39 w.params).In h₀) (N : News h₀ L s.heap news) (T : Top hd.view_39 (looseW hd.view_39 [Str.ofString "pack"]) mean mg mb h₀) (hk : cs.kind = .function) (hd : dp + 1 < recursionLimit) (hu : un + 8 * 1 < cLine)
    (U : Upd pa (poolO ca p1 t1 p2 t2) (poolO ca p1 t1 p2 t2) news news) (hc : (ca, W.listOf ws.toArray 0) ∈ news)
    (hw : IntsAre ws ns) (hn : 0 < ns.length) (hn2 : ns.length ≤ 40) (hpc : @Ne Nat ca pa) (hm : 0 < most) (hm2 : most ≤ 1048576) (hp1 : 0 ≤ p1) (hp1b : p1 < 2 ^ 30) (hp2 : 0 ≤ p2)
    (ret : ∀ v t p1' t1' p2' t2' h' tk', 0 ≤ v → v < most → p1 ≤ p1' → p1' ≤ p1 + 1 → 0 ≤ p2' → Fr h₀ L h' m → (∀ news', Upd pa (poolO ca p1 t1 p2 t2) (poolO ca p1' t1' p2' t2') news news' → News h₀ L h' news') → Q (.int v t) { s with heap := h', toks := tk' }) :
    wpAny (model PySem.Challenge.rw_pb0320_01.row.prog w) (ktrTop dp un gd cn cs L a ccd cl outer) (call (.ref 141) [.ref pa, .int most tm]) Q E s := by
  refine digit_does w mean mg mb pa ca most p1 p2 tm t1 t2 ws ns (offL pa news) hw hn hn2 hpc (offL_off pa news) hm hm2 hp1 hp1b hp2 _ _ _ _ _ _ _ _ _ _ _ _ _ _ _ _ _ B F X (cb_drop N (offL_in (upd_at U) hc)) T hk hd hu ?_
  rintro r news' h' tk' F' N' ⟨v, t, p1', t1', p2', t2', rfl, rfl, h1, h2, h3, h4, h5⟩
  exact ret v t p1' t1' p2' t2' h' tk' h1 h2 h3 h4 h5 F' fun news' U' => cb_drop N' (offL_out U')
theorem whlif_split {c : Prop} [Decidable c] {T F : Prop} (t : c → T) (f : ¬ c → F) : WhlIf (decide c) T F := by
  by_cases h : c
  · exact WhlIf.yes (decide_eq_true h) (t h)
  · exact WhlIf.no (decide_eq_false h) (f h)
end C1

local macro_rules | `(tactic| walk_at "call ref") => `(tactic| (k_here; k_extra "mine call"))
section C2
set_option maxRecDepth 100000 in
set_option maxHeartbeats 8000000 in
theorem form_does (w : World) (mean : ExcName → Option Value) (mg mb : Str → Option Value) (e f : Int) (te tf : Tok) (news : Led)
    (he : 2 ≤ e) (he2 : e ≤ 8) (hf : 1 ≤ f) (hf2 : f ≤ 23) :
    Does w mean mg mb 31 2 [.int e te, .int f tf] news (fun r news' => ∃ x dx bias top hid least T, r = .ref x ∧ news' = (x, instObj 31 dx) :: (dx, formD w.params e f bias top hid least T) :: news ∧ FormOk e f bias top hid least ∧ (∀ p ∈ news, p.1 < dx) ∧ @LT.lt Nat _ dx x) := by
  w_top off
  k_with_none
  k_with "mine call" => (k_dflt (first | (refine' call_cls (by k_asm) (by k_asm) (by k_asm) (by k_is) (by k_is) (by k_is) ?_; k_whole; intro x' d' h' F' N' l1 l2; (try k_lt l1); (try k_lt2 l2); (try k_sweep)) | refine wpAny_call ?_); k_dflt (refine' code_def (by k_asm) (by k_asm) (by k_asm) (by k_asm) (by k_asm) (by exact rfl) (by exact rfl) (by first | exact rfl | assumption) (by k_is) (by k_is) (by ktr_room) (by first | exact BindsTo.of_eq rfl | exact binds_K (by k_in) rfl (by k_is) rfl rfl rfl) (by exact locs rfl) ?_ (by exact rfl) (by exact rfl) (by exact rfl) (by decide); k_whole; intro g' L' h' FG' F' N' B' X' T'; (try dsimp only); (try k_lift B'); (try k_fold)))
  unfold Does
  k_fill
  intro dp un gd cn cs a ccd cl outer A₀ base h₀ L m s Q E B F X N T hk hd hu hret
  k_steps
  refine hret _ _ _ _ (by assumption) (by assumption) ⟨_, _, _, _, _, _, ⟨_, _, _, _, _, _, _, _, _, _, _, _⟩, rfl, rfl, ⟨he, he2, hf, hf2, ?_, ?_, ?_, rfl⟩, by assumption, by assumption⟩
  all_goals simp only [Int.one_mul]
end C2

section P1
/-- the units of a size -/
def U (hid size : Int) : Int := if size / hid = 0 then size % hid else (hid + size % hid) * 2 ^ (size / hid - 1).toNat

theorem p2pos (n : Nat) : (0 : Int) < 2 ^ n := kbt_pos n
theorem p2le {m n : Nat} (h : m ≤ n) : (2 : Int) ^ m ≤ 2 ^ n := by
  rw [← kbt_cast, ← kbt_cast]
  exact Int.ofNat_le.mpr (Nat.pow_le_pow_right (by decide) h)
theorem FormOk.hidLe {e f bias top hid least : Int} (h : FormOk e f bias top hid least) : 2 ≤ hid ∧ hid ≤ 8388608 := by
  have h1 := h.hf1
  have h2 := h.hf2
  rw [h.hhid]
  have a : (2 : Int) ^ 1 ≤ 2 ^ f.toNat := p2le (by omega)
  have b : (2 : Int) ^ f.toNat ≤ 2 ^ 23 := p2le (by omega)
  exact ⟨a, b⟩
theorem FormOk.topLe {e f bias top hid least : Int} (h : FormOk e f bias top hid least) : 3 ≤ top ∧ top ≤ 255 := by
  have h1 := h.he1
  have h2 := h.he2
  rw [h.htop]
  have a : (2 : Int) ^ 2 ≤ 2 ^ e.toNat := p2le (by omega)
  have b : (2 : Int) ^ e.toNat ≤ 2 ^ 8 := p2le (by omega)
  constructor
  · show (2 : Int) ^ 2 - 1 ≤ _
    omega
  · show _ ≤ (2 : Int) ^ 8 - 1
    omega
theorem fd {a b : Int} (h : 0 < b) : a.fdiv b = a / b := Int.fdiv_eq_ediv_of_nonneg _ (Int.le_of_lt h)
theorem fm {a b : Int} (h : 0 < b) : a.fmod b = a % b := Int.fmod_eq_emod_of_nonneg _ (Int.le_of_lt h)
theorem div_lo {a b : Int} (h : 0 < b) (h0 : 0 ≤ a) : 0 ≤ a / b := Int.ediv_nonneg h0 (Int.le_of_lt h)
theorem div_hi {a b k : Int} (h : 0 < b) (h0 : a ≤ k * b) : a / b ≤ k := by
  have := Int.ediv_le_ediv h h0
  rwa [Int.mul_ediv_cancel _ (Int.ne_of_gt h)] at this

theorem Does.go {w : World} {mean : ExcName → Option Value} {mg mb : Str → Option Value} {f0 : Addr} {ht : Nat} {vs : List Value} {news : Led} {Out : Value → Led → Prop}
    {dp un : Nat} {gd : Option (List Code)} {cn : Str} {cs : Scope} {a : Addr} {ccd : Value} {cl : List (Str × Addr)} {outer : List Env} {A₀ : Around} {base h₀ : Heap} {L : Addr} {m : Str → Option Value} {s : Shared} {Q E : Value → Shared → Prop}
    (B : Below A₀ base outer h₀) (F : Fr h₀ L s.heap m) (X : (hd.heap_39 w.params).In h₀) (N : News h₀ L s.heap news) (T : Top hd.view_39 (looseW hd.view_39 [Str.ofString "pack"]) mean mg mb h₀) (hk : cs.kind = .function) (hd : dp + ht < recursionLimit) (hu : un + 8 * ht < cLine)
    (D : Does w mean mg mb f0 ht vs news Out)
    (ret : ∀ r news' h' tk', Fr h₀ L h' m → News h₀ L h' news' → Out r news' → Q r { s with heap := h', toks := tk' }) :
    wpAny (model PySem.Challenge.rw_pb0320_01.row.prog w) (ktrTop dp un gd cn cs L a ccd cl outer) (call (.ref f0) vs) Q E s := D _ _ _ _ _ _ _ _ _ _ _ _ _ _ _ _ _ B F X N T hk hd hu ret
theorem Does.goV {w : World} {mean : ExcName → Option Value} {mg mb : Str → Option Value} {f0 : Addr} {ht : Nat} {vs : List Value} {news : Led} {o : Option Int}
    {dp un : Nat} {gd : Option (List Code)} {cn : Str} {cs : Scope} {a : Addr} {ccd : Value} {cl : List (Str × Addr)} {outer : List Env} {A₀ : Around} {base h₀ : Heap} {L : Addr} {m : Str → Option Value} {s : Shared} {Q E : Value → Shared → Prop}
    (B : Below A₀ base outer h₀) (F : Fr h₀ L s.heap m) (X : (hd.heap_39 w.params).In h₀) (N : News h₀ L s.heap news) (T : Top hd.view_39 (looseW hd.view_39 [Str.ofString "pack"]) mean mg mb h₀) (hk : cs.kind = .function) (hd : dp + ht < recursionLimit) (hu : un + 8 * ht < cLine)
    (D : Does w mean mg mb f0 ht vs news (fun r news' => news' = news ∧ ∃ t, r = optV o t))
    (r0 : ∀ (_ : Unit) (_ : Tok) h' tk', o = none → Fr h₀ L h' m → News h₀ L h' news → Q .none { s with heap := h', toks := tk' })
    (r1 : ∀ v t h' tk', o = some v → Fr h₀ L h' m → News h₀ L h' news → Q (.int v t) { s with heap := h', toks := tk' }) :
    wpAny (model PySem.Challenge.rw_pb0320_01.row.prog w) (ktrTop dp un gd cn cs L a ccd cl outer) (call (.ref f0) vs) Q E s := by
  refine Does.go B F X N T hk hd hu D ?_
  rintro r news' h' tk' F' N' ⟨rfl, t, rfl⟩
  cases o with
  | none => exact r0 () t h' tk' rfl F' N'
  | some v => exact r1 v t h' tk' rfl F' N'
theorem gv_none {o : Option Int} (h : o = none) : ∃ t, Value.none = optV o t := ⟨0, by rw [h]; rfl⟩
theorem gv_some {o : Option Int} {x : Int} {t : Tok} (h : o = some x) : ∃ t', Value.int x t = optV o t' := ⟨t, by rw [h]; rfl⟩
theorem gv_int {x y : Int} {t : Tok} (h : x = y) : ∃ t', Value.int x t = Value.int y t' := ⟨t, h ▸ rfl⟩
theorem FormOk.span {e f bias top hid least : Int} (h : FormOk e f bias top hid least) : (2 : Int) ^ (e + f).toNat = hid * (top + 1) := by
  have h1 := h.he1
  have h2 := h.hf1
  rw [h.hhid, h.htop, Int.toNat_add (by omega) (by omega), Int.pow_add, Int.mul_comm, Int.sub_add_cancel]
end P1

section C3
local macro_rules | `(tactic| walk_at "exec While Compare cons nil") => `(tactic| (k_here; k_dflt (refine whl_start 100 ?_)))
local macro_rules | `(tactic| walk_at "WhlIf") => `(tactic| (first | (refine WhlIf.no (decide_eq_false (by omega)) ?_) | (refine WhlIf.yes (decide_eq_true (by omega)) ?_) | (refine whlif_split (fun hc' => ?_) (fun hc' => ?_))))
def WhlNext (J : Nat → Shared → Prop) (k : Nat) (f : Flow) (s' : Shared) : Prop := f = .next ∧ ∃ k', k' < k ∧ J k' s'
theorem whl_ind {prog : Program} {w : World} {A : Around} {E : Value → Shared → Prop} {env : Env} {test : PySem.Expr} {body orelse : List Stmt} {Q : Flow → Shared → Prop} (hE : PassesOwn (model prog w) A env E) (J : Nat → Shared → Prop)
    (turn : ∀ k s, J k s → wpAny (model prog w) A (isTrue test env (eval test env)) (fun b s₂ => WhlIf b (wpAny (model prog w) A (execs body env) (WhlNext J k) E s₂) (wpAny (model prog w) A (execs orelse env) Q E s₂)) E s) :
    ∀ (n k : Nat) (s : Shared), k ≤ n → J k s → WhlRest prog w A E env test body orelse Q 100 s := by
  intro n
  induction n with
  | zero =>
    intro k s hk hJ
    refine whl_turn (k := 99) hE (wpAny_mono (turn k s hJ) (fun b s₂ h => ?_) fun _ _ x => x)
    cases b with
    | false => exact WhlIf.no rfl (by have := h; unfold WhlIf at this; rwa [if_neg Bool.false_ne_true] at this)
    | true =>
      refine WhlIf.yes rfl (wpAny_mono (by have := h; unfold WhlIf at this; rwa [if_pos rfl] at this) (fun f s₃ h₃ => ?_) fun _ _ x => x)
      obtain ⟨rfl, k', l, _⟩ := h₃
      omega
  | succ n ih =>
    intro k s hk hJ
    refine whl_turn (k := 99) hE (wpAny_mono (turn k s hJ) (fun b s₂ h => ?_) fun _ _ x => x)
    cases b with
    | false => exact WhlIf.no rfl (by have := h; unfold WhlIf at this; rwa [if_neg Bool.false_ne_true] at this)
    | true =>
      refine WhlIf.yes rfl (wpAny_mono (by have := h; unfold WhlIf at this; rwa [if_pos rfl] at this) (fun f s₃ h₃ => ?_) fun _ _ x => x)
      obtain ⟨rfl, k', l, hJ'⟩ := h₃
      exact ih k' s₃ (by omega) hJ'
/-- between two turns of _law_wide: k turns are left at most -/
def JW (s₀ : Shared) (h₀ : Heap) (L : Addr) (m₀ : Str → Option Value) (pa ca : Addr) (most p1 : Int) (ws : List Value) (news : Led) (k : Nat) (s : Shared) : Prop :=
  ∃ m' fv tf cv tc p1' t1' p2' t2' h tk, s = { s₀ with heap := h, toks := tk } ∧ Fr h₀ L h m' ∧ (∀ y, y ≠ Str.ofString "cover" ∧ y ≠ Str.ofString "found" → m' y = m₀ y) ∧ m' (Str.ofString "cover") = some (.int cv tc) ∧ m' (Str.ofString "found") = some (.int fv tf) ∧
    News h₀ L h ((pa, poolO ca p1' t1' p2' t2') :: (ca, W.listOf ws.toArray 0) :: news) ∧ most ≤ cv * 1048576 ^ k ∧ p1 ≤ p1' ∧ p1' + (k : Int) ≤ p1 + 7 ∧ 0 ≤ p2'
theorem jw_step {most cv : Int} {k : Nat} (h : most ≤ cv * 1048576 ^ k) (hc : cv < most) : ∃ k', k = k' + 1 ∧ most ≤ cv * 1048576 * 1048576 ^ k' := by
  cases k with
  | zero => rw [Int.pow_zero] at h; omega
  | succ k => exact ⟨k, rfl, by rw [Int.pow_succ, Int.mul_comm (1048576 ^ k), ← Int.mul_assoc] at h; exact h⟩
theorem fr_cf {g : Heap} {L : Addr} {h : Heap} {m m' : Str → Option Value} {a b : Str} {va vb : Value} (F : Fr g L h m') (e : ∀ y, y ≠ a ∧ y ≠ b → m' y = m y) (ea : m' a = some va) (eb : m' b = some vb) : Fr g L h (fun y => if y = a then some va else if y = b then some vb else m y) := by
  have q : (fun y => if y = a then some va else if y = b then some vb else m y) = m' := by
    funext y
    by_cases h1 : y = a
    · rw [if_pos h1, h1, ea]
    · rw [if_neg h1]
      by_cases h2 : y = b
      · rw [if_pos h2, h2, eb]
      · rw [if_neg h2, e y ⟨h1, h2⟩]
  rw [q]
  exact F
set_option maxRecDepth 100000 in
set_option maxHeartbeats 8000000 in
theorem wide_does (w : World) (mean : ExcName → Option Value) (mg mb : Str → Option Value) (pa ca : Addr) (most p1 p2 : Int) (tm t1 t2 : Tok) (ws : List Value) (ns : List Int) (news : Led)
    (hw : IntsAre ws ns) (hn : 0 < ns.length) (hn2 : ns.length ≤ 40) (hpc : @Ne Nat ca pa) (hoff : OwnOff news [pa]) (hm : 0 < most) (hm2 : most ≤ 2 ^ 140) (hp1 : 0 ≤ p1) (hp1b : p1 < 2 ^ 29) (hp2 : 0 ≤ p2) :
    Does w mean mg mb 148 2 [.ref pa, .int most tm] ((pa, poolO ca p1 t1 p2 t2) :: (ca, W.listOf ws.toArray 0) :: news) (fun r news' => ∃ v t p1' t1' p2' t2', r = .int v t ∧ news' = (pa, poolO ca p1' t1' p2' t2') :: (ca, W.listOf ws.toArray 0) :: news ∧ 0 ≤ v ∧ v < most ∧ p1 ≤ p1' ∧ p1' ≤ p1 + 7 ∧ 0 ≤ p2') := by
  w_top off
  k_with_none
  k_with "mine call" => (k_dflt (first | (refine' call_cls (by k_asm) (by k_asm) (by k_asm) (by k_is) (by k_is) (by k_is) ?_; k_whole; intro x' d' h' F' N' l1 l2; (try k_lt l1); (try k_lt2 l2); (try k_sweep)) | refine wpAny_call ?_); k_dflt (refine' code_def (by k_asm) (by k_asm) (by k_asm) (by k_asm) (by k_asm) (by exact rfl) (by exact rfl) (by first | exact rfl | assumption) (by k_is) (by k_is) (by ktr_room) (by first | exact BindsTo.of_eq rfl | exact binds_K (by k_in) rfl (by k_is) rfl rfl rfl) (by exact locs rfl) ?_ (by exact rfl) (by exact rfl) (by exact rfl) (by decide); k_whole; intro g' L' h' FG' F' N' B' X' T'; (try dsimp only); (try k_lift B'); (try k_fold)))
  k_with "mine call" => ((with_reducible show wpAny _ _ (call (Value.ref 141) _) _ _ _); k_dflt (refine digit_use (by k_asm) (by k_asm) (by k_asm) (by k_asm) (by k_asm) (by first | exact rfl | assumption) (by ktr_room) (by ktr_units) (by k_upd) (by k_mem) (by assumption) (by assumption) (by assumption) (by first | assumption | omega) (by first | assumption | omega) (by first | assumption | omega) (by first | assumption | omega) (by first | assumption | omega) (by first | assumption | omega) ?_; (intro v' t' p1' t1' p2' t2' h' tk' hv1 hv2 hq1 hq2 hq3 F' NU'); (have N' := NU' _ (by k_upd)); clear NU'; (try k_sweep); (try dsimp only); (try k_fold)))
  unfold Does
  k_fill
  intro dp un gd cn cs a ccd cl outer A₀ base h₀ L m s Q E B F X N T hk hd hu hret
  refine wpAny_call ?_
  k_dflt ktr_enter
  repeat' (first | ((fail_if_success (with_reducible show wpAny _ _ (exec (Stmt.While _ _ _ _) _) _ _ _)); first | (k_unfold; (try dsimp only)) | (k_end; wrow_close) | walk1 | (dsimp only; (fail_if_success (with_reducible show wpAny _ _ (exec (Stmt.While _ _ _ _) _) _ _ _)); walk1)) | fail "no")
  rename News _ _ _ _ => N9
  rename Fr _ _ _ _ => F9
  have N8 := cb_drop (news := (pa, poolO ca p1 t1 p2 t2) :: (ca, W.listOf ws.toArray 0) :: news) N9 (fun p hp => by first | exact hp | exact List.mem_cons_of_mem _ hp)
  refine whl_start 100 ?_
  refine whl_ind (by first | passes_own | with_unfolding_all passes_own) (JW _ _ _ _ pa ca most p1 ws news) ?turn 7 7 _ (Nat.le_refl _) ⟨_, _, _, _, _, _, _, _, _, _, _, rfl, F9, (fun _ _ => rfl), (by with_unfolding_all rfl), (by with_unfolding_all rfl), N8, (by omega), by omega, by omega, by omega⟩
  case turn =>
    clear N9 N8 F9
    intro k s1 hJ
    obtain ⟨m', fv, tf, cv, tc, p1', t1', p2', t2', h1, tk1, rfl, F1, e1, ec, ef, N1, c1, c2, c3, c4⟩ := hJ
    have F1x := fr_cf F1 e1 ec ef
    clear F1 e1 ec ef
    (try k_sweep)
    (try dsimp only)
    (try k_fold)
    k_steps
    all_goals first
      | exact hret _ ((pa, _) :: (ca, W.listOf ws.toArray 0) :: news) _ _ (by assumption) (by assumption) ⟨_, _, _, _, _, _, rfl, rfl, (fmod_nn hm).1, (fmod_nn hm).2, by omega, by omega, by omega⟩
      | (obtain ⟨k', rfl, hk'⟩ := jw_step c1 (by assumption)
         exact ⟨rfl, k', Nat.lt_succ_self _, _, _, _, _, _, _, _, _, _, _, _, rfl, (by assumption), (by intro y hy; simp only [if_neg hy.1, if_neg hy.2]), (by with_unfolding_all rfl), (by with_unfolding_all rfl), (by assumption), hk', by omega, by omega, by omega⟩)
end C3

local macro_rules | `(tactic| k_mem) => `(tactic| first | assumption | (refine List.mem_cons_of_mem _ ?_; assumption) | (refine List.mem_cons_of_mem _ (List.mem_cons_of_mem _ ?_); assumption) | (refine List.mem_cons_of_mem _ (List.mem_cons_of_mem _ (List.mem_cons_of_mem _ ?_)); assumption) | (refine List.mem_cons_of_mem _ (List.mem_cons_of_mem _ (List.mem_cons_of_mem _ (List.mem_cons_of_mem _ ?_))); assumption))
section C4
set_option maxRecDepth 100000 in
set_option maxHeartbeats 8000000 in
theorem units_does (w : World) (mean : ExcName → Option Value) (mg mb : Str → Option Value) (x dx : Addr) (e f bias top hid least : Int) (T : FT) (size : Int) (ts : Tok) (news : Led)
    (hF : FormOk e f bias top hid least) (hx : (x, instObj 31 dx) ∈ news) (hdx : (dx, formD w.params e f bias top hid least T) ∈ news) (h0 : 0 ≤ size) (h1 : size ≤ top * hid) :
    Does w mean mg mb 155 1 [.ref x, .int size ts] news (fun r news' => news' = news ∧ ∃ t, r = .int (U hid size) t) := by
  w_top off
  k_with_none
  k_with "mine call" => (k_dflt (first | (refine' call_cls (by k_asm) (by k_asm) (by k_asm) (by k_is) (by k_is) (by k_is) ?_; k_whole; intro x' d' h' F' N' l1 l2; (try k_lt l1); (try k_lt2 l2); (try k_sweep)) | refine wpAny_call ?_); k_dflt (refine' code_def (by k_asm) (by k_asm) (by k_asm) (by k_asm) (by k_asm) (by exact rfl) (by exact rfl) (by first | exact rfl | assumption) (by k_is) (by k_is) (by ktr_room) (by first | exact BindsTo.of_eq rfl | exact binds_K (by k_in) rfl (by k_is) rfl rfl rfl) (by exact locs rfl) ?_ (by exact rfl) (by exact rfl) (by exact rfl) (by decide); k_whole; intro g' L' h' FG' F' N' B' X' T'; (try dsimp only); (try k_lift B'); (try k_fold)))
  have hh := hF.hidLe
  have ht := hF.topLe
  have hf1 := hF.hf1
  have hf2 := hF.hf2
  have q1 : 0 ≤ size.fdiv (2 ^ f.toNat) := by rw [fd (p2pos _)]; exact div_lo (p2pos _) h0
  have q2 : size.fdiv (2 ^ f.toNat) ≤ top := by rw [fd (p2pos _), ← hF.hhid]; exact div_hi (by omega) h1
  have q3 := fmod_nn (a := size) (p2pos f.toNat)
  have q4 : (2 : Int) ^ f.toNat = hid := hF.hhid.symm
  have q5 := p2pos f.toNat
  have q6 : size.fdiv (2 ^ f.toNat) = size / hid := by rw [fd q5, q4]
  have q7 : size.fmod (2 ^ f.toNat) = size % hid := by rw [fm q5, q4]
  unfold Does
  k_fill
  intro dp un gd cn cs a ccd cl outer A₀ base h₀ L m s Q E B F X N Tp hk hd hu hret
  refine wpAny_call ?_
  k_dflt ktr_enter
  k_steps
  · exact hret _ news _ _ (by assumption) (by first | assumption | exact cb_drop (by assumption) (fun p hp => by first | exact List.mem_cons_of_mem _ hp | exact List.mem_cons_of_mem _ (List.mem_cons_of_mem _ hp) | exact List.mem_cons_of_mem _ (List.mem_cons_of_mem _ (List.mem_cons_of_mem _ hp)) | exact List.mem_cons_of_mem _ (List.mem_cons_of_mem _ (List.mem_cons_of_mem _ (List.mem_cons_of_mem _ hp))))) ⟨rfl, gv_int (by rw [q6] at *; rw [q7]; unfold U; rw [if_pos (by assumption)])⟩
  · exact hret _ news _ _ (by assumption) (by first | assumption | exact cb_drop (by assumption) (fun p hp => by first | exact List.mem_cons_of_mem _ hp | exact List.mem_cons_of_mem _ (List.mem_cons_of_mem _ hp) | exact List.mem_cons_of_mem _ (List.mem_cons_of_mem _ (List.mem_cons_of_mem _ hp)) | exact List.mem_cons_of_mem _ (List.mem_cons_of_mem _ (List.mem_cons_of_mem _ (List.mem_cons_of_mem _ hp))))) ⟨rfl, gv_int (by rw [q6] at *; rw [q7, q4]; unfold U; rw [if_neg (by assumption)])⟩
end C4

section P2
theorem mod_split {b h P : Int} (hh : 0 < h) (hP : 0 < P) : b % (h * P) = (b / h) % P * h + b % h ∧ b / (h * P) = b / h / P := by
  have e1 := Int.emod_add_mul_ediv b h
  have e2 := Int.emod_add_mul_ediv (b / h) P
  have h1 := Int.emod_nonneg b (Int.ne_of_gt hh)
  have h2 := Int.emod_lt_of_pos b hh
  have h3 := Int.emod_nonneg (b / h) (Int.ne_of_gt hP)
  have h4 := Int.emod_lt_of_pos (b / h) hP
  have h5 : (b / h) % P * h ≤ (P - 1) * h := Int.mul_le_mul_of_nonneg_right (by omega) (Int.le_of_lt hh)
  have h6 : 0 ≤ (b / h) % P * h := Int.mul_nonneg h3 (Int.le_of_lt hh)
  rw [Int.sub_mul, Int.one_mul, Int.mul_comm P h] at h5
  have key : ((b / h) % P * h + b % h) + h * P * (b / h / P) = b := by
    have : h * (b / h) = h * ((b / h) % P + P * (b / h / P)) := by rw [e2]
    rw [Int.mul_add, ← Int.mul_assoc] at this
    rw [Int.mul_comm ((b / h) % P) h]
    omega
  have := kbt_unique (Int.mul_pos hh hP) key (by omega) (by omega)
  exact ⟨this.2, this.1⟩
theorem mk_split {h E F : Int} (hh : 0 < h) (h0 : 0 ≤ F) (h1 : F < h) : (E * h + F) / h = E ∧ (E * h + F) % h = F := by
  refine kbt_unique hh ?_ h0 h1
  rw [Int.mul_comm E h]; omega
theorem U_mk {hid E F : Int} (hh : 0 < hid) (h0 : 0 ≤ F) (h1 : F < hid) : U hid (E * hid + F) = if E = 0 then F else (hid + F) * 2 ^ (E - 1).toNat := by
  unfold U
  rw [(mk_split hh h0 h1).1, (mk_split hh h0 h1).2]
theorem p2succ {n : Int} (h : 1 ≤ n) : (2 : Int) ^ n.toNat = 2 * 2 ^ (n - 1).toNat := by
  have : n.toNat = (n - 1).toNat + 1 := by omega
  rw [this, Int.pow_succ, Int.mul_comm]
theorem U_step {hid s : Int} (hh : 0 < hid) (hs : 0 ≤ s) : U hid (s + 1) = U hid s + 2 ^ (s / hid - 1).toNat := by
  have e1 := Int.emod_add_mul_ediv s hid
  have h1 := Int.emod_nonneg s (Int.ne_of_gt hh)
  have h2 := Int.emod_lt_of_pos s hh
  have h3 := div_lo hh hs
  have es : s = s / hid * hid + s % hid := by rw [Int.mul_comm (s / hid) hid]; omega
  generalize hE : s / hid = E at *
  generalize hG : s % hid = G at *
  subst es
  rw [U_mk hh h1 h2]
  by_cases hc : G + 1 < hid
  · rw [Int.add_assoc, U_mk hh (by omega) hc]
    by_cases h0 : E = 0
    · subst h0; simp
    · rw [if_neg h0, if_neg h0, ← Int.add_assoc, Int.add_mul (hid + G) 1, Int.one_mul]
  · have hg : G = hid - 1 := by omega
    have e2 : E * hid + G + 1 = (E + 1) * hid + 0 := by rw [Int.add_mul]; omega
    rw [e2, U_mk hh (Int.le_refl _) hh, if_neg (by omega), Int.add_zero]
    by_cases h0 : E = 0
    · subst h0; simp; omega
    · rw [if_neg h0]
      have e3 : E + 1 - 1 = E := by omega
      rw [e3, p2succ (n := E) (by omega), hg, ← Int.mul_assoc, Int.mul_comm hid 2]
      generalize (2 : Int) ^ (E - 1).toNat = p
      have e4 : hid + (hid - 1) = 2 * hid - 1 := by omega
      rw [e4, Int.sub_mul, Int.one_mul]; omega
theorem U_lt_add {hid s : Int} (hh : 0 < hid) (hs : 0 ≤ s) : ∀ n : Nat, U hid s < U hid (s + (n + 1 : Nat))
  | 0 => by
    have := U_step hh hs
    have := p2pos (s / hid - 1).toNat
    show U hid s < U hid (s + 1)
    omega
  | n + 1 => by
    have ih := U_lt_add hh hs n
    have := U_step (s := s + (n + 1 : Nat)) hh (by omega)
    have := p2pos ((s + (n + 1 : Nat)) / hid - 1).toNat
    have e : s + ((n + 1 + 1 : Nat) : Int) = s + (n + 1 : Nat) + 1 := by omega
    rw [e]
    omega
theorem U_lt {hid s t : Int} (hh : 0 < hid) (hs : 0 ≤ s) (h : s < t) : U hid s < U hid t := by
  have e : t = s + (((t - s - 1).toNat + 1 : Nat) : Int) := by omega
  rw [e]
  exact U_lt_add hh hs _
theorem U_le {hid s t : Int} (hh : 0 < hid) (hs : 0 ≤ s) (h : s ≤ t) : U hid s ≤ U hid t := by
  rcases Int.lt_or_eq_of_le h with h | h
  · exact Int.le_of_lt (U_lt hh hs h)
  · rw [h]; exact Int.le_refl _
theorem U_zero {hid : Int} (hh : 0 < hid) : U hid 0 = 0 := by
  unfold U
  rw [Int.zero_ediv, if_pos rfl, Int.zero_emod]
theorem U_nn {hid s : Int} (hh : 0 < hid) (hs : 0 ≤ s) : 0 ≤ U hid s := by
  have := U_le hh (Int.le_refl 0) hs
  rwa [U_zero hh] at this
theorem U_eq {hid s t : Int} (hh : 0 < hid) (hs : 0 ≤ s) (ht : 0 ≤ t) : (U hid s < U hid t ↔ s < t) ∧ (U hid s = U hid t ↔ s = t) := by
  rcases Int.lt_trichotomy s t with h | h | h
  · have := U_lt hh hs h
    constructor <;> constructor <;> intro <;> omega
  · subst h; simp
  · have := U_lt hh ht h
    constructor <;> constructor <;> intro <;> omega
section
variable {e f bias top hid least : Int}
theorem FormOk.pw (h : FormOk e f bias top hid least) : (2 : Int) ^ e.toNat = top + 1 := by
  have := h.htop
  omega
theorem FormOk.fields (h : FormOk e f bias top hid least) (b : Int) : Builtin.bitAnd (b.fdiv hid) top = (b / hid) % (top + 1) ∧ (b.fdiv hid).fdiv (2 ^ e.toNat) = b / (hid * (top + 1)) ∧ b.fmod hid = b % hid ∧ b.fdiv hid = b / hid ∧
    b % (hid * (top + 1)) = (b / hid) % (top + 1) * hid + b % hid ∧ 0 ≤ (b / hid) % (top + 1) ∧ (b / hid) % (top + 1) ≤ top ∧ 0 ≤ b % hid ∧ b % hid < hid := by
  have hh := h.hidLe
  have ht := h.topLe
  have q1 : (0 : Int) < hid := by omega
  have q2 : (0 : Int) < top + 1 := by omega
  have m := mod_split (b := b) q1 q2
  have h3 := Int.emod_nonneg (b / hid) (Int.ne_of_gt q2)
  have h4 := Int.emod_lt_of_pos (b / hid) q2
  refine ⟨?_, ?_, fm q1, fd q1, m.1, h3, by omega, Int.emod_nonneg b (Int.ne_of_gt q1), Int.emod_lt_of_pos b q1⟩
  · rw [h.htop, kbt_mask, fd q1]; congr 1; omega
  · rw [fd q1, h.pw, fd q2, m.2]
theorem FormOk.spanPos (h : FormOk e f bias top hid least) : 0 < hid * (top + 1) ∧ hid * (top + 1) ≤ 8388608 * 256 ∧ top * hid + hid = hid * (top + 1) := by
  have hh := h.hidLe
  have ht := h.topLe
  refine ⟨Int.mul_pos (by omega) (by omega), ?_, ?_⟩
  · exact Int.mul_le_mul hh.2 (by omega) (by omega) (by omega)
  · rw [Int.mul_add, Int.mul_comm top hid, Int.mul_one]
theorem FormOk.sgn (h : FormOk e f bias top hid least) {b : Int} (h0 : 0 ≤ b) (h1 : b < 2 * (hid * (top + 1))) : b / (hid * (top + 1)) = if hid * (top + 1) ≤ b then 1 else 0 := by
  have sp := h.spanPos
  generalize hid * (top + 1) = S at *
  split
  · exact (kbt_unique (r := b - S) sp.1 (by omega) (by omega) (by omega)).1
  · exact (kbt_unique (r := b) sp.1 (by omega) (by omega) (by omega)).1
theorem FormOk.modS (h : FormOk e f bias top hid least) {b : Int} (h0 : 0 ≤ b) (h1 : b < 2 * (hid * (top + 1))) : b % (hid * (top + 1)) = if hid * (top + 1) ≤ b then b - hid * (top + 1) else b := by
  have sp := h.spanPos
  generalize hid * (top + 1) = S at *
  split
  · exact (kbt_unique (q := 1) (r := b - S) sp.1 (by omega) (by omega) (by omega)).2
  · exact (kbt_unique (q := 0) (r := b) sp.1 (by omega) (by omega) (by omega)).2
/-- the field is the top one, the fraction is not nothing: the size is above the top's -/
theorem FormOk.above (h : FormOk e f bias top hid least) (b : Int) : (top * hid < b % (hid * (top + 1)) ↔ ((b / hid) % (top + 1) = top ∧ b % hid ≠ 0)) ∧ (b % (hid * (top + 1)) = top * hid ↔ ((b / hid) % (top + 1) = top ∧ b % hid = 0)) := by
  obtain ⟨_, _, _, _, q5, q6, q7, q8, q9⟩ := h.fields b
  have hh := h.hidLe
  rw [q5]
  generalize (b / hid) % (top + 1) = E at *
  generalize b % hid = G at *
  by_cases hc : E = top
  · subst hc
    constructor <;> constructor <;> intro hx <;> omega
  · have : (E + 1) * hid ≤ top * hid := Int.mul_le_mul_of_nonneg_right (by omega) (by omega)
    rw [Int.add_mul, Int.one_mul] at this
    constructor <;> constructor <;> intro hx <;> omega
end
/-- what compare_real tells -/
def cmpI (x y : Int) : Int := if x = y then 0 else if x < y then -1 else 1
def OV (S b : Int) : Int := if S ≤ b then -(b % S) else b % S
def cmpS (hid top a b : Int) : Option Int := if top * hid < a % (hid * (top + 1)) ∨ top * hid < b % (hid * (top + 1)) then none else some (cmpI (OV (hid * (top + 1)) a) (OV (hid * (top + 1)) b))
/-- the exact value, in units -/
def VU (hid S b : Int) : Int := if S ≤ b then -(U hid (b % S)) else U hid (b % S)
def VS (hid top b : Int) : Option Int := if top * hid < b % (hid * (top + 1)) then none else some (VU hid (hid * (top + 1)) b)
theorem vu_cmp {hid S a b : Int} (hh : 0 < hid) (ha : 0 ≤ a % S) (hb : 0 ≤ b % S) : (VU hid S a < VU hid S b ↔ OV S a < OV S b) ∧ (VU hid S a = VU hid S b ↔ OV S a = OV S b) := by
  have h := U_eq hh ha hb
  have h' := U_eq hh hb ha
  have z := U_eq hh ha (Int.le_refl 0)
  have z' := U_eq hh hb (Int.le_refl 0)
  have n := U_nn hh ha
  have n' := U_nn hh hb
  rw [U_zero hh] at z z'
  unfold VU OV
  generalize a % S = s at *
  generalize b % S = t at *
  generalize U hid s = us at *
  generalize U hid t = ut at *
  split <;> split <;> constructor <;> omega
theorem cmpS_none {hid top p q : Int} (h : VS hid top p = none ∨ VS hid top q = none) : cmpS hid top p q = none := by
  unfold VS at h
  unfold cmpS
  rcases h with h | h <;> split at h <;> simp_all
theorem cmpS_some {hid top p q x y : Int} (hh : 0 < hid) (h0 : 0 ≤ p % (hid * (top + 1))) (h1 : 0 ≤ q % (hid * (top + 1))) (hp : VS hid top p = some x) (hq : VS hid top q = some y) : cmpS hid top p q = some (b2i (decide (y < x)) - b2i (decide (x < y))) := by
  have v := vu_cmp hh h0 h1
  have v' := vu_cmp hh h1 h0
  unfold VS at hp hq
  unfold cmpS
  split at hp
  · cases hp
  split at hq
  · cases hq
  rename_i n1 n2
  cases hp
  cases hq
  rw [if_neg (not_or.mpr ⟨n1, n2⟩)]
  congr 1
  unfold cmpI
  generalize OV (hid * (top + 1)) p = a at *
  generalize OV (hid * (top + 1)) q = b at *
  generalize VU hid (hid * (top + 1)) p = c at *
  generalize VU hid (hid * (top + 1)) q = d at *
  rcases Int.lt_trichotomy a b with h | h | h
  · have e1 : c < d := v.1.mpr h
    rw [if_neg (by omega), if_pos h, decide_eq_false (by omega), decide_eq_true e1]; rfl
  · have e1 : c = d := v.2.mpr h
    rw [if_pos h, decide_eq_false (by omega), decide_eq_false (by omega)]; rfl
  · have e1 : d < c := v'.1.mpr h
    rw [if_neg (by omega), if_neg (by omega), decide_eq_true e1, decide_eq_false (by omega)]; rfl
end P2

section S1
set_option maxRecDepth 100000 in
set_option maxHeartbeats 8000000 in
theorem split_does (w : World) (mean : ExcName → Option Value) (mg mb : Str → Option Value) (x dx : Addr) (e f bias top hid least : Int) (T : FT) (b : Int) (tb : Tok) (news : Led)
    (hF : FormOk e f bias top hid least) (hx : (x, instObj 31 dx) ∈ news) (hdx : (dx, formD w.params e f bias top hid least T) ∈ news) :
    Does w mean mg mb 49 1 [.ref x, .int b tb] news (fun r news' => ∃ y t1 t2 t3, r = .ref y ∧ news' = (y, ({ cls := .type "tuple", data := .seq #[.int ((b.fdiv hid).fdiv (2 ^ e.toNat)) t1, .int (Builtin.bitAnd (b.fdiv hid) top) t2, .int (b.fmod hid) t3] } : Obj)) :: news ∧ (∀ p ∈ news, p.1 < y)) := by
  w_top off
  k_with_none
  k_with "mine call" => (k_dflt (first | (refine' call_cls (by k_asm) (by k_asm) (by k_asm) (by k_is) (by k_is) (by k_is) ?_; k_whole; intro x' d' h' F' N' l1 l2; (try k_lt l1); (try k_lt2 l2); (try k_sweep)) | refine wpAny_call ?_); k_dflt (refine' code_def (by k_asm) (by k_asm) (by k_asm) (by k_asm) (by k_asm) (by exact rfl) (by exact rfl) (by first | exact rfl | assumption) (by k_is) (by k_is) (by ktr_room) (by first | exact BindsTo.of_eq rfl | exact binds_K (by k_in) rfl (by k_is) rfl rfl rfl) (by exact locs rfl) ?_ (by exact rfl) (by exact rfl) (by exact rfl) (by decide); k_whole; intro g' L' h' FG' F' N' B' X' T'; (try dsimp only); (try k_lift B'); (try k_fold)))
  have hh := hF.hidLe
  have ht := hF.topLe
  have hf1 := hF.hf1
  have hf2 := hF.hf2
  have he1 := hF.he1
  have he2 := hF.he2
  have sp := hF.spanPos
  obtain ⟨f1, f2, f3, f4, f5, f6, f7, f8, f9⟩ := hF.fields b
  unfold Does
  k_fill
  intro dp un gd cn cs a ccd cl outer A₀ base h₀ L m s Q E B F X N Tp hk hd hu hret
  refine wpAny_call ?_
  k_dflt ktr_enter
  k_steps
  all_goals exact hret _ _ _ _ (by assumption) (by assumption) ⟨_, _, _, _, rfl, rfl, by assumption⟩
set_option maxRecDepth 100000 in
set_option maxHeartbeats 8000000 in
theorem join_does (w : World) (mean : ExcName → Option Value) (mg mb : Str → Option Value) (x dx : Addr) (e f bias top hid least : Int) (T : FT) (sg E0 F0 : Int) (ts tE tF : Tok) (news : Led)
    (hF : FormOk e f bias top hid least) (hx : (x, instObj 31 dx) ∈ news) (hdx : (dx, formD w.params e f bias top hid least T) ∈ news) (h0 : 0 ≤ sg) (h1 : sg ≤ 1) :
    Does w mean mg mb 42 1 [.ref x, .int sg ts, .int E0 tE, .int F0 tF] news (fun r news' => news' = news ∧ ∃ t, r = .int ((sg * 2 ^ e.toNat + E0) * hid + F0) t) := by
  w_top off
  k_with_none
  k_with "mine call" => (k_dflt (first | (refine' call_cls (by k_asm) (by k_asm) (by k_asm) (by k_is) (by k_is) (by k_is) ?_; k_whole; intro x' d' h' F' N' l1 l2; (try k_lt l1); (try k_lt2 l2); (try k_sweep)) | refine wpAny_call ?_); k_dflt (refine' code_def (by k_asm) (by k_asm) (by k_asm) (by k_asm) (by k_asm) (by exact rfl) (by exact rfl) (by first | exact rfl | assumption) (by k_is) (by k_is) (by ktr_room) (by first | exact BindsTo.of_eq rfl | exact binds_K (by k_in) rfl (by k_is) rfl rfl rfl) (by exact locs rfl) ?_ (by exact rfl) (by exact rfl) (by exact rfl) (by decide); k_whole; intro g' L' h' FG' F' N' B' X' T'; (try dsimp only); (try k_lift B'); (try k_fold)))
  have hh := hF.hidLe
  have ht := hF.topLe
  have hf1 := hF.hf1
  have hf2 := hF.hf2
  have he1 := hF.he1
  have he2 := hF.he2
  unfold Does
  k_fill
  intro dp un gd cn cs a ccd cl outer A₀ base h₀ L m s Q E B F X N Tp hk hd hu hret
  refine wpAny_call ?_
  k_dflt ktr_enter
  k_steps
  all_goals exact hret _ news _ _ (by assumption) (by assumption) ⟨rfl, _, rfl⟩
theorem FormOk.sg01 {e f bias top hid least b : Int} (h : FormOk e f bias top hid least) (h0 : 0 ≤ b) (h1 : b < 2 * (hid * (top + 1))) : 0 ≤ (b.fdiv hid).fdiv (2 ^ e.toNat) ∧ (b.fdiv hid).fdiv (2 ^ e.toNat) ≤ 1 := by
  obtain ⟨f1, f2, f3, f4, f5, f6, f7, f8, f9⟩ := h.fields b
  rw [f2, h.sgn h0 h1]
  split <;> omega
end S1

section C5
set_option maxRecDepth 100000 in
set_option maxHeartbeats 8000000 in
theorem nan_does (w : World) (mean : ExcName → Option Value) (mg mb : Str → Option Value) (x dx : Addr) (e f bias top hid least : Int) (T : FT) (b : Int) (tb : Tok) (news : Led)
    (hF : FormOk e f bias top hid least) (hx : (x, instObj 31 dx) ∈ news) (hdx : (dx, formD w.params e f bias top hid least T) ∈ news) (h0 : 0 ≤ b) (h1 : b < 2 * (hid * (top + 1))) :
    Does w mean mg mb 70 2 [.ref x, .int b tb] news (fun r news' => news' = news ∧ r = .bool (decide (top * hid < b % (hid * (top + 1))))) := by
  w_top off
  k_with_none
  k_with "mine call" => (k_dflt (first | (refine' call_cls (by k_asm) (by k_asm) (by k_asm) (by k_is) (by k_is) (by k_is) ?_; k_whole; intro x' d' h' F' N' l1 l2; (try k_lt l1); (try k_lt2 l2); (try k_sweep)) | refine wpAny_call ?_); k_dflt (refine' code_def (by k_asm) (by k_asm) (by k_asm) (by k_asm) (by k_asm) (by exact rfl) (by exact rfl) (by first | exact rfl | assumption) (by k_is) (by k_is) (by ktr_room) (by first | exact BindsTo.of_eq rfl | exact binds_K (by k_in) rfl (by k_is) rfl rfl rfl) (by exact locs rfl) ?_ (by exact rfl) (by exact rfl) (by exact rfl) (by decide); k_whole; intro g' L' h' FG' F' N' B' X' T'; (try dsimp only); (try k_lift B'); (try k_fold)))
  k_with "mine call" => ((with_reducible show wpAny _ _ (call (Value.ref 49) _) _ _ _); k_dflt (refine Does.go (by k_asm) (by k_asm) (by k_asm) (by k_asm) (by k_asm) (by first | exact rfl | assumption) (by first | exact Nat.le_of_ble_eq_true rfl | ktr_room) (by first | exact Nat.le_of_ble_eq_true rfl | ktr_units) (split_does _ _ _ _ _ _ _ _ _ _ _ _ _ _ _ _ (by assumption) (by k_mem) (by k_mem)) ?_; (intro r' n' h' tk' F' N' hO'; obtain ⟨y', t1', t2', t3', hr', hn', l1'⟩ := hO'; subst hr' hn'); (try k_lt l1'); (try k_sweep); (try dsimp only); (try k_fold)))
  have hh := hF.hidLe
  have ht := hF.topLe
  have hf1 := hF.hf1
  have hf2 := hF.hf2
  have he1 := hF.he1
  have he2 := hF.he2
  have sp := hF.spanPos
  obtain ⟨f1, f2, f3, f4, f5, f6, f7, f8, f9⟩ := hF.fields b
  have fa := hF.above b
  unfold Does
  k_fill
  intro dp un gd cn cs a ccd cl outer A₀ base h₀ L m s Q E B F X N Tp hk hd hu hret
  refine wpAny_call ?_
  k_dflt ktr_enter
  k_steps
  · exact hret _ news _ _ (by assumption) (by first | assumption | exact cb_drop (by assumption) (fun p hp => by first | exact List.mem_cons_of_mem _ hp | exact List.mem_cons_of_mem _ (List.mem_cons_of_mem _ hp) | exact List.mem_cons_of_mem _ (List.mem_cons_of_mem _ (List.mem_cons_of_mem _ hp)) | exact List.mem_cons_of_mem _ (List.mem_cons_of_mem _ (List.mem_cons_of_mem _ (List.mem_cons_of_mem _ hp))))) ⟨rfl, congrArg Value.bool (by rw [f3]; rw [f1] at *; refine Bool.eq_iff_iff.mpr ?_; rw [decide_eq_true_iff, fa.1, bne_iff_ne]; exact ⟨fun h => ⟨by assumption, h⟩, fun h => h.2⟩)⟩
  · exact hret _ news _ _ (by assumption) (by first | assumption | exact cb_drop (by assumption) (fun p hp => by first | exact List.mem_cons_of_mem _ hp | exact List.mem_cons_of_mem _ (List.mem_cons_of_mem _ hp) | exact List.mem_cons_of_mem _ (List.mem_cons_of_mem _ (List.mem_cons_of_mem _ hp)) | exact List.mem_cons_of_mem _ (List.mem_cons_of_mem _ (List.mem_cons_of_mem _ (List.mem_cons_of_mem _ hp))))) ⟨rfl, congrArg Value.bool (by rw [f1] at *; refine Bool.eq_iff_iff.mpr ?_; rw [decide_eq_true_iff, fa.1, beq_iff_eq]; exact ⟨fun h => absurd h (by assumption), fun h => h.1⟩)⟩
set_option maxRecDepth 100000 in
set_option maxHeartbeats 8000000 in
theorem inf_does (w : World) (mean : ExcName → Option Value) (mg mb : Str → Option Value) (x dx : Addr) (e f bias top hid least : Int) (T : FT) (b : Int) (tb : Tok) (news : Led)
    (hF : FormOk e f bias top hid least) (hx : (x, instObj 31 dx) ∈ news) (hdx : (dx, formD w.params e f bias top hid least T) ∈ news) (h0 : 0 ≤ b) (h1 : b < 2 * (hid * (top + 1))) :
    Does w mean mg mb 77 2 [.ref x, .int b tb] news (fun r news' => news' = news ∧ r = .bool (decide (b % (hid * (top + 1)) = top * hid))) := by
  w_top off
  k_with_none
  k_with "mine call" => (k_dflt (first | (refine' call_cls (by k_asm) (by k_asm) (by k_asm) (by k_is) (by k_is) (by k_is) ?_; k_whole; intro x' d' h' F' N' l1 l2; (try k_lt l1); (try k_lt2 l2); (try k_sweep)) | refine wpAny_call ?_); k_dflt (refine' code_def (by k_asm) (by k_asm) (by k_asm) (by k_asm) (by k_asm) (by exact rfl) (by exact rfl) (by first | exact rfl | assumption) (by k_is) (by k_is) (by ktr_room) (by first | exact BindsTo.of_eq rfl | exact binds_K (by k_in) rfl (by k_is) rfl rfl rfl) (by exact locs rfl) ?_ (by exact rfl) (by exact rfl) (by exact rfl) (by decide); k_whole; intro g' L' h' FG' F' N' B' X' T'; (try dsimp only); (try k_lift B'); (try k_fold)))
  k_with "mine call" => ((with_reducible show wpAny _ _ (call (Value.ref 49) _) _ _ _); k_dflt (refine Does.go (by k_asm) (by k_asm) (by k_asm) (by k_asm) (by k_asm) (by first | exact rfl | assumption) (by first | exact Nat.le_of_ble_eq_true rfl | ktr_room) (by first | exact Nat.le_of_ble_eq_true rfl | ktr_units) (split_does _ _ _ _ _ _ _ _ _ _ _ _ _ _ _ _ (by assumption) (by k_mem) (by k_mem)) ?_; (intro r' n' h' tk' F' N' hO'; obtain ⟨y', t1', t2', t3', hr', hn', l1'⟩ := hO'; subst hr' hn'); (try k_lt l1'); (try k_sweep); (try dsimp only); (try k_fold)))
  have hh := hF.hidLe
  have ht := hF.topLe
  have hf1 := hF.hf1
  have hf2 := hF.hf2
  have he1 := hF.he1
  have he2 := hF.he2
  have sp := hF.spanPos
  obtain ⟨f1, f2, f3, f4, f5, f6, f7, f8, f9⟩ := hF.fields b
  have fa := hF.above b
  unfold Does
  k_fill
  intro dp un gd cn cs a ccd cl outer A₀ base h₀ L m s Q E B F X N Tp hk hd hu hret
  refine wpAny_call ?_
  k_dflt ktr_enter
  k_steps
  · exact hret _ news _ _ (by assumption) (by first | assumption | exact cb_drop (by assumption) (fun p hp => by first | exact List.mem_cons_of_mem _ hp | exact List.mem_cons_of_mem _ (List.mem_cons_of_mem _ hp) | exact List.mem_cons_of_mem _ (List.mem_cons_of_mem _ (List.mem_cons_of_mem _ hp)) | exact List.mem_cons_of_mem _ (List.mem_cons_of_mem _ (List.mem_cons_of_mem _ (List.mem_cons_of_mem _ hp))))) ⟨rfl, congrArg Value.bool (by rw [f3]; rw [f1] at *; refine Bool.eq_iff_iff.mpr ?_; rw [decide_eq_true_iff, fa.2, beq_iff_eq]; exact ⟨fun h => ⟨by assumption, h⟩, fun h => h.2⟩)⟩
  · exact hret _ news _ _ (by assumption) (by first | assumption | exact cb_drop (by assumption) (fun p hp => by first | exact List.mem_cons_of_mem _ hp | exact List.mem_cons_of_mem _ (List.mem_cons_of_mem _ hp) | exact List.mem_cons_of_mem _ (List.mem_cons_of_mem _ (List.mem_cons_of_mem _ hp)) | exact List.mem_cons_of_mem _ (List.mem_cons_of_mem _ (List.mem_cons_of_mem _ (List.mem_cons_of_mem _ hp))))) ⟨rfl, congrArg Value.bool (by rw [f1] at *; refine Bool.eq_iff_iff.mpr ?_; rw [decide_eq_true_iff, fa.2, beq_iff_eq]; exact ⟨fun h => absurd h (by assumption), fun h => h.1⟩)⟩
set_option maxRecDepth 100000 in
set_option maxHeartbeats 8000000 in
theorem ov_does (w : World) (mean : ExcName → Option Value) (mg mb : Str → Option Value) (x dx : Addr) (e f bias top hid least : Int) (T : FT) (b : Int) (tb : Tok) (news : Led)
    (hF : FormOk e f bias top hid least) (hx : (x, instObj 31 dx) ∈ news) (hdx : (dx, formD w.params e f bias top hid least T) ∈ news) (h0 : 0 ≤ b) (h1 : b < 2 * (hid * (top + 1))) :
    Does w mean mg mb 120 2 [.ref x, .int b tb] news (fun r news' => news' = news ∧ ∃ t, r = .int (OV (hid * (top + 1)) b) t) := by
  w_top off
  k_with_none
  k_with "mine call" => (k_dflt (first | (refine' call_cls (by k_asm) (by k_asm) (by k_asm) (by k_is) (by k_is) (by k_is) ?_; k_whole; intro x' d' h' F' N' l1 l2; (try k_lt l1); (try k_lt2 l2); (try k_sweep)) | refine wpAny_call ?_); k_dflt (refine' code_def (by k_asm) (by k_asm) (by k_asm) (by k_asm) (by k_asm) (by exact rfl) (by exact rfl) (by first | exact rfl | assumption) (by k_is) (by k_is) (by ktr_room) (by first | exact BindsTo.of_eq rfl | exact binds_K (by k_in) rfl (by k_is) rfl rfl rfl) (by exact locs rfl) ?_ (by exact rfl) (by exact rfl) (by exact rfl) (by decide); k_whole; intro g' L' h' FG' F' N' B' X' T'; (try dsimp only); (try k_lift B'); (try k_fold)))
  k_with "mine call" => ((with_reducible show wpAny _ _ (call (Value.ref 49) _) _ _ _); k_dflt (refine Does.go (by k_asm) (by k_asm) (by k_asm) (by k_asm) (by k_asm) (by first | exact rfl | assumption) (by first | exact Nat.le_of_ble_eq_true rfl | ktr_room) (by first | exact Nat.le_of_ble_eq_true rfl | ktr_units) (split_does _ _ _ _ _ _ _ _ _ _ _ _ _ _ _ _ (by assumption) (by k_mem) (by k_mem)) ?_; (intro r' n' h' tk' F' N' hO'; obtain ⟨y', t1', t2', t3', hr', hn', l1'⟩ := hO'; subst hr' hn'); (try k_lt l1'); (try k_sweep); (try dsimp only); (try k_fold)))
  have hh := hF.hidLe
  have ht := hF.topLe
  have hf1 := hF.hf1
  have hf2 := hF.hf2
  have he1 := hF.he1
  have he2 := hF.he2
  have sp := hF.spanPos
  obtain ⟨f1, f2, f3, f4, f5, f6, f7, f8, f9⟩ := hF.fields b
  have fs := hF.sgn h0 h1
  unfold Does
  k_fill
  intro dp un gd cn cs a ccd cl outer A₀ base h₀ L m s Q E B F X N Tp hk hd hu hret
  refine wpAny_call ?_
  k_dflt ktr_enter
  k_steps
  · exact hret _ news _ _ (by assumption) (by first | assumption | exact cb_drop (by assumption) (fun p hp => by first | exact List.mem_cons_of_mem _ hp | exact List.mem_cons_of_mem _ (List.mem_cons_of_mem _ hp) | exact List.mem_cons_of_mem _ (List.mem_cons_of_mem _ (List.mem_cons_of_mem _ hp)) | exact List.mem_cons_of_mem _ (List.mem_cons_of_mem _ (List.mem_cons_of_mem _ (List.mem_cons_of_mem _ hp))))) ⟨rfl, gv_int (by rw [f1, f3]; rw [f2, fs] at *; unfold OV; split at * <;> omega)⟩
  · exact hret _ news _ _ (by assumption) (by first | assumption | exact cb_drop (by assumption) (fun p hp => by first | exact List.mem_cons_of_mem _ hp | exact List.mem_cons_of_mem _ (List.mem_cons_of_mem _ hp) | exact List.mem_cons_of_mem _ (List.mem_cons_of_mem _ (List.mem_cons_of_mem _ hp)) | exact List.mem_cons_of_mem _ (List.mem_cons_of_mem _ (List.mem_cons_of_mem _ (List.mem_cons_of_mem _ hp))))) ⟨rfl, gv_int (by rw [f1, f3]; rw [f2, fs] at *; unfold OV; split at * <;> omega)⟩
end C5

section C6
set_option maxRecDepth 100000 in
set_option maxHeartbeats 8000000 in
theorem cmp_does (w : World) (mean : ExcName → Option Value) (mg mb : Str → Option Value) (x dx : Addr) (e f bias top hid least : Int) (T : FT) (p q : Int) (ta tb : Tok) (news : Led)
    (hF : FormOk e f bias top hid least) (hx : (x, instObj 31 dx) ∈ news) (hdx : (dx, formD w.params e f bias top hid least T) ∈ news) (h0 : 0 ≤ p) (h1 : p < 2 * (hid * (top + 1))) (h2 : 0 ≤ q) (h3 : q < 2 * (hid * (top + 1))) :
    Does w mean mg mb 113 4 [.ref x, .int p ta, .int q tb] news (fun r news' => news' = news ∧ ∃ t, r = optV (cmpS hid top p q) t) := by
  w_top off
  k_with_none
  k_with "mine call" => (k_dflt (first | (refine' call_cls (by k_asm) (by k_asm) (by k_asm) (by k_is) (by k_is) (by k_is) ?_; k_whole; intro x' d' h' F' N' l1 l2; (try k_lt l1); (try k_lt2 l2); (try k_sweep)) | refine wpAny_call ?_); k_dflt (refine' code_def (by k_asm) (by k_asm) (by k_asm) (by k_asm) (by k_asm) (by exact rfl) (by exact rfl) (by first | exact rfl | assumption) (by k_is) (by k_is) (by ktr_room) (by first | exact BindsTo.of_eq rfl | exact binds_K (by k_in) rfl (by k_is) rfl rfl rfl) (by exact locs rfl) ?_ (by exact rfl) (by exact rfl) (by exact rfl) (by decide); k_whole; intro g' L' h' FG' F' N' B' X' T'; (try dsimp only); (try k_lift B'); (try k_fold)))
  k_with "mine call" => ((with_reducible show wpAny _ _ (call (Value.ref 70) _) _ _ _); k_dflt (refine Does.go (by k_asm) (by k_asm) (by k_asm) (by k_asm) (by k_asm) (by first | exact rfl | assumption) (by ktr_room) (by ktr_units) (nan_does _ _ _ _ _ _ _ _ _ _ _ _ _ _ _ _  (by assumption) (by k_mem) (by k_mem) (by first | assumption | omega) (by first | assumption | omega)) ?_; (intro r' n' h' tk' F' N' hO'; obtain ⟨hn', hr'⟩ := hO'; replace hn' := hn'.symm; subst hn' hr'); (try k_sweep); (try dsimp only); (try k_fold)))
  k_with "mine call" => ((with_reducible show wpAny _ _ (call (Value.ref 120) _) _ _ _); k_dflt (refine Does.go (by k_asm) (by k_asm) (by k_asm) (by k_asm) (by k_asm) (by first | exact rfl | assumption) (by ktr_room) (by ktr_units) (ov_does _ _ _ _ _ _ _ _ _ _ _ _ _ _ _ _  (by assumption) (by k_mem) (by k_mem) (by first | assumption | omega) (by first | assumption | omega)) ?_; (intro r' n' h' tk' F' N' hO'; obtain ⟨hn', t', hr'⟩ := hO'; replace hn' := hn'.symm; subst hn' hr'); (try k_sweep); (try dsimp only); (try k_fold)))
  have hh := hF.hidLe
  have ht := hF.topLe
  have hf1 := hF.hf1
  have hf2 := hF.hf2
  have he1 := hF.he1
  have he2 := hF.he2
  have sp := hF.spanPos
  unfold Does
  k_fill
  intro dp un gd cn cs a ccd cl outer A₀ base h₀ L m s Q E B F X N Tp hk hd hu hret
  refine wpAny_call ?_
  k_dflt ktr_enter
  k_steps
  · exact hret _ news _ _ (by assumption) (by first | assumption | exact cb_drop (by assumption) (fun p hp => by first | exact List.mem_cons_of_mem _ hp | exact List.mem_cons_of_mem _ (List.mem_cons_of_mem _ hp) | exact List.mem_cons_of_mem _ (List.mem_cons_of_mem _ (List.mem_cons_of_mem _ hp)) | exact List.mem_cons_of_mem _ (List.mem_cons_of_mem _ (List.mem_cons_of_mem _ (List.mem_cons_of_mem _ hp))))) ⟨rfl, gv_none (by unfold cmpS; rw [if_pos (Or.inl (by assumption))])⟩
  · exact hret _ news _ _ (by assumption) (by first | assumption | exact cb_drop (by assumption) (fun p hp => by first | exact List.mem_cons_of_mem _ hp | exact List.mem_cons_of_mem _ (List.mem_cons_of_mem _ hp) | exact List.mem_cons_of_mem _ (List.mem_cons_of_mem _ (List.mem_cons_of_mem _ hp)) | exact List.mem_cons_of_mem _ (List.mem_cons_of_mem _ (List.mem_cons_of_mem _ (List.mem_cons_of_mem _ hp))))) ⟨rfl, gv_none (by unfold cmpS; rw [if_pos (Or.inr (by assumption))])⟩
  · exact hret _ news _ _ (by assumption) (by first | assumption | exact cb_drop (by assumption) (fun p hp => by first | exact List.mem_cons_of_mem _ hp | exact List.mem_cons_of_mem _ (List.mem_cons_of_mem _ hp) | exact List.mem_cons_of_mem _ (List.mem_cons_of_mem _ (List.mem_cons_of_mem _ hp)) | exact List.mem_cons_of_mem _ (List.mem_cons_of_mem _ (List.mem_cons_of_mem _ (List.mem_cons_of_mem _ hp))))) ⟨rfl, gv_some (by unfold cmpS cmpI; rw [if_neg (not_or.mpr ⟨by assumption, by assumption⟩)]; simp [*])⟩
  · exact hret _ news _ _ (by assumption) (by first | assumption | exact cb_drop (by assumption) (fun p hp => by first | exact List.mem_cons_of_mem _ hp | exact List.mem_cons_of_mem _ (List.mem_cons_of_mem _ hp) | exact List.mem_cons_of_mem _ (List.mem_cons_of_mem _ (List.mem_cons_of_mem _ hp)) | exact List.mem_cons_of_mem _ (List.mem_cons_of_mem _ (List.mem_cons_of_mem _ (List.mem_cons_of_mem _ hp))))) ⟨rfl, gv_some (by unfold cmpS cmpI; rw [if_neg (not_or.mpr ⟨by assumption, by assumption⟩)]; simp [*])⟩
  · exact hret _ news _ _ (by assumption) (by first | assumption | exact cb_drop (by assumption) (fun p hp => by first | exact List.mem_cons_of_mem _ hp | exact List.mem_cons_of_mem _ (List.mem_cons_of_mem _ hp) | exact List.mem_cons_of_mem _ (List.mem_cons_of_mem _ (List.mem_cons_of_mem _ hp)) | exact List.mem_cons_of_mem _ (List.mem_cons_of_mem _ (List.mem_cons_of_mem _ (List.mem_cons_of_mem _ hp))))) ⟨rfl, gv_some (by unfold cmpS cmpI; rw [if_neg (not_or.mpr ⟨by assumption, by assumption⟩)]; simp [*])⟩
end C6

section C7
set_option maxRecDepth 100000 in
set_option maxHeartbeats 8000000 in
theorem val_does (w : World) (mean : ExcName → Option Value) (mg mb : Str → Option Value) (x dx : Addr) (e f bias top hid least : Int) (T : FT) (b : Int) (tb : Tok) (news : Led)
    (hF : FormOk e f bias top hid least) (hx : (x, instObj 31 dx) ∈ news) (hdx : (dx, formD w.params e f bias top hid least T) ∈ news) (h0 : 0 ≤ b) (h1 : b < 2 * (hid * (top + 1))) :
    Does w mean mg mb 169 3 [.ref x, .int b tb] news (fun r news' => news' = news ∧ ∃ t, r = optV (VS hid top b) t) := by
  w_top off
  k_with_none
  k_with "mine call" => (k_dflt (first | (refine' call_cls (by k_asm) (by k_asm) (by k_asm) (by k_is) (by k_is) (by k_is) ?_; k_whole; intro x' d' h' F' N' l1 l2; (try k_lt l1); (try k_lt2 l2); (try k_sweep)) | refine wpAny_call ?_); k_dflt (refine' code_def (by k_asm) (by k_asm) (by k_asm) (by k_asm) (by k_asm) (by exact rfl) (by exact rfl) (by first | exact rfl | assumption) (by k_is) (by k_is) (by ktr_room) (by first | exact BindsTo.of_eq rfl | exact binds_K (by k_in) rfl (by k_is) rfl rfl rfl) (by exact locs rfl) ?_ (by exact rfl) (by exact rfl) (by exact rfl) (by decide); k_whole; intro g' L' h' FG' F' N' B' X' T'; (try dsimp only); (try k_lift B'); (try k_fold)))
  k_with "mine call" => ((with_reducible show wpAny _ _ (call (Value.ref 155) _) _ _ _); k_dflt (refine Does.go (by k_asm) (by k_asm) (by k_asm) (by k_asm) (by k_asm) (by first | exact rfl | assumption) (by ktr_room) (by ktr_units) (units_does _ _ _ _ _ _ _ _ _ _ _ _ _ _ _ _  (by assumption) (by k_mem) (by k_mem) (by first | assumption | omega) (by first | assumption | omega)) ?_; (intro r' n' h' tk' F' N' hO'; obtain ⟨hn', t', hr'⟩ := hO'; replace hn' := hn'.symm; subst hn' hr'); (try k_sweep); (try dsimp only); (try k_fold)))
  have hh := hF.hidLe
  have ht := hF.topLe
  have hf1 := hF.hf1
  have hf2 := hF.hf2
  have he1 := hF.he1
  have he2 := hF.he2
  have sp := hF.spanPos
  have g0 := hF.span
  have g1 : b.fmod (2 ^ (e + f).toNat) = b % (hid * (top + 1)) := by rw [g0, fm sp.1]
  have g2 : (2 ^ e.toNat - 1) * 2 ^ f.toNat = top * hid := by rw [← hF.htop, ← hF.hhid]
  have g3 : 0 ≤ b % (hid * (top + 1)) := Int.emod_nonneg _ (Int.ne_of_gt sp.1)
  have g4 := hF.pw
  have g5 := p2pos f.toNat
  have g6 : (2 : Int) ^ f.toNat = hid := hF.hhid.symm
  unfold Does
  k_fill
  intro dp un gd cn cs a ccd cl outer A₀ base h₀ L m s Q E B F X N Tp hk hd hu hret
  refine wpAny_call ?_
  k_dflt ktr_enter
  k_steps
  · exact hret _ news _ _ (by assumption) (by first | assumption | exact cb_drop (by assumption) (fun p hp => by first | exact List.mem_cons_of_mem _ hp | exact List.mem_cons_of_mem _ (List.mem_cons_of_mem _ hp) | exact List.mem_cons_of_mem _ (List.mem_cons_of_mem _ (List.mem_cons_of_mem _ hp)) | exact List.mem_cons_of_mem _ (List.mem_cons_of_mem _ (List.mem_cons_of_mem _ (List.mem_cons_of_mem _ hp))))) ⟨rfl, gv_none (by unfold VS; rw [if_pos (by omega)])⟩
  · exact hret _ news _ _ (by assumption) (by first | assumption | exact cb_drop (by assumption) (fun p hp => by first | exact List.mem_cons_of_mem _ hp | exact List.mem_cons_of_mem _ (List.mem_cons_of_mem _ hp) | exact List.mem_cons_of_mem _ (List.mem_cons_of_mem _ (List.mem_cons_of_mem _ hp)) | exact List.mem_cons_of_mem _ (List.mem_cons_of_mem _ (List.mem_cons_of_mem _ (List.mem_cons_of_mem _ hp))))) ⟨rfl, gv_some (by rw [g1]; unfold VS VU; rw [if_neg (by omega), if_pos (by omega)]; congr 1; omega)⟩
  · exact hret _ news _ _ (by assumption) (by first | assumption | exact cb_drop (by assumption) (fun p hp => by first | exact List.mem_cons_of_mem _ hp | exact List.mem_cons_of_mem _ (List.mem_cons_of_mem _ hp) | exact List.mem_cons_of_mem _ (List.mem_cons_of_mem _ (List.mem_cons_of_mem _ hp)) | exact List.mem_cons_of_mem _ (List.mem_cons_of_mem _ (List.mem_cons_of_mem _ (List.mem_cons_of_mem _ hp))))) ⟨rfl, gv_some (by rw [g1]; unfold VS VU; rw [if_neg (by omega), if_neg (by omega)])⟩
end C7

section C8
set_option maxRecDepth 100000 in
set_option maxHeartbeats 8000000 in
theorem ord_does (w : World) (mean : ExcName → Option Value) (mg mb : Str → Option Value) (x dx : Addr) (e f bias top hid least : Int) (T : FT) (p q : Int) (ta tb : Tok) (news : Led)
    (hF : FormOk e f bias top hid least) (hx : (x, instObj 31 dx) ∈ news) (hdx : (dx, formD w.params e f bias top hid least T) ∈ news) (h0 : 0 ≤ p) (h1 : p < 2 * (hid * (top + 1))) (h2 : 0 ≤ q) (h3 : q < 2 * (hid * (top + 1))) :
    Does w mean mg mb 176 5 [.ref x, .int p ta, .int q tb] news (fun r news' => news' = news ∧ ∃ t, r = optV (cmpS hid top p q) t) := by
  w_top off
  k_with_none
  k_with "mine call" => (k_dflt (first | (refine' call_cls (by k_asm) (by k_asm) (by k_asm) (by k_is) (by k_is) (by k_is) ?_; k_whole; intro x' d' h' F' N' l1 l2; (try k_lt l1); (try k_lt2 l2); (try k_sweep)) | refine wpAny_call ?_); k_dflt (refine' code_def (by k_asm) (by k_asm) (by k_asm) (by k_asm) (by k_asm) (by exact rfl) (by exact rfl) (by first | exact rfl | assumption) (by k_is) (by k_is) (by ktr_room) (by first | exact BindsTo.of_eq rfl | exact binds_K (by k_in) rfl (by k_is) rfl rfl rfl) (by exact locs rfl) ?_ (by exact rfl) (by exact rfl) (by exact rfl) (by decide); k_whole; intro g' L' h' FG' F' N' B' X' T'; (try dsimp only); (try k_lift B'); (try k_fold)))
  k_with "mine call" => ((with_reducible show wpAny _ _ (call (Value.ref 169) _) _ _ _); k_dflt (refine Does.goV (by k_asm) (by k_asm) (by k_asm) (by k_asm) (by k_asm) (by first | exact rfl | assumption) (by ktr_room) (by ktr_units) (val_does _ _ _ _ _ _ _ _ _ _ _ _ _ _ _ _  (by assumption) (by k_mem) (by k_mem) (by first | assumption | omega) (by first | assumption | omega)) ?_ ?_; all_goals (intro v' t' h' tk' ho' F' N'; (try k_sweep); (try dsimp only); (try k_fold))))
  have hh := hF.hidLe
  have ht := hF.topLe
  have hf1 := hF.hf1
  have hf2 := hF.hf2
  have he1 := hF.he1
  have he2 := hF.he2
  have sp := hF.spanPos
  unfold Does
  k_fill
  intro dp un gd cn cs a ccd cl outer A₀ base h₀ L m s Q E B F X N Tp hk hd hu hret
  refine wpAny_call ?_
  k_dflt ktr_enter
  k_steps
  · exact hret _ news _ _ (by assumption) (by first | assumption | exact cb_drop (by assumption) (fun p hp => by first | exact List.mem_cons_of_mem _ hp | exact List.mem_cons_of_mem _ (List.mem_cons_of_mem _ hp) | exact List.mem_cons_of_mem _ (List.mem_cons_of_mem _ (List.mem_cons_of_mem _ hp)) | exact List.mem_cons_of_mem _ (List.mem_cons_of_mem _ (List.mem_cons_of_mem _ (List.mem_cons_of_mem _ hp))))) ⟨rfl, gv_none (cmpS_none (by first | exact Or.inl (by assumption) | exact Or.inr (by assumption)))⟩
  · exact hret _ news _ _ (by assumption) (by first | assumption | exact cb_drop (by assumption) (fun p hp => by first | exact List.mem_cons_of_mem _ hp | exact List.mem_cons_of_mem _ (List.mem_cons_of_mem _ hp) | exact List.mem_cons_of_mem _ (List.mem_cons_of_mem _ (List.mem_cons_of_mem _ hp)) | exact List.mem_cons_of_mem _ (List.mem_cons_of_mem _ (List.mem_cons_of_mem _ (List.mem_cons_of_mem _ hp))))) ⟨rfl, gv_none (cmpS_none (by first | exact Or.inl (by assumption) | exact Or.inr (by assumption)))⟩
  · exact hret _ news _ _ (by assumption) (by first | assumption | exact cb_drop (by assumption) (fun p hp => by first | exact List.mem_cons_of_mem _ hp | exact List.mem_cons_of_mem _ (List.mem_cons_of_mem _ hp) | exact List.mem_cons_of_mem _ (List.mem_cons_of_mem _ (List.mem_cons_of_mem _ hp)) | exact List.mem_cons_of_mem _ (List.mem_cons_of_mem _ (List.mem_cons_of_mem _ (List.mem_cons_of_mem _ hp))))) ⟨rfl, gv_none (cmpS_none (by first | exact Or.inl (by assumption) | exact Or.inr (by assumption)))⟩
  · exact hret _ news _ _ (by assumption) (by first | assumption | exact cb_drop (by assumption) (fun p hp => by first | exact List.mem_cons_of_mem _ hp | exact List.mem_cons_of_mem _ (List.mem_cons_of_mem _ hp) | exact List.mem_cons_of_mem _ (List.mem_cons_of_mem _ (List.mem_cons_of_mem _ hp)) | exact List.mem_cons_of_mem _ (List.mem_cons_of_mem _ (List.mem_cons_of_mem _ (List.mem_cons_of_mem _ hp))))) ⟨rfl, gv_some (cmpS_some (by omega) (Int.emod_nonneg _ (Int.ne_of_gt sp.1)) (Int.emod_nonneg _ (Int.ne_of_gt sp.1)) (by assumption) (by assumption))⟩
end C8

section P3
/-- the floor of the value -/
def FS (hid top least b : Int) : Option Int := if top * hid ≤ b % (hid * (top + 1)) then none else some (VU hid (hid * (top + 1)) b / 2 ^ (0 - least).toNat)
theorem fl_ge {m least E : Int} (hl : least ≤ 0) (h0 : 0 ≤ least + E - 1) : m * 2 ^ (least + E - 1).toNat = (m * 2 ^ (E - 1).toNat) / 2 ^ (0 - least).toNat := by
  have e : (E - 1).toNat = (least + E - 1).toNat + (0 - least).toNat := by omega
  rw [e, Int.pow_add, ← Int.mul_assoc, Int.mul_ediv_cancel _ (Int.ne_of_gt (p2pos _))]
theorem fl_lt {m least E : Int} (h1 : 1 ≤ E) (h0 : least + E - 1 < 0) : m.fdiv (2 ^ (0 - (least + E - 1)).toNat) = (m * 2 ^ (E - 1).toNat) / 2 ^ (0 - least).toNat := by
  have e : (0 - least).toNat = (0 - (least + E - 1)).toNat + (E - 1).toNat := by omega
  rw [e, Int.pow_add, Int.mul_ediv_mul_of_pos_left _ _ (p2pos _), fd (p2pos _)]
section
variable {e f bias top hid least : Int}
theorem FormOk.leastLe (h : FormOk e f bias top hid least) : least ≤ -1 ∧ -150 ≤ least := by
  have h1 := h.he1
  have h2 := h.he2
  have h3 := h.hf1
  have h4 := h.hf2
  have a : (2 : Int) ^ 1 ≤ 2 ^ (e - 1).toNat := p2le (by omega)
  have b : (2 : Int) ^ (e - 1).toNat ≤ 2 ^ 7 := p2le (by omega)
  have c := h.hbias
  have d := h.hleast
  have a' : (2 : Int) ≤ 2 ^ (e - 1).toNat := a
  have b' : (2 : Int) ^ (e - 1).toNat ≤ 128 := b
  omega
theorem FormOk.vu (h : FormOk e f bias top hid least) (b : Int) : VU hid (hid * (top + 1)) b = (if hid * (top + 1) ≤ b then 0 - (if (b / hid) % (top + 1) = 0 then b % hid else hid + b % hid) else (if (b / hid) % (top + 1) = 0 then b % hid else hid + b % hid)) * 2 ^ ((b / hid) % (top + 1) - 1).toNat := by
  obtain ⟨_, _, _, _, q5, q6, q7, q8, q9⟩ := h.fields b
  have hh := h.hidLe
  unfold VU
  rw [q5, U_mk (by omega) q8 q9]
  generalize (b / hid) % (top + 1) = E at *
  generalize b % hid = G at *
  have z : ∀ y : Int, 0 - y = -y := fun y => by omega
  by_cases h0 : E = 0
  · subst h0
    simp only [if_true, z]
    split <;> simp
  · rw [if_neg h0, if_neg h0, z]
    split
    · rw [Int.neg_mul]
    · rfl
theorem FormOk.FS_none (_h : FormOk e f bias top hid least) {b : Int} (hn : b % (hid * (top + 1)) = top * hid ∨ top * hid < b % (hid * (top + 1))) : FS hid top least b = none := by
  unfold FS
  rw [if_pos (by omega)]
theorem FormOk.FS_z (h : FormOk e f bias top hid least) {b x : Int} (h1 : ¬ b % (hid * (top + 1)) = top * hid) (h2 : ¬ top * hid < b % (hid * (top + 1))) (h3 : (b / hid) % (top + 1) = 0)
    (hx : (if hid * (top + 1) ≤ b then 0 - b % hid else b % hid).fdiv (2 ^ (0 - least).toNat) = x) : FS hid top least b = some x := by
  unfold FS
  rw [if_neg (by omega), h.vu b, if_pos h3, h3, ← hx, fd (p2pos _)]
  congr 2
  have : ((0 : Int) - 1).toNat = 0 := by decide
  rw [this]; simp
theorem FormOk.FS_lt (h : FormOk e f bias top hid least) {b x : Int} (h1 : ¬ b % (hid * (top + 1)) = top * hid) (h2 : ¬ top * hid < b % (hid * (top + 1))) (h3 : (b / hid) % (top + 1) ≠ 0) (h4 : ¬ 0 ≤ least + (b / hid) % (top + 1) - 1)
    (hx : (if hid * (top + 1) ≤ b then 0 - (hid + b % hid) else hid + b % hid).fdiv (2 ^ (0 - (least + (b / hid) % (top + 1) - 1)).toNat) = x) : FS hid top least b = some x := by
  obtain ⟨_, _, _, _, q5, q6, q7, q8, q9⟩ := h.fields b
  unfold FS
  rw [if_neg (by omega), h.vu b, if_neg h3, ← hx, fl_lt (by omega) (by omega)]
theorem FormOk.FS_ge (h : FormOk e f bias top hid least) {b x : Int} (h1 : ¬ b % (hid * (top + 1)) = top * hid) (h2 : ¬ top * hid < b % (hid * (top + 1))) (h3 : (b / hid) % (top + 1) ≠ 0) (h4 : 0 ≤ least + (b / hid) % (top + 1) - 1)
    (hx : (if hid * (top + 1) ≤ b then 0 - (hid + b % hid) else hid + b % hid) * 2 ^ (least + (b / hid) % (top + 1) - 1).toNat = x) : FS hid top least b = some x := by
  have hl := h.leastLe
  unfold FS
  rw [if_neg (by omega), h.vu b, if_neg h3, ← hx, fl_ge (by omega) h4]
theorem U_top (h : FormOk e f bias top hid least) {s : Int} (h0 : 0 ≤ s) (h1 : s ≤ top * hid) : 0 ≤ U hid s ∧ U hid s ≤ 2 ^ 300 := by
  have hh := h.hidLe
  have ht := h.topLe
  have q : (0 : Int) < hid := by omega
  refine ⟨U_nn q h0, Int.le_trans (U_le q h0 h1) ?_⟩
  have e1 : top * hid = top * hid + 0 := by omega
  rw [e1, U_mk q (Int.le_refl _) q, if_neg (by omega), Int.add_zero]
  have a : (2 : Int) ^ (top - 1).toNat ≤ 2 ^ 254 := p2le (by omega)
  have b := Int.mul_le_mul hh.2 a (Int.le_of_lt (p2pos _)) (by omega)
  refine Int.le_trans b ?_
  decide
theorem VS_bits (h : FormOk e f bias top hid least) {b v : Int} (hv : VS hid top b = some v) : Builtin.Int.intBits v ≤ 400 := by
  have sp := h.spanPos
  have g3 : 0 ≤ b % (hid * (top + 1)) := Int.emod_nonneg _ (Int.ne_of_gt sp.1)
  unfold VS at hv
  split at hv
  · cases hv
  cases hv
  have u := U_top h g3 (by omega)
  refine intBits_le_iff.mpr ?_
  unfold VU
  have c : (2 : Int) ^ 300 = ((2 ^ 300 : Nat) : Int) := by decide
  have d : 2 ^ 300 < 2 ^ 400 := by decide
  rw [c] at u
  generalize U hid (b % (hid * (top + 1))) = y at *
  generalize 2 ^ 300 = z at *
  split <;> omega
end
theorem lfl_pos {v s x : Int} (hs : 0 < s) (hv : ¬ v < 0) (hx : (if v < 0 then -v else v).fdiv s = x) : v / s = x := by
  rw [← hx, if_neg hv, fd hs]
theorem lfl_neg {v s : Int} (hs : 0 < s) (hv : v < 0) : v / s = 0 - (if v < 0 then -v else v).fdiv s - (if (if v < 0 then -v else v).fdiv s * s < (if v < 0 then -v else v) then 1 else 0) := by
  rw [if_pos hv, fd hs]
  have e1 := Int.emod_add_mul_ediv (-v) s
  have h1 := Int.emod_nonneg (-v) (Int.ne_of_gt hs)
  have h2 := Int.emod_lt_of_pos (-v) hs
  generalize hq : -v / s = q at *
  generalize hr : -v % s = r at *
  rw [Int.mul_comm q s]
  split
  · refine (kbt_unique (r := s - r) hs ?_ (by omega) (by omega)).1
    rw [Int.mul_sub, Int.mul_sub, Int.mul_one, Int.mul_zero]
    omega
  · refine (kbt_unique (r := 0) hs ?_ (by omega) (by omega)).1
    rw [Int.mul_sub, Int.mul_sub, Int.mul_zero]
    omega
theorem FS_of_none {hid top least b : Int} (h : VS hid top b = none) : FS hid top least b = none := by
  unfold VS at h
  unfold FS
  split at h
  · rw [if_pos (by omega)]
  · cases h
theorem FS_of_inf {hid top least b : Int} (h : b % (hid * (top + 1)) = top * hid) : FS hid top least b = none := by
  unfold FS
  rw [if_pos (by omega)]
theorem FS_of_some {hid top least b v x : Int} (h : VS hid top b = some v) (hn : b % (hid * (top + 1)) ≠ top * hid) (hx : v / 2 ^ (0 - least).toNat = x) : FS hid top least b = some x := by
  unfold VS at h
  unfold FS
  split at h
  · cases h
  · cases h
    rw [if_neg (by omega), hx]
theorem lfl_neg1 {v s : Int} (hs : 0 < s) (hv : v < 0) (hc : (if v < 0 then -v else v).fdiv s * s < (if v < 0 then -v else v)) : v / s = 0 - (if v < 0 then -v else v).fdiv s - 1 := by
  rw [lfl_neg hs hv, if_pos hc]
theorem lfl_neg0 {v s : Int} (hs : 0 < s) (hv : v < 0) (hc : ¬ (if v < 0 then -v else v).fdiv s * s < (if v < 0 then -v else v)) : v / s = 0 - (if v < 0 then -v else v).fdiv s - 0 := by
  rw [lfl_neg hs hv, if_neg hc]
end P3

section C9
set_option maxRecDepth 100000 in
set_option maxHeartbeats 8000000 in
theorem floor_does (w : World) (mean : ExcName → Option Value) (mg mb : Str → Option Value) (x dx : Addr) (e f bias top hid least : Int) (T : FT) (b : Int) (tb : Tok) (news : Led)
    (hF : FormOk e f bias top hid least) (hx : (x, instObj 31 dx) ∈ news) (hdx : (dx, formD w.params e f bias top hid least T) ∈ news) (h0 : 0 ≤ b) (h1 : b < 2 * (hid * (top + 1))) :
    Does w mean mg mb 134 4 [.ref x, .int b tb] news (fun r news' => news' = news ∧ ∃ t, r = optV (FS hid top least b) t) := by
  w_top off
  k_with_none
  k_with "mine call" => (k_dflt (first | (refine' call_cls (by k_asm) (by k_asm) (by k_asm) (by k_is) (by k_is) (by k_is) ?_; k_whole; intro x' d' h' F' N' l1 l2; (try k_lt l1); (try k_lt2 l2); (try k_sweep)) | refine wpAny_call ?_); k_dflt (refine' code_def (by k_asm) (by k_asm) (by k_asm) (by k_asm) (by k_asm) (by exact rfl) (by exact rfl) (by first | exact rfl | assumption) (by k_is) (by k_is) (by ktr_room) (by first | exact BindsTo.of_eq rfl | exact binds_K (by k_in) rfl (by k_is) rfl rfl rfl) (by exact locs rfl) ?_ (by exact rfl) (by exact rfl) (by exact rfl) (by decide); k_whole; intro g' L' h' FG' F' N' B' X' T'; (try dsimp only); (try k_lift B'); (try k_fold)))
  k_with "mine call" => ((with_reducible show wpAny _ _ (call (Value.ref 49) _) _ _ _); k_dflt (refine Does.go (by k_asm) (by k_asm) (by k_asm) (by k_asm) (by k_asm) (by first | exact rfl | assumption) (by first | exact Nat.le_of_ble_eq_true rfl | ktr_room) (by first | exact Nat.le_of_ble_eq_true rfl | ktr_units) (split_does _ _ _ _ _ _ _ _ _ _ _ _ _ _ _ _ (by assumption) (by k_mem) (by k_mem)) ?_; (intro r' n' h' tk' F' N' hO'; obtain ⟨y', t1', t2', t3', hr', hn', l1'⟩ := hO'; subst hr' hn'); (try k_lt l1'); (try k_sweep); (try dsimp only); (try k_fold)))
  k_with "mine call" => ((with_reducible show wpAny _ _ (call (Value.ref 70) _) _ _ _); k_dflt (refine Does.go (by k_asm) (by k_asm) (by k_asm) (by k_asm) (by k_asm) (by first | exact rfl | assumption) (by ktr_room) (by ktr_units) (nan_does _ _ _ _ _ _ _ _ _ _ _ _ _ _ _ _  (by assumption) (by k_mem) (by k_mem) (by first | assumption | omega) (by first | assumption | omega)) ?_; (intro r' n' h' tk' F' N' hO'; obtain ⟨hn', hr'⟩ := hO'; replace hn' := hn'.symm; subst hn' hr'); (try k_sweep); (try dsimp only); (try k_fold)))
  k_with "mine call" => ((with_reducible show wpAny _ _ (call (Value.ref 77) _) _ _ _); k_dflt (refine Does.go (by k_asm) (by k_asm) (by k_asm) (by k_asm) (by k_asm) (by first | exact rfl | assumption) (by ktr_room) (by ktr_units) (inf_does _ _ _ _ _ _ _ _ _ _ _ _ _ _ _ _  (by assumption) (by k_mem) (by k_mem) (by first | assumption | omega) (by first | assumption | omega)) ?_; (intro r' n' h' tk' F' N' hO'; obtain ⟨hn', hr'⟩ := hO'; replace hn' := hn'.symm; subst hn' hr'); (try k_sweep); (try dsimp only); (try k_fold)))
  have hh := hF.hidLe
  have ht := hF.topLe
  have hf1 := hF.hf1
  have hf2 := hF.hf2
  have he1 := hF.he1
  have he2 := hF.he2
  have sp := hF.spanPos
  obtain ⟨f1, f2, f3, f4, f5, f6, f7, f8, f9⟩ := hF.fields b
  have hl := hF.leastLe
  have fs : ((b.fdiv hid).fdiv (2 ^ e.toNat) = 1) ↔ hid * (top + 1) ≤ b := by rw [f2, hF.sgn h0 h1]; split <;> simp [*]
  unfold Does
  k_fill
  intro dp un gd cn cs a ccd cl outer A₀ base h₀ L m s Q E B F X N Tp hk hd hu hret
  refine wpAny_call ?_
  k_dflt ktr_enter
  k_steps
  · exact hret _ news _ _ (by assumption) (by first | assumption | exact cb_drop (by assumption) (fun p hp => by first | exact List.mem_cons_of_mem _ hp | exact List.mem_cons_of_mem _ (List.mem_cons_of_mem _ hp) | exact List.mem_cons_of_mem _ (List.mem_cons_of_mem _ (List.mem_cons_of_mem _ hp)) | exact List.mem_cons_of_mem _ (List.mem_cons_of_mem _ (List.mem_cons_of_mem _ (List.mem_cons_of_mem _ hp))))) ⟨rfl, gv_none (hF.FS_none (Or.inl (by assumption)))⟩
  · exact hret _ news _ _ (by assumption) (by first | assumption | exact cb_drop (by assumption) (fun p hp => by first | exact List.mem_cons_of_mem _ hp | exact List.mem_cons_of_mem _ (List.mem_cons_of_mem _ hp) | exact List.mem_cons_of_mem _ (List.mem_cons_of_mem _ (List.mem_cons_of_mem _ hp)) | exact List.mem_cons_of_mem _ (List.mem_cons_of_mem _ (List.mem_cons_of_mem _ (List.mem_cons_of_mem _ hp))))) ⟨rfl, gv_none (hF.FS_none (Or.inr (by assumption)))⟩
  · exact hret _ news _ _ (by assumption) (by first | assumption | exact cb_drop (by assumption) (fun p hp => by first | exact List.mem_cons_of_mem _ hp | exact List.mem_cons_of_mem _ (List.mem_cons_of_mem _ hp) | exact List.mem_cons_of_mem _ (List.mem_cons_of_mem _ (List.mem_cons_of_mem _ hp)) | exact List.mem_cons_of_mem _ (List.mem_cons_of_mem _ (List.mem_cons_of_mem _ (List.mem_cons_of_mem _ hp))))) ⟨rfl, gv_some (hF.FS_z (by assumption) (by assumption) (by rw [← f1]; assumption) (by rw [if_pos (fs.mp (by assumption)), f3]))⟩
  · exact hret _ news _ _ (by assumption) (by first | assumption | exact cb_drop (by assumption) (fun p hp => by first | exact List.mem_cons_of_mem _ hp | exact List.mem_cons_of_mem _ (List.mem_cons_of_mem _ hp) | exact List.mem_cons_of_mem _ (List.mem_cons_of_mem _ (List.mem_cons_of_mem _ hp)) | exact List.mem_cons_of_mem _ (List.mem_cons_of_mem _ (List.mem_cons_of_mem _ (List.mem_cons_of_mem _ hp))))) ⟨rfl, gv_some (hF.FS_z (by assumption) (by assumption) (by rw [← f1]; assumption) (by rw [if_neg (fun hn9 => absurd (fs.mpr hn9) (by assumption)), f3]))⟩
  · exact hret _ news _ _ (by assumption) (by first | assumption | exact cb_drop (by assumption) (fun p hp => by first | exact List.mem_cons_of_mem _ hp | exact List.mem_cons_of_mem _ (List.mem_cons_of_mem _ hp) | exact List.mem_cons_of_mem _ (List.mem_cons_of_mem _ (List.mem_cons_of_mem _ hp)) | exact List.mem_cons_of_mem _ (List.mem_cons_of_mem _ (List.mem_cons_of_mem _ (List.mem_cons_of_mem _ hp))))) ⟨rfl, gv_some (hF.FS_ge (by assumption) (by assumption) (by rw [← f1]; assumption) (by rw [← f1]; assumption) (by rw [if_pos (fs.mp (by assumption)), f1, f3]))⟩
  · exact hret _ news _ _ (by assumption) (by first | assumption | exact cb_drop (by assumption) (fun p hp => by first | exact List.mem_cons_of_mem _ hp | exact List.mem_cons_of_mem _ (List.mem_cons_of_mem _ hp) | exact List.mem_cons_of_mem _ (List.mem_cons_of_mem _ (List.mem_cons_of_mem _ hp)) | exact List.mem_cons_of_mem _ (List.mem_cons_of_mem _ (List.mem_cons_of_mem _ (List.mem_cons_of_mem _ hp))))) ⟨rfl, gv_some (hF.FS_lt (by assumption) (by assumption) (by rw [← f1]; assumption) (by rw [← f1]; assumption) (by rw [if_pos (fs.mp (by assumption)), f1, f3]))⟩
  · exact hret _ news _ _ (by assumption) (by first | assumption | exact cb_drop (by assumption) (fun p hp => by first | exact List.mem_cons_of_mem _ hp | exact List.mem_cons_of_mem _ (List.mem_cons_of_mem _ hp) | exact List.mem_cons_of_mem _ (List.mem_cons_of_mem _ (List.mem_cons_of_mem _ hp)) | exact List.mem_cons_of_mem _ (List.mem_cons_of_mem _ (List.mem_cons_of_mem _ (List.mem_cons_of_mem _ hp))))) ⟨rfl, gv_some (hF.FS_ge (by assumption) (by assumption) (by rw [← f1]; assumption) (by rw [← f1]; assumption) (by rw [if_neg (fun hn9 => absurd (fs.mpr hn9) (by assumption)), f1, f3]))⟩
  · exact hret _ news _ _ (by assumption) (by first | assumption | exact cb_drop (by assumption) (fun p hp => by first | exact List.mem_cons_of_mem _ hp | exact List.mem_cons_of_mem _ (List.mem_cons_of_mem _ hp) | exact List.mem_cons_of_mem _ (List.mem_cons_of_mem _ (List.mem_cons_of_mem _ hp)) | exact List.mem_cons_of_mem _ (List.mem_cons_of_mem _ (List.mem_cons_of_mem _ (List.mem_cons_of_mem _ hp))))) ⟨rfl, gv_some (hF.FS_lt (by assumption) (by assumption) (by rw [← f1]; assumption) (by rw [← f1]; assumption) (by rw [if_neg (fun hn9 => absurd (fs.mpr hn9) (by assumption)), f1, f3]))⟩
end C9

section C10
local macro_rules | `(tactic| walk_at "pad") => `(tactic| skip)
local macro_rules | `(tactic| bits_by_make) => `(tactic| assumption)
set_option maxRecDepth 100000 in
set_option maxHeartbeats 8000000 in
theorem lfl_does (w : World) (mean : ExcName → Option Value) (mg mb : Str → Option Value) (x dx : Addr) (e f bias top hid least : Int) (T : FT) (b : Int) (tb : Tok) (news : Led)
    (hF : FormOk e f bias top hid least) (hx : (x, instObj 31 dx) ∈ news) (hdx : (dx, formD w.params e f bias top hid least T) ∈ news) (h0 : 0 ≤ b) (h1 : b < 2 * (hid * (top + 1))) :
    Does w mean mg mb 183 5 [.ref x, .int b tb] news (fun r news' => news' = news ∧ ∃ t, r = optV (FS hid top least b) t) := by
  w_top off
  k_with_none
  k_with "mine call" => (k_dflt (first | (refine' call_cls (by k_asm) (by k_asm) (by k_asm) (by k_is) (by k_is) (by k_is) ?_; k_whole; intro x' d' h' F' N' l1 l2; (try k_lt l1); (try k_lt2 l2); (try k_sweep)) | refine wpAny_call ?_); k_dflt (refine' code_def (by k_asm) (by k_asm) (by k_asm) (by k_asm) (by k_asm) (by exact rfl) (by exact rfl) (by first | exact rfl | assumption) (by k_is) (by k_is) (by ktr_room) (by first | exact BindsTo.of_eq rfl | exact binds_K (by k_in) rfl (by k_is) rfl rfl rfl) (by exact locs rfl) ?_ (by exact rfl) (by exact rfl) (by exact rfl) (by decide); k_whole; intro g' L' h' FG' F' N' B' X' T'; (try dsimp only); (try k_lift B'); (try k_fold)))
  k_with "mine call" => ((with_reducible show wpAny _ _ (call (Value.ref 169) _) _ _ _); k_dflt (refine Does.goV (by k_asm) (by k_asm) (by k_asm) (by k_asm) (by k_asm) (by first | exact rfl | assumption) (by ktr_room) (by ktr_units) (val_does _ _ _ _ _ _ _ _ _ _ _ _ _ _ _ _  (by assumption) (by k_mem) (by k_mem) (by first | assumption | omega) (by first | assumption | omega)) ?_ ?_; all_goals (intro v' t' h' tk' ho' F' N'; (try have hb' := VS_bits (by assumption) ho'); (try k_sweep); (try dsimp only); (try k_fold))))
  have hh := hF.hidLe
  have ht := hF.topLe
  have hf1 := hF.hf1
  have hf2 := hF.hf2
  have he1 := hF.he1
  have he2 := hF.he2
  have sp := hF.spanPos
  have g0 := hF.span
  have g1 : b.fmod (2 ^ (e + f).toNat) = b % (hid * (top + 1)) := by rw [g0, fm sp.1]
  have g2 : (2 ^ e.toNat - 1) * 2 ^ f.toNat = top * hid := by rw [← hF.htop, ← hF.hhid]
  have g4 := hF.pw
  have g5 := p2pos f.toNat
  have g6 : (2 : Int) ^ f.toNat = hid := hF.hhid.symm
  have g7 := p2pos (0 - least).toNat
  have hl := hF.leastLe
  unfold Does
  k_fill
  intro dp un gd cn cs a ccd cl outer A₀ base h₀ L m s Q E B F X N Tp hk hd hu hret
  refine wpAny_call ?_
  k_dflt ktr_enter
  k_steps
  · exact hret _ news _ _ (by assumption) (by first | assumption | exact cb_drop (by assumption) (fun p hp => by first | exact List.mem_cons_of_mem _ hp | exact List.mem_cons_of_mem _ (List.mem_cons_of_mem _ hp) | exact List.mem_cons_of_mem _ (List.mem_cons_of_mem _ (List.mem_cons_of_mem _ hp)) | exact List.mem_cons_of_mem _ (List.mem_cons_of_mem _ (List.mem_cons_of_mem _ (List.mem_cons_of_mem _ hp))))) ⟨rfl, gv_none (FS_of_none (by assumption))⟩
  · exact hret _ news _ _ (by assumption) (by first | assumption | exact cb_drop (by assumption) (fun p hp => by first | exact List.mem_cons_of_mem _ hp | exact List.mem_cons_of_mem _ (List.mem_cons_of_mem _ hp) | exact List.mem_cons_of_mem _ (List.mem_cons_of_mem _ (List.mem_cons_of_mem _ hp)) | exact List.mem_cons_of_mem _ (List.mem_cons_of_mem _ (List.mem_cons_of_mem _ (List.mem_cons_of_mem _ hp))))) ⟨rfl, gv_none (FS_of_inf (by rw [← g1, ← g2]; assumption))⟩
  · exact hret _ news _ _ (by assumption) (by first | assumption | exact cb_drop (by assumption) (fun p hp => by first | exact List.mem_cons_of_mem _ hp | exact List.mem_cons_of_mem _ (List.mem_cons_of_mem _ hp) | exact List.mem_cons_of_mem _ (List.mem_cons_of_mem _ (List.mem_cons_of_mem _ hp)) | exact List.mem_cons_of_mem _ (List.mem_cons_of_mem _ (List.mem_cons_of_mem _ (List.mem_cons_of_mem _ hp))))) ⟨rfl, gv_some (FS_of_some (by assumption) (by rw [← g1, ← g2]; assumption) (lfl_neg1 g7 (by assumption) (by assumption)))⟩
  · exact hret _ news _ _ (by assumption) (by first | assumption | exact cb_drop (by assumption) (fun p hp => by first | exact List.mem_cons_of_mem _ hp | exact List.mem_cons_of_mem _ (List.mem_cons_of_mem _ hp) | exact List.mem_cons_of_mem _ (List.mem_cons_of_mem _ (List.mem_cons_of_mem _ hp)) | exact List.mem_cons_of_mem _ (List.mem_cons_of_mem _ (List.mem_cons_of_mem _ (List.mem_cons_of_mem _ hp))))) ⟨rfl, gv_some (FS_of_some (by assumption) (by rw [← g1, ← g2]; assumption) (lfl_neg0 g7 (by assumption) (by assumption)))⟩
  · exact hret _ news _ _ (by assumption) (by first | assumption | exact cb_drop (by assumption) (fun p hp => by first | exact List.mem_cons_of_mem _ hp | exact List.mem_cons_of_mem _ (List.mem_cons_of_mem _ hp) | exact List.mem_cons_of_mem _ (List.mem_cons_of_mem _ (List.mem_cons_of_mem _ hp)) | exact List.mem_cons_of_mem _ (List.mem_cons_of_mem _ (List.mem_cons_of_mem _ (List.mem_cons_of_mem _ hp))))) ⟨rfl, gv_some (FS_of_some (by assumption) (by rw [← g1, ← g2]; assumption) (lfl_pos g7 (by assumption) rfl))⟩
end C10

section P4
/-- the distance, as the walk reckons it -/
abbrev AW (hid over s : Int) : Int := if U hid s * 1 - over < 0 then -(U hid s * 1 - over) else U hid s * 1 - over
structure Near (hid top size over : Int) : Prop where
  lo : 0 ≤ size - 1 → ¬ (AW hid over (size - 1) < AW hid over size) ∧ (AW hid over (size - 1) = AW hid over size → size.fmod 2 ≠ 1)
  hi : size + 1 ≤ top * hid → ¬ (AW hid over (size + 1) < AW hid over size) ∧ (AW hid over (size + 1) = AW hid over size → size.fmod 2 ≠ 1)
end P4

section I1
/-- a turn's end: the ledger as it was, the frame by J -/
def JI (s : Shared) (h₀ : Heap) (L : Addr) (led : Led) (J : (Str → Option Value) → Prop) (fl : Flow) (s' : Shared) : Prop :=
  fl = .next ∧ ∃ (m' : Str → Option Value) (h' : Heap) (tk' : Nat), s' = { s with heap := h', toks := tk' } ∧ Fr h₀ L h' m' ∧ News h₀ L h' led ∧ J m'
theorem items_indV {prog : Program} {w : World} {A : Around} {E : Value → Shared → Prop} {s : Shared} {env : Env} {h₀ : Heap} {target : PySem.Expr} {body : List Stmt} {Q : Flow → Shared → Prop}
    {I : Addr} {keep news : Led} (P : Value → Prop) (J : (Str → Option Value) → Prop) (hk : SubL keep news) (off : ∀ p ∈ news, p.1 < I)
    (turn : ∀ v m₁ h tk (it : Obj), it.cls = .type "tuple_iterator" → P v → J m₁ → Fr h₀ env.locals h m₁ → News h₀ env.locals h ((I, it) :: news) →
      wpAny (model prog w) A (assign target env v) (fun _ s₂ => wpAny (model prog w) A (execs body env) (JI s h₀ env.locals ((I, it) :: news) J) E s₂) E { s with heap := h, toks := tk })
    (done : ∀ m₁ h tk, J m₁ → Fr h₀ env.locals h m₁ → News h₀ env.locals h news → Q .next { s with heap := h, toks := tk }) :
    ∀ (xs : List Value), (∀ x ∈ xs, P x) → ∀ m₁, J m₁ → ItemsRest prog w A E h₀ env target body Q s [(I, "tuple_iterator")] keep (xs.map .val) m₁ news := by
  intro xs
  induction xs with
  | nil => intro _ m₁ hJ; exact ItemsRest.zero fun h tk F N => done m₁ h tk hJ F N
  | cons x r ih =>
    intro hP m₁ hJ
    refine ItemsRest.val fun h tk F => AllObj.cons fun it hc => AllObj.nil fun N => ?_
    refine wpAny_mono (turn x m₁ h tk it hc (hP x (List.mem_cons_self ..)) hJ F N) (fun _ s₂ h₂ => wpAny_mono h₂ (fun fl s₃ h₃ => ?_) fun _ _ e => e) fun _ _ e => e
    obtain ⟨rfl, m', h', tk', rfl, F', N', J'⟩ := h₃
    refine ⟨h', tk', m', news, rfl, F', N', fun p hp q hq e => ?_, hk, ih (fun y hy => hP y (List.mem_cons_of_mem _ hy)) m' J'⟩
    rw [List.mem_singleton.mp hq] at e
    exact absurd (off p hp) (by rw [e]; exact Nat.lt_irrefl _)
section
variable {prog : Program} {w : World} {A : Around} {E : Value → Shared → Prop} {s : Shared} {env : Env} {h₀ : Heap} {target : PySem.Expr} {body : List Stmt} {Q : Flow → Shared → Prop}
theorem items_ind {I : Addr} {keep news : Led} (P : Int → Prop) (J : (Str → Option Value) → Prop) (hk : SubL keep news) (off : ∀ p ∈ news, p.1 < I)
    (turn : ∀ v t m₁ h tk (it : Obj), it.cls = .type "tuple_iterator" → P v → J m₁ → Fr h₀ env.locals h m₁ → News h₀ env.locals h ((I, it) :: news) →
      wpAny (model prog w) A (assign target env (.int v t)) (fun _ s₂ => wpAny (model prog w) A (execs body env) (JI s h₀ env.locals ((I, it) :: news) J) E s₂) E { s with heap := h, toks := tk })
    (done : ∀ m₁ h tk, J m₁ → Fr h₀ env.locals h m₁ → News h₀ env.locals h news → Q .next { s with heap := h, toks := tk }) :
    ∀ (xs : List (Int × Tok)), (∀ x ∈ xs, P x.1) → ∀ m₁, J m₁ → ItemsRest prog w A E h₀ env target body Q s [(I, "tuple_iterator")] keep (xs.map fun x => Itm.val (.int x.1 x.2)) m₁ news := by
  intro xs
  induction xs with
  | nil => intro _ m₁ hJ; exact ItemsRest.zero fun h tk F N => done m₁ h tk hJ F N
  | cons x r ih =>
    intro hP m₁ hJ
    refine ItemsRest.val fun h tk F => AllObj.cons fun it hc => AllObj.nil fun N => ?_
    refine wpAny_mono (turn x.1 x.2 m₁ h tk it hc (hP x (List.mem_cons_self ..)) hJ F N) (fun _ s₂ h₂ => wpAny_mono h₂ (fun fl s₃ h₃ => ?_) fun _ _ e => e) fun _ _ e => e
    obtain ⟨rfl, m', h', tk', rfl, F', N', J'⟩ := h₃
    refine ⟨h', tk', m', news, rfl, F', N', fun p hp q hq e => ?_, hk, ih (fun y hy => hP y (List.mem_cons_of_mem _ hy)) m' J'⟩
    rw [List.mem_singleton.mp hq] at e
    exact absurd (off p hp) (by rw [e]; exact Nat.lt_irrefl _)
end
/-- the loop's stored names apart, the frame is as it was -/
def JM (m : Str → Option Value) (P : Str → Prop) (m' : Str → Option Value) : Prop := ∀ y, P y → m' y = m y
theorem JM.rfl {m : Str → Option Value} {P : Str → Prop} : JM m P m := fun _ _ => Eq.refl _
theorem fr_w2 {g : Heap} {L : Addr} {h : Heap} {m m' : Str → Option Value} {a b : Str} (F : Fr g L h m') (e : ∀ y, y ≠ a ∧ y ≠ b → m' y = m y) : Fr g L h (fun y => if y = a then m' a else if y = b then m' b else m y) := by
  have q : (fun y => if y = a then m' a else if y = b then m' b else m y) = m' := by
    funext y
    by_cases h1 : y = a
    · rw [if_pos h1, h1]
    · rw [if_neg h1]
      by_cases h2 : y = b
      · rw [if_pos h2, h2]
      · rw [if_neg h2, e y ⟨h1, h2⟩]
  rw [q]
  exact F
/-- loop over two written ints -/
theorem iter_two {prog : Program} {w : World} {A : Around} {E : Value → Shared → Prop} {s : Shared} {env : Env} {h₀ : Heap} {target : PySem.Expr} {body : List Stmt} {Q : Flow → Shared → Prop}
    {ax : Addr} {a1 a2 : Int} {t1 t2 : Tok} {m₀ : Str → Option Value} {news : Led} (P : Int → Prop) (R : Str → Prop)
    (hh : A.handled = none) (F : Fr h₀ env.locals s.heap m₀) (N : News h₀ env.locals s.heap news) (hm : (ax, ({ cls := .type "tuple", data := .seq #[.int a1 t1, .int a2 t2] } : Obj)) ∈ news)
    (hP1 : P a1) (hP2 : P a2)
    (turn : ∀ I v t m₁ h tk (it : Obj), (∀ p ∈ news, p.1 < I) → it.cls = .type "tuple_iterator" → P v → (∀ y, R y → m₁ y = m₀ y) → Fr h₀ env.locals h m₁ → News h₀ env.locals h ((I, it) :: news) →
      wpAny (model prog w) A (assign target env (.int v t)) (fun _ s₂ => wpAny (model prog w) A (execs body env) (JI s h₀ env.locals ((I, it) :: news) (JM m₀ R)) E s₂) E { s with heap := h, toks := tk })
    (done : ∀ m₁ h tk, (∀ y, R y → m₁ y = m₀ y) → Fr h₀ env.locals h m₁ → News h₀ env.locals h news → Q .next { s with heap := h, toks := tk }) :
    wpAny (model prog w) A (pyIter (.ref ax)) (fun it s₂ => TurnsAt prog w A h₀ env target body Q E it s₂) E s :=
  iter_tupTurns (vs := [.int a1 t1, .int a2 t2]) hh F N hm rfl rfl fun I l1 =>
    items_ind (keep := [(ax, ({ cls := .type "tuple", data := .seq #[.int a1 t1, .int a2 t2] } : Obj))]) (news := news) P (JM m₀ R) (And.intro hm trivial) l1 (fun v t m₁ h tk it => turn I v t m₁ h tk it l1) done [(a1, t1), (a2, t2)]
      (by
        intro x hx
        rcases List.mem_cons.mp hx with rfl | hx
        · exact hP1
        rw [List.mem_singleton.mp hx]; exact hP2) m₀ JM.rfl
end I1

section C11
set_option maxRecDepth 100000 in
set_option maxHeartbeats 8000000 in
theorem near_does (w : World) (mean : ExcName → Option Value) (mg mb : Str → Option Value) (x dx : Addr) (e f bias top hid least : Int) (T : FT) (size over : Int) (ts to tu : Tok) (news : Led)
    (hF : FormOk e f bias top hid least) (hx : (x, instObj 31 dx) ∈ news) (hdx : (dx, formD w.params e f bias top hid least T) ∈ news) (h0 : 0 ≤ size) (h1x : size ≤ top * hid) (hN : Near hid top size over) :
    Does w mean mg mb 162 2 [.ref x, .int size ts, .int over to, .int 1 tu] news (fun r news' => news' = news ∧ r = .bool true) := by
  w_top off
  k_with_none
  k_with "mine call" => (k_dflt (first | (refine' call_cls (by k_asm) (by k_asm) (by k_asm) (by k_is) (by k_is) (by k_is) ?_; k_whole; intro x' d' h' F' N' l1 l2; (try k_lt l1); (try k_lt2 l2); (try k_sweep)) | refine wpAny_call ?_); k_dflt (refine' code_def (by k_asm) (by k_asm) (by k_asm) (by k_asm) (by k_asm) (by exact rfl) (by exact rfl) (by first | exact rfl | assumption) (by k_is) (by k_is) (by ktr_room) (by first | exact BindsTo.of_eq rfl | exact binds_K (by k_in) rfl (by k_is) rfl rfl rfl) (by exact locs rfl) ?_ (by exact rfl) (by exact rfl) (by exact rfl) (by decide); k_whole; intro g' L' h' FG' F' N' B' X' T'; (try dsimp only); (try k_lift B'); (try k_fold)))
  k_with "mine call" => ((with_reducible show wpAny _ _ (call (Value.ref 155) _) _ _ _); k_dflt (refine Does.go (by k_asm) (by k_asm) (by k_asm) (by k_asm) (by k_asm) (by first | exact rfl | assumption) (by ktr_room) (by ktr_units) (units_does _ _ _ _ _ _ _ _ _ _ _ _ _ _ _ _  (by assumption) (by k_mem) (by k_mem) (by first | assumption | omega) (by first | assumption | omega)) ?_; (intro r' n' h' tk' F' N' hO'; obtain ⟨hn', t', hr'⟩ := hO'; replace hn' := hn'.symm; subst hn' hr'); (try k_sweep); (try dsimp only); (try k_fold)))
  have hh := hF.hidLe
  have ht := hF.topLe
  have hf1 := hF.hf1
  have hf2 := hF.hf2
  have he1 := hF.he1
  have he2 := hF.he2
  have sp := hF.spanPos
  have g2 : (2 ^ e.toNat - 1) * 2 ^ f.toNat = top * hid := by rw [← hF.htop, ← hF.hhid]
  have g4 := hF.pw
  have g5 := p2pos f.toNat
  have g6 : (2 : Int) ^ f.toNat = hid := hF.hhid.symm
  unfold Does
  k_fill
  intro dp un gd cn cs a ccd cl outer A₀ base h₀ L m s Q E B F X N Tp hk hd hu hret
  refine wpAny_call ?_
  k_dflt ktr_enter
  repeat' (first | ((fail_if_success (with_reducible show wpAny _ _ (pyIter (Value.ref _)) (fun it s₂ => TurnsAt _ _ _ _ _ _ _ _ _ it s₂) _ _)); first | (k_unfold; (try dsimp only)) | (k_end; wrow_close) | walk1 | (dsimp only; (fail_if_success (with_reducible show wpAny _ _ (pyIter (Value.ref _)) (fun it s₂ => TurnsAt _ _ _ _ _ _ _ _ _ it s₂) _ _)); walk1)) | fail "no")
  refine iter_two (fun v => 0 ≤ v → v ≤ top * hid → ¬ (AW hid over v < AW hid over size) ∧ (AW hid over v = AW hid over size → size.fmod 2 ≠ 1)) (fun y => y ≠ Str.ofString "other" ∧ y ≠ Str.ofString "beside") (by rfl) (by assumption) (by assumption) (by k_mem) (fun a _ => hN.lo a) (fun _ a => hN.hi a) ?la ?lb
  case la =>
    intro I v t m1 h1 tk1 it l1 hc hv J1 F1 N1
    have F1x := fr_w2 F1 J1
    clear F1 J1
    (try k_lt l1)
    (try k_sweep)
    (try dsimp only)
    (try k_fold)
    k_steps
    all_goals first
      | exact absurd (by assumption) (hv (by assumption) (by rw [← g2]; assumption)).1
      | exact absurd (by assumption) ((hv (by assumption) (by rw [← g2]; assumption)).2 (by assumption))
      | exact ⟨rfl, _, _, _, rfl, by assumption, (by first | assumption | exact cb_drop (by assumption) (by kcj_all)), (by intro y hy; simp only [if_neg hy.1, if_neg hy.2])⟩
  intro m1 h1 tk1 J1 F1 N1
  have F1x := fr_w2 F1 J1
  clear F1 J1
  (try k_sweep)
  (try dsimp only)
  (try k_fold)
  k_steps
  all_goals exact hret _ news _ _ (by assumption) (cb_drop (by assumption) (by kcj_all)) ⟨rfl, congrArg Value.bool (decide_eq_true (by rw [g2]; exact h1x))⟩
end C11

section P5
theorem fr3 {g : Heap} {L : Addr} {h : Heap} {m : Str → Option Value} {a b c : Str} {va vb vc : Value} (F : Fr g L h m) (ea : m a = some va) (eb : m b = some vb) (ec : m c = some vc) :
    Fr g L h (fun y => if y = a then some va else if y = b then some vb else if y = c then some vc else m y) := by
  have e : (fun y => if y = a then some va else if y = b then some vb else if y = c then some vc else m y) = m := by
    funext y
    by_cases h1 : y = a
    · rw [if_pos h1, h1, ea]
    · rw [if_neg h1]
      by_cases h2 : y = b
      · rw [if_pos h2, h2, eb]
      · rw [if_neg h2]
        by_cases h3 : y = c
        · rw [if_pos h3, h3, ec]
        · rw [if_neg h3]
  rw [e]
  exact F
theorem shr_lt {v : Int} {k : Nat} (h : ¬ 0 < v.fdiv (2 ^ k)) : v < 2 ^ k := by
  rw [fd (p2pos k)] at h
  have e := Int.emod_add_mul_ediv v (2 ^ k)
  have l := Int.emod_lt_of_pos v (p2pos k)
  have : 2 ^ k * (v / 2 ^ k) ≤ 2 ^ k * 0 := Int.mul_le_mul_of_nonneg_left (by omega) (Int.le_of_lt (p2pos k))
  omega
theorem shr_ge {v : Int} {k : Nat} (h : 0 < v.fdiv (2 ^ k)) : 2 ^ k ≤ v := by
  rw [fd (p2pos k)] at h
  have e := Int.emod_add_mul_ediv v (2 ^ k)
  have l := Int.emod_nonneg v (Int.ne_of_gt (p2pos k))
  have : 2 ^ k * 1 ≤ 2 ^ k * (v / 2 ^ k) := Int.mul_le_mul_of_nonneg_left (by omega) (Int.le_of_lt (p2pos k))
  omega
theorem bc_more {v : Int} {j : Nat} (hv : v < 2 ^ 256) (hj : j ≤ 8) (h : 0 < v.fdiv (2 ^ ((2 : Int) ^ j).toNat)) : j + 1 ≤ 8 := by
  rcases Nat.lt_or_ge j 8 with q | q
  · exact q
  · have e : j = 8 := by omega
    subst e
    have := shr_ge h
    have t : ((2 : Int) ^ 8).toNat = 256 := by decide
    rw [t] at this
    omega
structure BcInv (v : Int) (n : Nat) (mv c s : Int) : Prop where
  h1 : 1 ≤ mv
  h2 : 0 ≤ c
  h3 : v / 2 ^ c.toNat = mv
  h4 : (s = 0 ∧ mv < 2) ∨ ∃ j : Nat, s = 2 ^ j ∧ n = j + 1 ∧ mv < 2 ^ (2 * s).toNat
theorem BcInv.start {v : Int} {j : Nat} (hv : 0 < v) (h : ¬ 0 < v.fdiv (2 ^ ((2 : Int) ^ j).toNat)) : BcInv v (j + 1) v 0 (2 ^ j) := by
  refine ⟨by omega, Int.le_refl _, by simp, .inr ⟨j, rfl, rfl, ?_⟩⟩
  have p := p2pos j
  exact Int.lt_of_lt_of_le (shr_lt h) (p2le (by omega))
theorem BcInv.pos {v mv c s : Int} {n : Nat} (h : BcInv v n mv c s) : 0 ≤ s := by
  rcases h.h4 with q | ⟨j, q, _⟩
  · omega
  · have := p2pos j; omega
theorem half_pow (j : Nat) : (s : Int) → s = 2 ^ j → (s.fdiv 2 = 0 ∧ j = 0) ∨ ∃ i, j = i + 1 ∧ s.fdiv 2 = 2 ^ i := by
  intro s hs
  cases j with
  | zero => left; subst hs; exact ⟨by decide, rfl⟩
  | succ i =>
    right
    refine ⟨i, rfl, ?_⟩
    rw [hs, Int.pow_succ, fd (by decide), Int.mul_ediv_cancel _ (by decide)]
theorem BcInv.next {v mv c s mv' c' : Int} {n : Nat} (h : BcInv v n mv c s) (hs : 0 < s) (h1 : 1 ≤ mv') (h2 : 0 ≤ c') (h3 : v / 2 ^ c'.toNat = mv') (h4 : mv' < 2 ^ s.toNat) : ∃ n', n' < n ∧ BcInv v n' mv' c' (s.fdiv 2) := by
  rcases h.h4 with q | ⟨j, q, qn, _⟩
  · omega
  · rcases half_pow j s q with ⟨z, zj⟩ | ⟨i, ij, zi⟩
    · refine ⟨0, by omega, h1, h2, h3, .inl ⟨z, ?_⟩⟩
      subst zj
      rw [q] at h4
      exact h4
    · refine ⟨i + 1, by omega, h1, h2, h3, .inr ⟨i, zi, rfl, ?_⟩⟩
      have e : 2 * s.fdiv 2 = s := by rw [zi, q, ij, Int.pow_succ, Int.mul_comm]
      rw [e]
      exact h4
theorem BcInv.shift {v mv c s : Int} {n : Nat} (h : BcInv v n mv c s) (hs : 0 < s) (hp : 0 < mv.fdiv (2 ^ s.toNat)) : ∃ n', n' < n ∧ BcInv v n' (mv.fdiv (2 ^ s.toNat)) (c + s) (s.fdiv 2) := by
  refine h.next hs (by omega) (by have := h.h2; omega) ?_ ?_
  · rw [Int.toNat_add h.h2 (by omega), Int.pow_add, (mod_split (p2pos _) (p2pos _)).2, h.h3, fd (p2pos _)]
  · rcases h.h4 with q | ⟨j, q, qn, ql⟩
    · omega
    · have e : (2 * s).toNat = s.toNat + s.toNat := by omega
      rw [e, Int.pow_add] at ql
      rw [fd (p2pos _)]
      exact Int.ediv_lt_of_lt_mul (p2pos _) ql
theorem BcInv.keep {v mv c s : Int} {n : Nat} (h : BcInv v n mv c s) (hs : 0 < s) (hp : ¬ 0 < mv.fdiv (2 ^ s.toNat)) : ∃ n', n' < n ∧ BcInv v n' mv c (s.fdiv 2) :=
  h.next hs h.h1 h.h2 h.h3 (shr_lt hp)
theorem BcInv.done {v mv c s : Int} {n : Nat} (h : BcInv v n mv c s) (hs : ¬ 0 < s) : 1 ≤ c + 1 ∧ 2 ^ (c + 1 - 1).toNat ≤ v ∧ v < 2 ^ (c + 1).toNat := by
  have e1 : c + 1 - 1 = c := by omega
  have h2 := h.h2
  rcases h.h4 with q | ⟨j, q, _⟩
  · have m1 : mv = 1 := by have := h.h1; omega
    have h3 := h.h3
    rw [m1] at h3
    have e := Int.emod_add_mul_ediv v (2 ^ c.toNat)
    have l := Int.emod_nonneg v (Int.ne_of_gt (p2pos c.toNat))
    have l2 := Int.emod_lt_of_pos v (p2pos c.toNat)
    rw [h3, Int.mul_one] at e
    have e2 : (c + 1).toNat = c.toNat + 1 := by omega
    rw [e1, e2, Int.pow_succ]
    omega
  · have := p2pos j; omega
end P5

section C12
set_option maxRecDepth 100000 in
set_option maxHeartbeats 8000000 in
theorem bc_does (w : World) (mean : ExcName → Option Value) (mg mb : Str → Option Value) (v : Int) (tv : Tok) (news : Led) (hv : 0 < v) (hv2 : v < 2 ^ 256) :
    Does w mean mg mb 91 1 [.int v tv] news (fun r news' => news' = news ∧ ∃ t c, r = .int c t ∧ 1 ≤ c ∧ 2 ^ (c - 1).toNat ≤ v ∧ v < 2 ^ c.toNat) := by
  w_top off
  k_with_none
  k_with "mine call" => (k_dflt (first | (refine' call_cls (by k_asm) (by k_asm) (by k_asm) (by k_is) (by k_is) (by k_is) ?_; k_whole; intro x' d' h' F' N' l1 l2; (try k_lt l1); (try k_lt2 l2); (try k_sweep)) | refine wpAny_call ?_); k_dflt (refine' code_def (by k_asm) (by k_asm) (by k_asm) (by k_asm) (by k_asm) (by exact rfl) (by exact rfl) (by first | exact rfl | assumption) (by k_is) (by k_is) (by ktr_room) (by first | exact BindsTo.of_eq rfl | exact binds_K (by k_in) rfl (by k_is) rfl rfl rfl) (by exact locs rfl) ?_ (by exact rfl) (by exact rfl) (by exact rfl) (by decide); k_whole; intro g' L' h' FG' F' N' B' X' T'; (try dsimp only); (try k_lift B'); (try k_fold)))
  unfold Does
  k_fill
  intro dp un gd cn cs a ccd cl outer A₀ base h₀ L m s Q E B F X N Tp hk hd hu hret
  refine wpAny_call ?_
  k_dflt ktr_enter
  repeat' (first | (k_unfold; (try dsimp only)) | (k_end; wrow_close) | ((fail_if_success (with_reducible show wpAny _ _ (exec (Stmt.While _ _ _ _) _) _ _ _)); walk1) | (dsimp only; (fail_if_success (with_reducible show wpAny _ _ (exec (Stmt.While _ _ _ _) _) _ _ _)); walk1) | (leave1; walk_say "STEP leave1"; (try dsimp only)) | fail "no step")
  refine While_inv2 (fun n m₁ nx => nx = news ∧ ∃ (j : Nat) (t1 t2 t3 : Tok), m₁ (Str.ofString "m") = some (.int v t1) ∧ m₁ (Str.ofString "count") = some (.int 0 t2) ∧ m₁ (Str.ofString "step") = some (.int (2 ^ j) t3) ∧ j ≤ 8 ∧ n = 8 - j) (n₀ := 8) (by assumption) (by assumption) ⟨rfl, 0, _, _, _, by with_unfolding_all rfl, by with_unfolding_all rfl, by with_unfolding_all rfl, by decide, rfl⟩ ?_ (by first | passes_own | with_unfolding_all passes_own)
  rintro n m₁ nx h₁ tk₁ F₁ N₁ ⟨hnx, j, t1, t2, t3, e1, e2, e3, hj, hn⟩
  replace hnx := hnx.symm
  subst hnx
  have F₂ := fr3 F₁ e1 e2 e3
  have pj := p2pos j
  clear F₁ e1 e2 e3
  (try k_sweep)
  (try dsimp only)
  (try k_fold)
  repeat' (first | (k_unfold; (try dsimp only)) | (k_end; wrow_close) | ((fail_if_success (with_reducible show wpAny _ _ (exec (Stmt.While _ _ _ _) _) _ _ _)); walk1) | (dsimp only; (fail_if_success (with_reducible show wpAny _ _ (exec (Stmt.While _ _ _ _) _) _ _ _)); walk1) | (leave1; walk_say "STEP leave1"; (try dsimp only)) | fail "no step")
  · have hj' := bc_more hv2 hj (by assumption)
    exact ⟨_, _, _, _, 8 - (j + 1), rfl, by assumption, by assumption, by omega, rfl, j + 1, _, _, _, by with_unfolding_all rfl, by with_unfolding_all rfl, by rw [Int.pow_succ]; with_unfolding_all rfl, hj', rfl⟩
  have hb := BcInv.start hv (by assumption)
  refine While_inv2 (fun n m₁ nx => nx = news ∧ ∃ (mv c q : Int) (t1 t2 t3 : Tok), m₁ (Str.ofString "m") = some (.int mv t1) ∧ m₁ (Str.ofString "count") = some (.int c t2) ∧ m₁ (Str.ofString "step") = some (.int q t3) ∧ BcInv v n mv c q) (n₀ := j + 1) (by assumption) (by assumption) ⟨rfl, _, _, _, _, _, _, by with_unfolding_all rfl, by with_unfolding_all rfl, by with_unfolding_all rfl, hb⟩ ?_ (by first | passes_own | with_unfolding_all passes_own)
  clear hb pj
  rintro n2 m₁ nx h₁ tk₁ F₁ N₁ ⟨hnx, mv, c, q, t1, t2, t3, e1, e2, e3, hb⟩
  replace hnx := hnx.symm
  subst hnx
  have F₂ := fr3 F₁ e1 e2 e3
  have pj := hb.pos
  have p1 := hb.h1
  clear F₁ e1 e2 e3
  (try k_sweep)
  (try dsimp only)
  (try k_fold)
  k_steps
  · obtain ⟨n9, hn9, hb9⟩ := hb.shift (by assumption) (by assumption)
    exact ⟨_, _, _, _, n9, rfl, by assumption, by assumption, hn9, rfl, _, _, _, _, _, _, by with_unfolding_all rfl, by with_unfolding_all rfl, by with_unfolding_all rfl, hb9⟩
  · obtain ⟨n9, hn9, hb9⟩ := hb.keep (by assumption) (by assumption)
    exact ⟨_, _, _, _, n9, rfl, by assumption, by assumption, hn9, rfl, _, _, _, _, _, _, by with_unfolding_all rfl, by with_unfolding_all rfl, by with_unfolding_all rfl, hb9⟩
  · exact hret _ news _ _ (by assumption) (by assumption) ⟨rfl, _, _, rfl, hb.done (by assumption)⟩
end C12

section P6
/-- what round_shift gives, no rest -/
def RS (m sh : Int) : Int := if sh ≤ 0 then m * 2 ^ (0 - sh).toNat else if 2 ^ (sh - 1).toNat < m - m / 2 ^ sh.toNat * 2 ^ sh.toNat ∨ (m - m / 2 ^ sh.toNat * 2 ^ sh.toNat = 2 ^ (sh - 1).toNat ∧ m / 2 ^ sh.toNat % 2 = 1) then m / 2 ^ sh.toNat + 1 else m / 2 ^ sh.toNat
theorem RS_exact {m sh : Int} (h : sh ≤ 0) : m * 2 ^ (0 - sh).toNat = RS m sh := by
  unfold RS; rw [if_pos h]
theorem RS_up {m sh : Int} (h : ¬ sh ≤ 0) (h1 : 1 * 2 ^ (sh - 1).toNat < m - m.fdiv (2 ^ sh.toNat) * 2 ^ sh.toNat) : m.fdiv (2 ^ sh.toNat) + 1 = RS m sh := by
  rw [fd (p2pos _), Int.one_mul] at *
  unfold RS; rw [if_neg h, if_pos (.inl h1)]
theorem RS_tie {m sh : Int} (h : ¬ sh ≤ 0) (h1 : m - m.fdiv (2 ^ sh.toNat) * 2 ^ sh.toNat = 1 * 2 ^ (sh - 1).toNat) (h2 : (m.fdiv (2 ^ sh.toNat)).fmod 2 = 1) : m.fdiv (2 ^ sh.toNat) + 1 = RS m sh := by
  rw [fd (p2pos _)] at *
  rw [Int.one_mul] at h1
  rw [fm (by decide)] at h2
  unfold RS; rw [if_neg h, if_pos (.inr ⟨h1, h2⟩)]
theorem RS_down1 {m sh : Int} (h : ¬ sh ≤ 0) (h0 : ¬ 1 * 2 ^ (sh - 1).toNat < m - m.fdiv (2 ^ sh.toNat) * 2 ^ sh.toNat) (h2 : (m.fdiv (2 ^ sh.toNat)).fmod 2 ≠ 1) : m.fdiv (2 ^ sh.toNat) = RS m sh := by
  rw [fd (p2pos _)] at *
  rw [Int.one_mul] at h0
  rw [fm (by decide)] at h2
  unfold RS; rw [if_neg h, if_neg (by rintro (q | q); exact h0 q; exact h2 q.2)]
theorem RS_down2 {m sh : Int} (h : ¬ sh ≤ 0) (h0 : ¬ 1 * 2 ^ (sh - 1).toNat < m - m.fdiv (2 ^ sh.toNat) * 2 ^ sh.toNat) (h2 : m - m.fdiv (2 ^ sh.toNat) * 2 ^ sh.toNat ≠ 1 * 2 ^ (sh - 1).toNat) : m.fdiv (2 ^ sh.toNat) = RS m sh := by
  rw [fd (p2pos _)] at *
  rw [Int.one_mul] at h0 h2
  unfold RS; rw [if_neg h, if_neg (by rintro (q | q); exact h0 q; exact h2 q.1)]
/-- rounded to the nearest, a tie to the even -/
structure Rounded (G k over : Int) : Prop where
  lo : k * G ≤ over → 2 * (over - k * G) ≤ G ∧ (2 * (over - k * G) = G → k % 2 = 0)
  hi : over < k * G → 2 * (k * G - over) ≤ G ∧ (2 * (k * G - over) = G → k % 2 = 0)
theorem RS_rounded {m sh P : Int} (h : 0 ≤ sh + P) (hP : 0 ≤ P) : Rounded (2 ^ (sh + P).toNat) (RS m sh) (m * 2 ^ P.toNat) := by
  unfold RS
  split
  · rename_i hs
    have e : P.toNat = (0 - sh).toNat + (sh + P).toNat := by omega
    have q : m * 2 ^ P.toNat = m * 2 ^ (0 - sh).toNat * 2 ^ (sh + P).toNat := by rw [e, Int.pow_add, Int.mul_assoc]
    rw [q]
    have g := p2pos (sh + P).toNat
    constructor <;> intro hx <;> omega
  · rename_i hs
    have e : (sh + P).toNat = sh.toNat + P.toNat := by omega
    have e2 := Int.emod_add_mul_ediv m (2 ^ sh.toNat)
    have l1 := Int.emod_nonneg m (Int.ne_of_gt (p2pos sh.toNat))
    have l2 := Int.emod_lt_of_pos m (p2pos sh.toNat)
    have e3 := p2succ (n := sh) (by omega)
    have hp := p2pos P.toNat
    have hg := p2pos (sh - 1).toNat
    rw [e, Int.pow_add]
    generalize hk : m / 2 ^ sh.toNat = k at *
    generalize hr : m % 2 ^ sh.toNat = r at *
    generalize (2 : Int) ^ (sh - 1).toNat = H at *
    generalize (2 : Int) ^ sh.toNat = S at *
    generalize (2 : Int) ^ P.toNat = p at *
    have em : m - k * S = r := by rw [Int.mul_comm k S]; omega
    rw [em]
    have eo : m * p = k * (S * p) + r * p := by rw [← e2, Int.add_mul, Int.mul_comm S k, Int.mul_assoc]; omega
    rw [eo]
    have eS : S * p = 2 * (H * p) := by rw [e3, Int.mul_assoc]
    have k1 : (k + 1) * (S * p) = k * (S * p) + S * p := by rw [Int.add_mul, Int.one_mul]
    have hrn : 0 ≤ r * p := Int.mul_nonneg l1 (Int.le_of_lt hp)
    have hrs : r * p < S * p := Int.mul_lt_mul_of_pos_right l2 hp
    split
    · rename_i hc
      have hr2 : H * p ≤ r * p := Int.mul_le_mul_of_nonneg_right (by omega) (Int.le_of_lt hp)
      constructor
      · rw [k1]; intro hx; omega
      · rw [k1]; intro _
        refine ⟨by omega, fun ht => ?_⟩
        have hrp : r * p = H * p := by omega
        have hrH : r = H := Int.eq_of_mul_eq_mul_right (Int.ne_of_gt hp) hrp
        rcases hc with q | q
        · omega
        · omega
    · rename_i hc
      have hr2 : r * p ≤ H * p := Int.mul_le_mul_of_nonneg_right (by omega) (Int.le_of_lt hp)
      constructor
      · intro _
        refine ⟨by omega, fun ht => ?_⟩
        have hrp : r * p = H * p := by omega
        have hrH : r = H := Int.eq_of_mul_eq_mul_right (Int.ne_of_gt hp) hrp
        omega
      · intro hx; omega
theorem near_of {hid top s over : Int} (hh : 0 < hid) (h0 : 0 ≤ s)
    (H1 : U hid s ≤ over → s + 1 ≤ top * hid → 2 * (over - U hid s) ≤ U hid (s + 1) - U hid s ∧ (2 * (over - U hid s) = U hid (s + 1) - U hid s → s % 2 = 0))
    (H2 : over < U hid s → 0 ≤ s - 1 → 2 * (U hid s - over) ≤ U hid s - U hid (s - 1) ∧ (2 * (U hid s - over) = U hid s - U hid (s - 1) → s % 2 = 0)) : Near hid top s over := by
  have u1 := U_lt hh h0 (show s < s + 1 by omega)
  have e2 : s.fmod 2 = s % 2 := fm (by decide)
  constructor
  · intro hs
    have u2 := U_lt hh hs (show s - 1 < s by omega)
    have h2 := fun q => H2 q hs
    clear H1 H2
    unfold AW
    rw [e2]
    simp only [Int.mul_one]
    generalize U hid s = a at *
    generalize U hid (s - 1) = b at *
    by_cases hc : over < a
    · have q := h2 hc
      clear h2
      split <;> split <;> constructor <;> omega
    · clear h2
      split <;> split <;> constructor <;> omega
  · intro hs
    have h1 := fun q => H1 q hs
    clear H1 H2
    unfold AW
    rw [e2]
    simp only [Int.mul_one]
    generalize U hid s = a at *
    generalize U hid (s + 1) = b at *
    by_cases hc : a ≤ over
    · have q := h1 hc
      clear h1
      split <;> split <;> constructor <;> omega
    · clear h1
      split <;> split <;> constructor <;> omega
end P6

section P7
section
variable {e f bias top hid least : Int}
theorem FormOk.leastF (h : FormOk e f bias top hid least) : least ≤ -f := by
  have h1 := h.he1
  have a : (2 : Int) ^ 1 ≤ 2 ^ (e - 1).toNat := p2le (by omega)
  have c := h.hbias
  have d := h.hleast
  have a' : (2 : Int) ≤ 2 ^ (e - 1).toNat := a
  omega
theorem bc_le {v c : Int} (h : 2 ^ (c - 1).toNat ≤ v) (hv : v < 2 ^ 200) : c ≤ 200 := by
  by_cases hc : c ≤ 200
  · exact hc
  · have : (2 : Int) ^ 200 ≤ 2 ^ (c - 1).toNat := p2le (by omega)
    omega
/-- what pack gives, as the law asks it -/
structure PackOut (hid top sg v over : Int) : Prop where
  q : v / (hid * (top + 1)) = sg
  lo : 0 ≤ v % (hid * (top + 1))
  hi : v % (hid * (top + 1)) ≤ top * hid
  near : Near hid top (v % (hid * (top + 1))) over
theorem FormOk.out (h : FormOk e f bias top hid least) {sg s v over : Int} (h0 : 0 ≤ s) (h1 : s ≤ top * hid) (hn : Near hid top s over) (hv : v = sg * (hid * (top + 1)) + s) : PackOut hid top sg v over := by
  have sp := h.spanPos
  have hh := h.hidLe
  have m := mk_split (h := hid * (top + 1)) (E := sg) (F := s) sp.1 h0 (by omega)
  rw [← hv] at m
  exact ⟨m.1, by omega, by omega, by rw [m.2]; exact hn⟩
theorem FormOk.join (h : FormOk e f bias top hid least) (sg E F : Int) : (sg * 2 ^ e.toNat + E) * hid + F = sg * (hid * (top + 1)) + (E * hid + F) := by
  rw [h.pw, Int.add_mul, Int.mul_assoc, Int.mul_comm (top + 1) hid, Int.add_assoc]
theorem FormOk.U1 (h : FormOk e f bias top hid least) : U hid 1 = 1 := by
  have hh := h.hidLe
  have := U_step (hid := hid) (s := 0) (by omega) (Int.le_refl 0)
  rw [U_zero (by omega), Int.zero_ediv] at this
  exact this
theorem FormOk.pack_zero (h : FormOk e f bias top hid least) {sg P : Int} : PackOut hid top sg ((sg * 2 ^ e.toNat + 0) * hid + 0) (0 * 2 ^ P.toNat) := by
  have hh := h.hidLe
  have ht := h.topLe
  have hp : 0 ≤ top * hid := Int.mul_nonneg (by omega) (by omega)
  refine h.out (s := 0) (Int.le_refl 0) hp (near_of (by omega) (Int.le_refl 0) ?_ ?_) (by rw [h.join]; omega)
  · intro _ _
    have u1 := h.U1
    have u0 := U_zero (hid := hid) (by omega)
    have e1 : (0 : Int) + 1 = 1 := rfl
    rw [e1, u1, u0, Int.zero_mul]
    constructor <;> intros <;> omega
  · intro _ q; omega
end
theorem k_bounds {G k over hid : Int} (hG : 0 < G) (R : Rounded G k over) (h1 : hid * G ≤ over) (h2 : over < 2 * (hid * G)) : hid ≤ k ∧ k ≤ 2 * hid ∧ (over < k * G → hid < k) := by
  refine ⟨?_, ?_, ?_⟩
  · by_cases hc : hid ≤ k
    · exact hc
    · have a : k * G ≤ (hid - 1) * G := Int.mul_le_mul_of_nonneg_right (by omega) (Int.le_of_lt hG)
      rw [Int.sub_mul, Int.one_mul] at a
      have := (R.lo (by omega)).1
      omega
  · by_cases hc : k ≤ 2 * hid
    · exact hc
    · have a : (2 * hid + 1) * G ≤ k * G := Int.mul_le_mul_of_nonneg_right (by omega) (Int.le_of_lt hG)
      rw [Int.add_mul, Int.one_mul, Int.mul_assoc] at a
      have := (R.hi (by omega)).1
      omega
  · intro ho
    by_cases hc : hid < k
    · exact hc
    · have a : k * G ≤ hid * G := Int.mul_le_mul_of_nonneg_right (by omega) (Int.le_of_lt hG)
      omega
section
variable {e f bias top hid least m c pl : Int}
theorem FormOk.over_bounds (h : FormOk e f bias top hid least) (hc1 : 1 ≤ c) (hc2 : 2 ^ (c - 1).toNat ≤ m) (hc3 : m < 2 ^ c.toNat) (hpl : pl = c - f - 1) :
    hid * 2 ^ (pl + (0 - least)).toNat ≤ m * 2 ^ (0 - least).toNat ∧ m * 2 ^ (0 - least).toNat < 2 * (hid * 2 ^ (pl + (0 - least)).toNat) ∧ 0 ≤ pl + (0 - least) ∧ 0 ≤ 0 - least := by
  have hl := h.leastF
  have hf := h.hf1
  have hp := p2pos (0 - least).toNat
  have e1 : hid * 2 ^ (pl + (0 - least)).toNat = 2 ^ (c - 1).toNat * 2 ^ (0 - least).toNat := by
    rw [h.hhid, ← Int.pow_add, ← Int.pow_add]
    congr 1
    omega
  have e2 : (2 : Int) ^ c.toNat = 2 * 2 ^ (c - 1).toNat := p2succ hc1
  rw [e1]
  refine ⟨Int.mul_le_mul_of_nonneg_right hc2 (Int.le_of_lt hp), ?_, by omega, by omega⟩
  rw [← Int.mul_assoc, ← e2]
  exact Int.mul_lt_mul_of_pos_right hc3 hp
theorem FormOk.kb (h : FormOk e f bias top hid least) (hc1 : 1 ≤ c) (hc2 : 2 ^ (c - 1).toNat ≤ m) (hc3 : m < 2 ^ c.toNat) (hpl : pl = c - f - 1) :
    Rounded (2 ^ (pl + (0 - least)).toNat) (RS m pl) (m * 2 ^ (0 - least).toNat) ∧ hid ≤ RS m pl ∧ RS m pl ≤ 2 * hid ∧ (m * 2 ^ (0 - least).toNat < RS m pl * 2 ^ (pl + (0 - least)).toNat → hid < RS m pl) := by
  obtain ⟨b1, b2, b3, b4⟩ := h.over_bounds hc1 hc2 hc3 hpl
  have R := RS_rounded (m := m) (sh := pl) (P := 0 - least) b3 b4
  exact ⟨R, k_bounds (p2pos _) R b1 b2⟩
theorem FormOk.topU (h : FormOk e f bias top hid least) : U hid (top * hid) = hid * 2 ^ (top - 1).toNat := by
  have hh := h.hidLe
  have ht := h.topLe
  have e1 : top * hid = top * hid + 0 := by omega
  rw [e1, U_mk (by omega) (Int.le_refl _) (by omega), if_neg (by omega), Int.add_zero]
theorem FormOk.inf_near (h : FormOk e f bias top hid least) {over : Int} (ho : U hid (top * hid) ≤ over) : Near hid top (top * hid) over := by
  have hh := h.hidLe
  have ht := h.topLe
  refine near_of (by omega) (Int.mul_nonneg (by omega) (by omega)) ?_ ?_
  · intro _ q; omega
  · intro q _; omega
theorem FormOk.inf_over (h : FormOk e f bias top hid least) (hc1 : 1 ≤ c) (hc2 : 2 ^ (c - 1).toNat ≤ m) (hc3 : m < 2 ^ c.toNat) (hpl : pl = c - f - 1) (hE : top ≤ pl - least + 1) : U hid (top * hid) ≤ m * 2 ^ (0 - least).toNat := by
  obtain ⟨b1, b2, b3, b4⟩ := h.over_bounds hc1 hc2 hc3 hpl
  have hh := h.hidLe
  rw [h.topU]
  refine Int.le_trans (Int.mul_le_mul_of_nonneg_left (p2le ?_) (by omega)) b1
  omega
theorem FormOk.evenHid (h : FormOk e f bias top hid least) : hid % 2 = 0 := by
  have := p2succ (n := f) h.hf1
  rw [h.hhid]
  omega
theorem FormOk.carry_near (h : FormOk e f bias top hid least) (hc1 : 1 ≤ c) (hc2 : 2 ^ (c - 1).toNat ≤ m) (hc3 : m < 2 ^ c.toNat) (hpl : pl = c - f - 1) (hk : RS m pl = hid * 2 ^ Int.toNat 1) :
    Near hid top ((pl - least + 1 + 1) * hid) (m * 2 ^ (0 - least).toNat) := by
  obtain ⟨b1, b2, b3, b4⟩ := h.over_bounds hc1 hc2 hc3 hpl
  obtain ⟨R, k1, k2, k3⟩ := h.kb hc1 hc2 hc3 hpl
  have hh := h.hidLe
  have hl := h.leastF
  have hf := h.hf1
  have e0 : (2 : Int) ^ Int.toNat 1 = 2 := rfl
  rw [e0] at hk
  have q : (0 : Int) < hid := by omega
  have e1 : (pl - least + 1 + 1) * hid = (pl - least + 1 + 1) * hid + 0 := by omega
  have u1 : U hid ((pl - least + 1 + 1) * hid) = RS m pl * 2 ^ (pl + (0 - least)).toNat := by
    rw [e1, U_mk q (Int.le_refl _) q, if_neg (by omega), Int.add_zero, hk, Int.mul_assoc, p2succ (by omega)]
    congr 3
    omega
  have e2 : (pl - least + 1 + 1) * hid - 1 = (pl - least + 1) * hid + (hid - 1) := by rw [Int.add_mul _ 1, Int.one_mul]; omega
  have pos : 0 ≤ (pl - least + 1) * hid := Int.mul_nonneg (by omega) (by omega)
  have d := (mk_split (h := hid) (E := pl - least + 1) (F := hid - 1) q (by omega) (by omega)).1
  have u2 := U_step (hid := hid) (s := (pl - least + 1 + 1) * hid - 1) q (by omega)
  rw [e2, d, ← e2, Int.sub_add_cancel] at u2
  have e3 : pl - least + 1 - 1 = pl + (0 - least) := by omega
  rw [e3] at u2
  have lt : m * 2 ^ (0 - least).toNat < RS m pl * 2 ^ (pl + (0 - least)).toNat := by rw [hk, Int.mul_comm hid 2, Int.mul_assoc]; exact b2
  have ev : (pl - least + 1 + 1) * hid % 2 = 0 := by rw [Int.mul_emod, h.evenHid]; simp
  refine near_of q (by omega) ?_ ?_
  · intro z; omega
  · intro _ _
    have r := R.hi lt
    rw [← u1] at r
    exact ⟨by omega, fun _ => ev⟩
theorem FormOk.main_near (h : FormOk e f bias top hid least) (hc1 : 1 ≤ c) (hc2 : 2 ^ (c - 1).toNat ≤ m) (hc3 : m < 2 ^ c.toNat) (hpl : pl = c - f - 1) (hk : RS m pl ≠ hid * 2 ^ Int.toNat 1) :
    Near hid top ((pl - least + 1) * hid + (RS m pl - hid)) (m * 2 ^ (0 - least).toNat) ∧ 0 ≤ RS m pl - hid ∧ RS m pl - hid < hid := by
  obtain ⟨R, k1, k2, k3⟩ := h.kb hc1 hc2 hc3 hpl
  have hh := h.hidLe
  have hl := h.leastF
  have hf := h.hf1
  have e0 : (2 : Int) ^ Int.toNat 1 = 2 := rfl
  rw [e0] at hk
  have q : (0 : Int) < hid := by omega
  have f0 : 0 ≤ RS m pl - hid := by omega
  have f1 : RS m pl - hid < hid := by omega
  refine ⟨?_, f0, f1⟩
  have e3 : pl - least + 1 - 1 = pl + (0 - least) := by omega
  have u1 : U hid ((pl - least + 1) * hid + (RS m pl - hid)) = RS m pl * 2 ^ (pl + (0 - least)).toNat := by
    rw [U_mk q f0 f1, if_neg (by omega), e3]
    congr 1
    omega
  have pos : 0 ≤ (pl - least + 1) * hid := Int.mul_nonneg (by omega) (by omega)
  have d := (mk_split (h := hid) (E := pl - least + 1) (F := RS m pl - hid) q f0 f1).1
  have u2 := U_step (hid := hid) (s := (pl - least + 1) * hid + (RS m pl - hid)) q (by omega)
  rw [d, e3, u1] at u2
  have ev : RS m pl % 2 = 0 → ((pl - least + 1) * hid + (RS m pl - hid)) % 2 = 0 := by
    intro z
    have a : (pl - least + 1) * hid % 2 = 0 := by rw [Int.mul_emod, h.evenHid]; simp
    have b := h.evenHid
    omega
  refine near_of q (by omega) ?_ ?_
  · intro z _
    rw [u1] at z
    have r := R.lo z
    rw [u2, u1]
    exact ⟨by omega, fun t => ev (r.2 (by omega))⟩
  · intro z _
    rw [u1] at z
    have r := R.hi z
    have kh := k3 z
    have d3 := (mk_split (h := hid) (E := pl - least + 1) (F := RS m pl - hid - 1) q (by omega) (by omega)).1
    have e5 : (pl - least + 1) * hid + (RS m pl - hid) - 1 = (pl - least + 1) * hid + (RS m pl - hid - 1) := by omega
    have u3 := U_step (hid := hid) (s := (pl - least + 1) * hid + (RS m pl - hid) - 1) q (by omega)
    rw [e5, d3, e3, ← e5, Int.sub_add_cancel, u1] at u3
    rw [u1]
    exact ⟨by omega, fun t => ev (r.2 (by omega))⟩
theorem FormOk.pack_carry_inf (h : FormOk e f bias top hid least) {sg : Int} (hk : RS m pl = hid * 2 ^ Int.toNat 1) (ht : top ≤ pl + 1 - least + 1) (hc1 : 1 ≤ c) (hc2 : 2 ^ (c - 1).toNat ≤ m) (hc3 : m < 2 ^ c.toNat) (hpl : pl = c - f - 1) :
    PackOut hid top sg ((sg * 2 ^ e.toNat + top) * hid + 0) (m * 2 ^ (0 - least).toNat) := by
  have hh := h.hidLe
  have tt := h.topLe
  refine h.out (s := top * hid) (Int.mul_nonneg (by omega) (by omega)) (Int.le_refl _) ?_ (by rw [h.join]; omega)
  by_cases hE : top ≤ pl - least + 1
  · exact h.inf_near (h.inf_over hc1 hc2 hc3 hpl hE)
  · have := h.carry_near hc1 hc2 hc3 hpl hk
    have e1 : pl - least + 1 + 1 = top := by omega
    rwa [e1] at this
theorem FormOk.pack_carry (h : FormOk e f bias top hid least) {sg : Int} (hk : RS m pl = hid * 2 ^ Int.toNat 1) (ht : ¬ top ≤ pl + 1 - least + 1) (hc1 : 1 ≤ c) (hc2 : 2 ^ (c - 1).toNat ≤ m) (hc3 : m < 2 ^ c.toNat) (hpl : pl = c - f - 1) :
    PackOut hid top sg ((sg * 2 ^ e.toNat + (pl + 1 - least + 1)) * hid + (hid - hid)) (m * 2 ^ (0 - least).toNat) := by
  have hh := h.hidLe
  have hl := h.leastF
  have hf := h.hf1
  have n := h.carry_near hc1 hc2 hc3 hpl hk
  have e1 : pl - least + 1 + 1 = pl + 1 - least + 1 := by omega
  rw [e1] at n
  refine h.out (Int.mul_nonneg (by omega) (by omega)) (Int.mul_le_mul_of_nonneg_right (by omega) (by omega)) n (by rw [h.join]; omega)
theorem FormOk.pack_inf (h : FormOk e f bias top hid least) {sg : Int} (ht : top ≤ pl - least + 1) (hc1 : 1 ≤ c) (hc2 : 2 ^ (c - 1).toNat ≤ m) (hc3 : m < 2 ^ c.toNat) (hpl : pl = c - f - 1) :
    PackOut hid top sg ((sg * 2 ^ e.toNat + top) * hid + 0) (m * 2 ^ (0 - least).toNat) := by
  have hh := h.hidLe
  have tt := h.topLe
  exact h.out (s := top * hid) (Int.mul_nonneg (by omega) (by omega)) (Int.le_refl _) (h.inf_near (h.inf_over hc1 hc2 hc3 hpl ht)) (by rw [h.join]; omega)
theorem FormOk.pack_main (h : FormOk e f bias top hid least) {sg : Int} (hk : RS m pl ≠ hid * 2 ^ Int.toNat 1) (ht : ¬ top ≤ pl - least + 1) (hc1 : 1 ≤ c) (hc2 : 2 ^ (c - 1).toNat ≤ m) (hc3 : m < 2 ^ c.toNat) (hpl : pl = c - f - 1) :
    PackOut hid top sg ((sg * 2 ^ e.toNat + (pl - least + 1)) * hid + (RS m pl - hid)) (m * 2 ^ (0 - least).toNat) := by
  have hh := h.hidLe
  have hl := h.leastF
  have hf := h.hf1
  obtain ⟨n, f0, f1⟩ := h.main_near hc1 hc2 hc3 hpl hk
  have a : 0 ≤ (pl - least + 1) * hid := Int.mul_nonneg (by omega) (by omega)
  have b : (pl - least + 1 + 1) * hid ≤ top * hid := Int.mul_le_mul_of_nonneg_right (by omega) (by omega)
  rw [Int.add_mul _ 1, Int.one_mul] at b
  exact h.out (by omega) (by omega) n (h.join _ _ _)
theorem FormOk.pack_no (h : FormOk e f bias top hid least) (hx : RS m pl < hid) (hc1 : 1 ≤ c) (hc2 : 2 ^ (c - 1).toNat ≤ m) (hc3 : m < 2 ^ c.toNat) (hpl : pl = c - f - 1) : False := by
  have := (h.kb hc1 hc2 hc3 hpl).2.1
  omega
end
end P7

section C13
local macro_rules | `(tactic| walk_at "pad") => `(tactic| skip)
local macro_rules | `(tactic| bits_by_make) => `(tactic| assumption)
set_option maxRecDepth 100000 in
set_option maxHeartbeats 8000000 in
theorem rs_does (w : World) (mean : ExcName → Option Value) (mg mb : Str → Option Value) (m0 sh : Int) (tm ts : Tok) (news : Led) (hb : Builtin.Int.intBits m0 ≤ 300) (h1 : -300 ≤ sh) (h2 : sh ≤ 300) :
    Does w mean mg mb 98 1 [.int m0 tm, .int sh ts, .bool false] news (fun r news' => news' = news ∧ ∃ t, r = .int (RS m0 sh) t) := by
  w_top off
  k_with_none
  k_with "mine call" => (k_dflt (first | (refine' call_cls (by k_asm) (by k_asm) (by k_asm) (by k_is) (by k_is) (by k_is) ?_; k_whole; intro x' d' h' F' N' l1 l2; (try k_lt l1); (try k_lt2 l2); (try k_sweep)) | refine wpAny_call ?_); k_dflt (refine' code_def (by k_asm) (by k_asm) (by k_asm) (by k_asm) (by k_asm) (by exact rfl) (by exact rfl) (by first | exact rfl | assumption) (by k_is) (by k_is) (by ktr_room) (by first | exact BindsTo.of_eq rfl | exact binds_K (by k_in) rfl (by k_is) rfl rfl rfl) (by exact locs rfl) ?_ (by exact rfl) (by exact rfl) (by exact rfl) (by decide); k_whole; intro g' L' h' FG' F' N' B' X' T'; (try dsimp only); (try k_lift B'); (try k_fold)))
  unfold Does
  k_fill
  intro dp un gd cn cs a ccd cl outer A₀ base h₀ L m s Q E B F X N Tp hk hd hu hret
  refine wpAny_call ?_
  k_dflt ktr_enter
  k_steps
  · exact hret _ news _ _ (by assumption) (by first | assumption | exact cb_drop (by assumption) (fun p hp => by first | exact List.mem_cons_of_mem _ hp | exact List.mem_cons_of_mem _ (List.mem_cons_of_mem _ hp) | exact List.mem_cons_of_mem _ (List.mem_cons_of_mem _ (List.mem_cons_of_mem _ hp)) | exact List.mem_cons_of_mem _ (List.mem_cons_of_mem _ (List.mem_cons_of_mem _ (List.mem_cons_of_mem _ hp))))) ⟨rfl, gv_int (RS_exact (by assumption))⟩
  · exact hret _ news _ _ (by assumption) (by first | assumption | exact cb_drop (by assumption) (fun p hp => by first | exact List.mem_cons_of_mem _ hp | exact List.mem_cons_of_mem _ (List.mem_cons_of_mem _ hp) | exact List.mem_cons_of_mem _ (List.mem_cons_of_mem _ (List.mem_cons_of_mem _ hp)) | exact List.mem_cons_of_mem _ (List.mem_cons_of_mem _ (List.mem_cons_of_mem _ (List.mem_cons_of_mem _ hp))))) ⟨rfl, gv_int (RS_up (by assumption) (by assumption))⟩
  · exact hret _ news _ _ (by assumption) (by first | assumption | exact cb_drop (by assumption) (fun p hp => by first | exact List.mem_cons_of_mem _ hp | exact List.mem_cons_of_mem _ (List.mem_cons_of_mem _ hp) | exact List.mem_cons_of_mem _ (List.mem_cons_of_mem _ (List.mem_cons_of_mem _ hp)) | exact List.mem_cons_of_mem _ (List.mem_cons_of_mem _ (List.mem_cons_of_mem _ (List.mem_cons_of_mem _ hp))))) ⟨rfl, gv_int (RS_tie (by assumption) (by assumption) (by assumption))⟩
  · exact hret _ news _ _ (by assumption) (by first | assumption | exact cb_drop (by assumption) (fun p hp => by first | exact List.mem_cons_of_mem _ hp | exact List.mem_cons_of_mem _ (List.mem_cons_of_mem _ hp) | exact List.mem_cons_of_mem _ (List.mem_cons_of_mem _ (List.mem_cons_of_mem _ hp)) | exact List.mem_cons_of_mem _ (List.mem_cons_of_mem _ (List.mem_cons_of_mem _ (List.mem_cons_of_mem _ hp))))) ⟨rfl, gv_int (RS_down1 (by assumption) (by assumption) (by assumption))⟩
  · exact hret _ news _ _ (by assumption) (by first | assumption | exact cb_drop (by assumption) (fun p hp => by first | exact List.mem_cons_of_mem _ hp | exact List.mem_cons_of_mem _ (List.mem_cons_of_mem _ hp) | exact List.mem_cons_of_mem _ (List.mem_cons_of_mem _ (List.mem_cons_of_mem _ hp)) | exact List.mem_cons_of_mem _ (List.mem_cons_of_mem _ (List.mem_cons_of_mem _ (List.mem_cons_of_mem _ hp))))) ⟨rfl, gv_int (RS_down2 (by assumption) (by assumption) (by assumption))⟩
end C13

section C14
local macro_rules | `(tactic| walk_at "pad") => `(tactic| skip)
local macro_rules | `(tactic| bits_by_make) => `(tactic| assumption)
theorem max_lo {prog : Program} {w : World} {A : Around} {E : Value → Shared → Prop} {s : Shared} {h₀ : Heap} {L : Addr} {m : Str → Option Value} {news : Led} {a b : Int} {t u : Tok} {Q : Value → Shared → Prop} (hab : ¬ b > a) (hh : A.handled = none) (F : Fr h₀ L s.heap m) (N : News h₀ L s.heap news)
    (h : ∀ t' h' tk, Fr h₀ L h' m → News h₀ L h' news → Q (.int a t') { s with heap := h', toks := tk }) : wpAny (model prog w) A (call (.builtin "max") [.int a t, .int b u]) Q E s :=
  max_two_N hh F N fun h' tk F' N' => by rw [if_neg hab, if_neg hab]; exact h t h' tk F' N'
local macro_rules | `(tactic| walk_at "call builtin:max") => `(tactic| (k_here; k_dflt ((refine' max_lo ?c (by rfl) ?F ?N ?_; (case c => omega); (case F => k_asm); (case N => k_asm)); (intro t' h' tk' F' N'); (try k_sweep); (try dsimp only); (try k_fold))))
set_option maxRecDepth 100000 in
set_option maxHeartbeats 8000000 in
theorem pack_does (w : World) (mean : ExcName → Option Value) (mg mb : Str → Option Value) (x dx : Addr) (e f bias top hid least : Int) (T : FT) (sg m0 : Int) (ts tm te : Tok) (news : Led)
    (hF : FormOk e f bias top hid least) (hx : (x, instObj 31 dx) ∈ news) (hdx : (dx, formD w.params e f bias top hid least T) ∈ news) (hs : sg = 0 ∨ sg = 1) (hm : 0 ≤ m0) (hm2 : m0 < 2 ^ 200) (hb : Builtin.Int.intBits m0 ≤ 300) :
    Does w mean mg mb 106 4 [.ref x, .int sg ts, .int m0 tm, .int 0 te] news (fun r news' => news' = news ∧ ∃ t v, r = .int v t ∧ PackOut hid top sg v (m0 * 2 ^ (0 - least).toNat)) := by
  w_top off
  k_with_none
  k_with "mine call" => (k_dflt (first | (refine' call_cls (by k_asm) (by k_asm) (by k_asm) (by k_is) (by k_is) (by k_is) ?_; k_whole; intro x' d' h' F' N' l1 l2; (try k_lt l1); (try k_lt2 l2); (try k_sweep)) | refine wpAny_call ?_); k_dflt (refine' code_def (by k_asm) (by k_asm) (by k_asm) (by k_asm) (by k_asm) (by exact rfl) (by exact rfl) (by first | exact rfl | assumption) (by k_is) (by k_is) (by ktr_room) (by first | exact BindsTo.of_eq rfl | exact binds_K (by k_in) rfl (by k_is) rfl rfl rfl) (by exact locs rfl) ?_ (by exact rfl) (by exact rfl) (by exact rfl) (by decide); k_whole; intro g' L' h' FG' F' N' B' X' T'; (try dsimp only); (try k_lift B'); (try k_fold)))
  k_with "mine call" => ((with_reducible show wpAny _ _ (call (Value.ref 42) _) _ _ _); k_dflt (refine Does.go (by k_asm) (by k_asm) (by k_asm) (by k_asm) (by k_asm) (by first | exact rfl | assumption) (by first | exact Nat.le_of_ble_eq_true rfl | ktr_room) (by first | exact Nat.le_of_ble_eq_true rfl | ktr_units) (join_does _ _ _ _ _ _ _ _ _ _ _ _ _ _ _ _ _ _ _ _ (by assumption) (by k_mem) (by k_mem) (by first | assumption | omega) (by first | assumption | omega)) ?_; (intro r' n' h' tk' F' N' hO'; obtain ⟨hn', t', hr'⟩ := hO'; replace hn' := hn'.symm; subst hn' hr'); (try k_sweep); (try dsimp only); (try k_fold)))
  k_with "mine call" => ((with_reducible show wpAny _ _ (call (Value.ref 91) _) _ _ _); k_dflt (refine Does.go (by k_asm) (by k_asm) (by k_asm) (by k_asm) (by k_asm) (by first | exact rfl | assumption) (by ktr_room) (by ktr_units) (bc_does _ _ _ _ _ _ _ (by first | assumption | omega) (by first | assumption | omega)) ?_; (intro r' n' h' tk' F' N' hO'; obtain ⟨hn', t', c', hr', hc1', hc2', hc3'⟩ := hO'; replace hn' := hn'.symm; subst hn' hr'); (have hc4' := bc_le hc2' (by assumption)); (try k_sweep); (try dsimp only); (try k_fold)))
  k_with "mine call" => ((with_reducible show wpAny _ _ (call (Value.ref 98) _) _ _ _); k_dflt (refine Does.go (by k_asm) (by k_asm) (by k_asm) (by k_asm) (by k_asm) (by first | exact rfl | assumption) (by ktr_room) (by ktr_units) (rs_does _ _ _ _ _ _ _ _ _  (by assumption) (by first | assumption | omega) (by first | assumption | omega)) ?_; (intro r' n' h' tk' F' N' hO'; obtain ⟨hn', t', hr'⟩ := hO'; replace hn' := hn'.symm; subst hn' hr'); (try simp only [Int.sub_zero]); (try k_sweep); (try dsimp only); (try k_fold)))
  have hh := hF.hidLe
  have ht := hF.topLe
  have hf1 := hF.hf1
  have hf2 := hF.hf2
  have he1 := hF.he1
  have he2 := hF.he2
  have sp := hF.spanPos
  have hl := hF.leastLe
  have hlf := hF.leastF
  unfold Does
  k_fill
  intro dp un gd cn cs a ccd cl outer A₀ base h₀ L m s Q E B F X N Tp hk hd hu hret
  k_steps
  · exact hret _ news _ _ (by assumption) (by first | assumption | exact cb_drop (by assumption) (fun p hp => by first | exact List.mem_cons_of_mem _ hp | exact List.mem_cons_of_mem _ (List.mem_cons_of_mem _ hp) | exact List.mem_cons_of_mem _ (List.mem_cons_of_mem _ (List.mem_cons_of_mem _ hp)) | exact List.mem_cons_of_mem _ (List.mem_cons_of_mem _ (List.mem_cons_of_mem _ (List.mem_cons_of_mem _ hp))))) ⟨rfl, _, _, rfl, by rw [(by assumption : m0 = 0)]; exact hF.pack_zero⟩
  · exact hret _ news _ _ (by assumption) (by first | assumption | exact cb_drop (by assumption) (fun p hp => by first | exact List.mem_cons_of_mem _ hp | exact List.mem_cons_of_mem _ (List.mem_cons_of_mem _ hp) | exact List.mem_cons_of_mem _ (List.mem_cons_of_mem _ (List.mem_cons_of_mem _ hp)) | exact List.mem_cons_of_mem _ (List.mem_cons_of_mem _ (List.mem_cons_of_mem _ (List.mem_cons_of_mem _ hp))))) ⟨rfl, _, _, rfl, hF.pack_carry_inf (by assumption) (by assumption) (by assumption) (by assumption) (by assumption) (by omega)⟩
  · exact hret _ news _ _ (by assumption) (by first | assumption | exact cb_drop (by assumption) (fun p hp => by first | exact List.mem_cons_of_mem _ hp | exact List.mem_cons_of_mem _ (List.mem_cons_of_mem _ hp) | exact List.mem_cons_of_mem _ (List.mem_cons_of_mem _ (List.mem_cons_of_mem _ hp)) | exact List.mem_cons_of_mem _ (List.mem_cons_of_mem _ (List.mem_cons_of_mem _ (List.mem_cons_of_mem _ hp))))) ⟨rfl, _, _, rfl, hF.pack_carry (by assumption) (by assumption) (by assumption) (by assumption) (by assumption) (by omega)⟩
  · exact (hF.pack_no (by assumption) (by assumption) (by assumption) (by assumption) (by omega)).elim
  · exact hret _ news _ _ (by assumption) (by first | assumption | exact cb_drop (by assumption) (fun p hp => by first | exact List.mem_cons_of_mem _ hp | exact List.mem_cons_of_mem _ (List.mem_cons_of_mem _ hp) | exact List.mem_cons_of_mem _ (List.mem_cons_of_mem _ (List.mem_cons_of_mem _ hp)) | exact List.mem_cons_of_mem _ (List.mem_cons_of_mem _ (List.mem_cons_of_mem _ (List.mem_cons_of_mem _ hp))))) ⟨rfl, _, _, rfl, hF.pack_inf (by assumption) (by assumption) (by assumption) (by assumption) (by omega)⟩
  · exact hret _ news _ _ (by assumption) (by first | assumption | exact cb_drop (by assumption) (fun p hp => by first | exact List.mem_cons_of_mem _ hp | exact List.mem_cons_of_mem _ (List.mem_cons_of_mem _ hp) | exact List.mem_cons_of_mem _ (List.mem_cons_of_mem _ (List.mem_cons_of_mem _ hp)) | exact List.mem_cons_of_mem _ (List.mem_cons_of_mem _ (List.mem_cons_of_mem _ (List.mem_cons_of_mem _ hp))))) ⟨rfl, _, _, rfl, hF.pack_main (by assumption) (by assumption) (by assumption) (by assumption) (by assumption) (by omega)⟩
end C14

section C15
theorem bits300 {v : Int} (h0 : 0 ≤ v) (h1 : v < 2 ^ 200) : Builtin.Int.intBits v ≤ 300 := by
  refine intBits_le_iff.mpr ?_
  have c : (2 : Int) ^ 200 = ((2 ^ 200 : Nat) : Int) := by decide
  have d : 2 ^ 200 < 2 ^ 300 := by decide
  rw [c] at h1
  generalize 2 ^ 200 = z at *
  omega
set_option maxRecDepth 100000 in
set_option maxHeartbeats 8000000 in
theorem fromint_does (w : World) (mean : ExcName → Option Value) (mg mb : Str → Option Value) (x dx : Addr) (e f bias top hid least : Int) (T : FT) (n : Int) (tn : Tok) (news : Led)
    (hF : FormOk e f bias top hid least) (hx : (x, instObj 31 dx) ∈ news) (hdx : (dx, formD w.params e f bias top hid least T) ∈ news) (hn1 : -(2 ^ 200) < n) (hn2 : n < 2 ^ 200) :
    Does w mean mg mb 127 5 [.ref x, .int n tn] news (fun r news' => news' = news ∧ ∃ t v, r = .int v t ∧ PackOut hid top (if n < 0 then 1 else 0) v ((if n < 0 then -n else n) * 2 ^ (0 - least).toNat)) := by
  w_top off
  k_with_none
  k_with "mine call" => (k_dflt (first | (refine' call_cls (by k_asm) (by k_asm) (by k_asm) (by k_is) (by k_is) (by k_is) ?_; k_whole; intro x' d' h' F' N' l1 l2; (try k_lt l1); (try k_lt2 l2); (try k_sweep)) | refine wpAny_call ?_); k_dflt (refine' code_def (by k_asm) (by k_asm) (by k_asm) (by k_asm) (by k_asm) (by exact rfl) (by exact rfl) (by first | exact rfl | assumption) (by k_is) (by k_is) (by ktr_room) (by first | exact BindsTo.of_eq rfl | exact binds_K (by k_in) rfl (by k_is) rfl rfl rfl) (by exact locs rfl) ?_ (by exact rfl) (by exact rfl) (by exact rfl) (by decide); k_whole; intro g' L' h' FG' F' N' B' X' T'; (try dsimp only); (try k_lift B'); (try k_fold)))
  k_with "mine call" => ((with_reducible show wpAny _ _ (call (Value.ref 106) _) _ _ _); k_dflt (refine Does.go (by k_asm) (by k_asm) (by k_asm) (by k_asm) (by k_asm) (by first | exact rfl | assumption) (by ktr_room) (by ktr_units) (pack_does _ _ _ _ _ _ _ _ _ _ _ _ _ _ _ _ _ _ _  (by assumption) (by k_mem) (by k_mem) (by first | exact Or.inl rfl | exact Or.inr rfl) (by first | assumption | omega) (by first | assumption | omega) (by exact bits300 (by omega) (by omega))) ?_; (intro r' n' h' tk' F' N' hO'; obtain ⟨hn', t', v', hr', hp'⟩ := hO'; replace hn' := hn'.symm; subst hn' hr'); (try k_sweep); (try dsimp only); (try k_fold)))
  have hh := hF.hidLe
  have ht := hF.topLe
  have hf1 := hF.hf1
  have hf2 := hF.hf2
  have he1 := hF.he1
  have he2 := hF.he2
  have sp := hF.spanPos
  unfold Does
  k_fill
  intro dp un gd cn cs a ccd cl outer A₀ base h₀ L m s Q E B F X N Tp hk hd hu hret
  refine wpAny_call ?_
  k_dflt ktr_enter
  k_steps
  · exact hret _ news _ _ (by assumption) (by assumption) ⟨rfl, _, _, rfl, by rw [if_pos (by assumption), if_pos (by assumption)]; have z : -n = 0 - n := by omega
                                                                              rw [z]; assumption⟩
  · exact hret _ news _ _ (by assumption) (by assumption) ⟨rfl, _, _, rfl, by rw [if_neg (by assumption), if_neg (by assumption)]; assumption⟩
end C15

section P8
section
variable {e f bias top hid least : Int}
theorem FormOk.joinBack (h : FormOk e f bias top hid least) (b : Int) : ((b.fdiv hid).fdiv (2 ^ e.toNat) * 2 ^ e.toNat + Builtin.bitAnd (b.fdiv hid) top) * hid + b.fmod hid = b := by
  obtain ⟨f1, f2, f3, f4, f5, f6, f7, f8, f9⟩ := h.fields b
  rw [f1, f2, f3, h.join]
  have sp := h.spanPos
  have e1 := Int.emod_add_mul_ediv b (hid * (top + 1))
  rw [f5, Int.mul_comm (hid * (top + 1))] at e1
  omega
theorem FormOk.signBack (h : FormOk e f bias top hid least) (b : Int) : (b.fdiv hid).fdiv (2 ^ e.toNat) = b.fdiv (2 ^ (e + f).toNat) := by
  obtain ⟨f1, f2, f3, f4, f5, f6, f7, f8, f9⟩ := h.fields b
  rw [f2, h.span, fd h.spanPos.1]
theorem FormOk.fieldBack (h : FormOk e f bias top hid least) (b : Int) : Builtin.bitAnd (b.fdiv hid) top * 2 ^ f.toNat + b.fmod hid = b.fmod (2 ^ (e + f).toNat) := by
  obtain ⟨f1, f2, f3, f4, f5, f6, f7, f8, f9⟩ := h.fields b
  rw [f1, f3, h.span, fm h.spanPos.1, f5, ← h.hhid]
theorem FormOk.q1 (h : FormOk e f bias top hid least) {n v over : Int} (hp : PackOut hid top (if n < 0 then 1 else 0) v over) (hn : n < 0) : v.fdiv (2 ^ (e + f).toNat) = 1 := by
  rw [h.span, fd h.spanPos.1, hp.q, if_pos hn]
theorem FormOk.q0 (h : FormOk e f bias top hid least) {n v over : Int} (hp : PackOut hid top (if n < 0 then 1 else 0) v over) (hn : ¬ n < 0) : v.fdiv (2 ^ (e + f).toNat) = 0 := by
  rw [h.span, fd h.spanPos.1, hp.q, if_neg hn]
theorem FormOk.n0 (h : FormOk e f bias top hid least) {sg v over : Int} (hp : PackOut hid top sg v over) : 0 ≤ v.fmod (2 ^ (e + f).toNat) := by
  rw [h.span, fm h.spanPos.1]; exact hp.lo
theorem FormOk.n1 (h : FormOk e f bias top hid least) {sg v over : Int} (hp : PackOut hid top sg v over) : v.fmod (2 ^ (e + f).toNat) ≤ top * hid := by
  rw [h.span, fm h.spanPos.1]; exact hp.hi
theorem FormOk.n2 (h : FormOk e f bias top hid least) {sg v over : Int} (hp : PackOut hid top sg v over) : Near hid top (v.fmod (2 ^ (e + f).toNat)) over := by
  rw [h.span, fm h.spanPos.1]; exact hp.near
end
theorem ne_optV {prog : Program} {w : World} {A : Around} {E : Value → Shared → Prop} {s : Shared} {Q : Value → Shared → Prop} {o : Option Int} {t u : Tok} (h : Q (.bool false) s) : wpAny (model prog w) A (compareOp .NotEq (optV o t) (optV o u)) Q E s := by
  cases o with
  | none => exact EqNone.ne_none_none h
  | some a =>
    refine PyProof.Rows.ne_int ?_
    rw [bne_self_eq_false]
    exact h
theorem range_ind {prog : Program} {w : World} {A : Around} {E : Value → Shared → Prop} {s : Shared} {env : Env} {h₀ : Heap} {x : Str} {body : List Stmt} {Q : Flow → Shared → Prop} {I : Addr} {a : Int} {n : Nat} {m₀ : Str → Option Value} {news₀ : Led}
    (J : Nat → (Str → Option Value) → Led → Prop) (h0 : J 0 m₀ news₀)
    (turn : ∀ i m₁ news₁ t h tk, i < n → J i m₁ news₁ → Fr h₀ env.locals h (fun y => if y = x then some (.int (a + (i : Int)) t) else m₁ y) → News h₀ env.locals h ((I, itR (a + ((i + 1 : Nat) : Int)) ((n : Int) - ((i + 1 : Nat) : Int))) :: news₁) →
      wpAny (model prog w) A (execs body env) (UnrPost h₀ env.locals { s with heap := h, toks := tk } I (itR (a + ((i + 1 : Nat) : Int)) ((n : Int) - ((i + 1 : Nat) : Int))) (J (i + 1)) Q) E { s with heap := h, toks := tk })
    (done : ∀ m₁ news₁ h tk, J n m₁ news₁ → Fr h₀ env.locals h m₁ → News h₀ env.locals h news₁ → Q .next { s with heap := h, toks := tk }) :
    RangeRest prog w A E h₀ env x body Q s I a n n 0 m₀ news₀ := by
  have key : ∀ (k i : Nat) (m₁ : Str → Option Value) (news₁ : Led), i + k = n → J i m₁ news₁ → RangeRest prog w A E h₀ env x body Q s I a n k i m₁ news₁ := by
    intro k
    induction k with
    | zero =>
      intro i m₁ news₁ hi hJ
      have e : i = n := by omega
      subst e
      exact RangeRest.zero fun h tk F N => done m₁ news₁ h tk hJ F N
    | succ k ih =>
      intro i m₁ news₁ hi hJ
      refine RangeRest.succ fun t h tk F N => ?_
      refine wpAny_mono (turn i m₁ news₁ t h tk (by omega) hJ F N) (fun f s₂ p => ?_) fun _ _ e => e
      have go : UnrEnd h₀ env.locals { s with heap := h, toks := tk } I (itR (a + ((i + 1 : Nat) : Int)) ((n : Int) - ((i + 1 : Nat) : Int))) (J (i + 1)) s₂ →
          UnrEnd h₀ env.locals { s with heap := h, toks := tk } I (itR (a + ((i + 1 : Nat) : Int)) ((n : Int) - ((i + 1 : Nat) : Int))) (RangeRest prog w A E h₀ env x body Q s I a n k (i + 1)) s₂ := by
        rintro ⟨h', tk', m', news', e, F', N', off, r⟩
        exact ⟨h', tk', m', news', e, F', N', off, ih (i + 1) m' news' (by omega) r⟩
      cases f with
      | ret v => exact p
      | brk => exact p
      | next => exact go p
      | cont => exact go p
  exact key n 0 m₀ news₀ (by omega) h0
theorem wide_use {w : World} {mean : ExcName → Option Value} {mg mb : Str → Option Value} {pa ca : Addr} {most p1 p2 : Int} {tm t1 t2 : Tok} {ws : List Value} {ns : List Int} {news : Led}
    {dp un : Nat} {gd : Option (List Code)} {cn : Str} {cs : Scope} {a : Addr} {ccd : Value} {cl : List (Str × Addr)} {outer : List Env} {A₀ : Around} {base h₀ : Heap} {L : Addr} {m : Str → Option Value} {s : Shared} {Q E : Value → Shared → Prop}
    (B : Below A₀ base outer h₀) (F : Fr h₀ L s.heap m) (X : (hd.heap_39 w.params).In h₀) (N : News h₀ L s.heap news) (T : Top hd.view_39 (looseW hd.view_39 [Str.ofString "pack"]) mean mg mb h₀) (hk : cs.kind = .function) (hd : dp + 2 < recursionLimit) (hu : un + 8 * 2 < cLine)
    (U : Upd pa (poolO ca p1 t1 p2 t2) (poolO ca p1 t1 p2 t2) news news) (hc : (ca, W.listOf ws.toArray 0) ∈ news)
    (hw : IntsAre ws ns) (hn : 0 < ns.length) (hn2 : ns.length ≤ 40) (hpc : @Ne Nat ca pa) (hm : 0 < most) (hm2 : most ≤ 2 ^ 140) (hp1 : 0 ≤ p1) (hp1b : p1 < 2 ^ 29) (hp2 : 0 ≤ p2)
    (ret : ∀ v t p1' t1' p2' t2' h' tk', 0 ≤ v → v < most → v < 2 ^ 140 → Builtin.Int.intBits v ≤ 300 → p1 ≤ p1' → p1' ≤ p1 + 7 → 0 ≤ p2' → Fr h₀ L h' m → (∀ news', Upd pa (poolO ca p1 t1 p2 t2) (poolO ca p1' t1' p2' t2') news news' → News h₀ L h' news') → Q (.int v t) { s with heap := h', toks := tk' }) :
    wpAny (model PySem.Challenge.rw_pb0320_01.row.prog w) (ktrTop dp un gd cn cs L a ccd cl outer) (call (.ref 148) [.ref pa, .int most tm]) Q E s := by
  refine wide_does w mean mg mb pa ca most p1 p2 tm t1 t2 ws ns (offL pa news) hw hn hn2 hpc (offL_off pa news) hm hm2 hp1 hp1b hp2 _ _ _ _ _ _ _ _ _ _ _ _ _ _ _ _ _ B F X (cb_drop N (offL_in (upd_at U) hc)) T hk hd hu ?_
  rintro r news' h' tk' F' N' ⟨v, t, p1', t1', p2', t2', rfl, rfl, h1, h2, h3, h4, h5⟩
  exact ret v t p1' t1' p2' t2' h' tk' h1 h2 (Int.lt_of_lt_of_le h2 hm2) (bits300 h1 (Int.lt_trans (Int.lt_of_lt_of_le h2 hm2) (by decide))) h3 h4 h5 F' fun news' U' => cb_drop N' (offL_out U')
theorem p2_140 {d : Int} (h : d < 20) : (2 : Int) ^ (1 + 7 * d).toNat ≤ 2 ^ 140 := p2le (by omega)
theorem fr1 {g : Heap} {L : Addr} {h : Heap} {m : Str → Option Value} {a x : Str} {va vx : Value} (F : Fr g L h (fun y => if y = x then some vx else m y)) (ea : m a = some va) :
    Fr g L h (fun y => if y = x then some vx else if y = a then some va else m y) := by
  have e : (fun y => if y = x then some vx else if y = a then some va else m y) = (fun y => if y = x then some vx else m y) := by
    funext y
    by_cases h1 : y = x
    · rw [if_pos h1, if_pos h1]
    · rw [if_neg h1, if_neg h1]
      by_cases h2 : y = a
      · rw [if_pos h2, h2, ea]
      · rw [if_neg h2]
  rw [e]
  exact F
/-- between two turns: the pool and its cells -/
def JT (pa ca : Addr) (ws : List Value) (i : Nat) (m : Str → Option Value) (nx : Led) : Prop :=
  ∃ p1 t1 p2 t2, m (Str.ofString "pool") = some (.ref pa) ∧ nx = [(pa, poolO ca p1 t1 p2 t2), (ca, W.listOf ws.toArray 0)] ∧ 0 ≤ p1 ∧ p1 ≤ 30 * (i : Int) ∧ 0 ≤ p2
theorem take_len (l : List Int) : 0 < (List.take 40 (l ++ [0])).length ∧ (List.take 40 (l ++ [0])).length ≤ 40 := by
  rw [List.length_take, List.length_append]
  simp only [List.length_cons, List.length_nil]
  omega
/-- p stands at most k draws behind p0 -/
def UB (p0 p : Int) (k : Nat) : Prop := 0 ≤ p ∧ p ≤ p0 + (k : Int)
theorem UB.start {p : Int} (h : 0 ≤ p) : UB p p 0 := ⟨h, by omega⟩
theorem UB.lo {p0 p : Int} {k : Nat} (h : UB p0 p k) : 0 ≤ p := h.1
theorem UB.lt {p0 p : Int} {k : Nat} (h : UB p0 p k) (h0 : p0 ≤ 120) (hk : k ≤ 1000) : p < 2 ^ 29 := by
  have := h.2
  have e : (2 : Int) ^ 29 = 536870912 := by decide
  omega
theorem UB.lt' {p0 p : Int} {k : Nat} (h : UB p0 p k) (h0 : p0 ≤ 120) (hk : k ≤ 1000) : p < 2 ^ 30 :=
  Int.lt_trans (h.lt h0 hk) (by decide)
theorem UB.d {p0 p p' : Int} {k : Nat} (h : UB p0 p k) (a : p ≤ p') (b : p' ≤ p + 1) : UB p0 p' (k + 1) :=
  ⟨Int.le_trans h.1 a, by have := h.2; omega⟩
theorem UB.w {p0 p p' : Int} {k : Nat} (h : UB p0 p k) (a : p ≤ p') (b : p' ≤ p + 7) : UB p0 p' (k + 7) :=
  ⟨Int.le_trans h.1 a, by have := h.2; omega⟩
theorem UB.mono {p0 p : Int} {k k' : Nat} (h : UB p0 p k) (hk : k ≤ k') : UB p0 p k' :=
  ⟨h.1, by have := h.2; omega⟩
theorem UB.turn {p0 p : Int} {k i : Nat} (h : UB p0 p k) (h0 : p0 ≤ 30 * (i : Int)) (hk : k ≤ 30) : p ≤ 30 * ((i + 1 : Nat) : Int) := by
  have := h.2
  omega
end P8

section P9
theorem upd_new {d : Addr} {o o' : Obj} : ∀ {l l' : Led}, Upd d o o' l l' → (d, o') ∈ l'
  | _, _, .head _ => .head _
  | _, _, .tail _ r => .tail _ (upd_new r)
theorem upd_keep {d : Addr} {o o' : Obj} : ∀ {l l' : Led}, Upd d o o' l l' → ∀ p ∈ l, p.1 ≠ d → p ∈ l'
  | _, _, .head _, p, hp, hd => by
    rcases List.mem_cons.mp hp with rfl | hp
    · exact absurd rfl hd
    · exact .tail _ hp
  | _, _, .tail _ r, p, hp, hd => by
    rcases List.mem_cons.mp hp with rfl | hp
    · exact .head _
    · exact .tail _ (upd_keep r p hp hd)
/-- behind the drawing of b: one way or the other, an int within its bound -/
def JB (s : Shared) (h₀ : Heap) (L : Addr) (m : Str → Option Value) (news : Led) (pa ca : Addr) (p1 : Int) (t1 : Tok) (p2 : Int) (t2 : Tok) (p0 : Int) (k : Nat) (B : Int) (fl : Flow) (s' : Shared) : Prop :=
  fl = .next ∧ ∃ v tv h tk p1' t1' p2' t2' news', s' = { s with heap := h, toks := tk } ∧ Fr h₀ L h (fun y => if y = Str.ofString "b" then some (.int v tv) else m y) ∧ News h₀ L h news' ∧
    Upd pa (poolO ca p1 t1 p2 t2) (poolO ca p1' t1' p2' t2') news news' ∧ 0 ≤ v ∧ v < B ∧ UB p0 p1' (k + 3) ∧ 0 ≤ p2'
theorem join_b {M : Model} {A : Around} {E : Value → Shared → Prop} {Q : Flow → Shared → Prop} {t : Sem Flow} {s : Shared} {h₀ : Heap} {L : Addr} {m : Str → Option Value} {news : Led} {pa ca : Addr} {p1 p2 : Int} {t1 t2 : Tok} {e f bias top hid least : Int} {p0 : Int} {k : Nat}
    (hF0 : FormOk e f bias top hid least) (F0 : Fr h₀ L s.heap m) (N0 : News h₀ L s.heap news) (P0 : m (Str.ofString "pool") = some (.ref pa)) (U0 : Upd pa (poolO ca p1 t1 p2 t2) (poolO ca p1 t1 p2 t2) news news) (B0 : UB p0 p1 k)
    (h1 : wpAny M A t (JB s h₀ L m news pa ca p1 t1 p2 t2 p0 k (2 * (hid * (top + 1)))) E s)
    (h2 : ∀ v tv h tk p1' t1' p2' t2', 0 ≤ v → v < 2 * (hid * (top + 1)) → UB p0 p1' (k + 3) → 0 ≤ p2' → Fr h₀ L h (fun y => if y = Str.ofString "b" then some (.int v tv) else m y) →
      (∀ news', Upd pa (poolO ca p1 t1 p2 t2) (poolO ca p1' t1' p2' t2') news news' → News h₀ L h news') → Q .next { s with heap := h, toks := tk }) : wpAny M A t Q E s := by
  refine wpAny_mono h1 (fun fl s' hJ => ?_) fun _ _ x => x
  obtain ⟨rfl, v, tv, h, tk, p1', t1', p2', t2', news', rfl, F', N', U', a1, a2, a3, a4⟩ := hJ
  refine h2 v tv h tk p1' t1' p2' t2' a1 a2 a3 a4 F' fun news'' U'' p hp => ?_
  rcases upd_mem U'' p hp with rfl | ⟨q1, q2⟩
  · exact N' _ (upd_new U')
  · exact N' _ (upd_keep U' p q1 q2)
theorem fr_same {g : Heap} {L : Addr} {h : Heap} {m : Str → Option Value} {b : Str} {v : Value} (F : Fr g L h m) (e : m b = some v) : Fr g L h (fun y => if y = b then some v else m y) := by
  have q : (fun y => if y = b then some v else m y) = m := by
    funext y
    by_cases h1 : y = b
    · rw [if_pos h1, h1, e]
    · rw [if_neg h1]
  rw [q]
  exact F
theorem fm_lo {x b : Int} (hb : 0 < b) : 0 ≤ x.fmod b := (fmod_nn hb).1
theorem fm_hi {x b B : Int} (hb : 0 < b) (h : b ≤ B) : x.fmod b < B := Int.lt_of_lt_of_le (fmod_nn hb).2 h
end P9

section P10
/-- behind a loop that stores but the names of xs, and keeps the ledger -/
def JF (s : Shared) (h₀ : Heap) (L : Addr) (m : Str → Option Value) (news : Led) (P : Str → Prop) (fl : Flow) (s' : Shared) : Prop :=
  fl = .next ∧ ∃ (m' : Str → Option Value) (h : Heap) (tk : Nat), s' = { s with heap := h, toks := tk } ∧ Fr h₀ L h m' ∧ (∀ y, P y → m' y = m y) ∧ News h₀ L h news
theorem join_f {M : Model} {A : Around} {E : Value → Shared → Prop} {Q : Flow → Shared → Prop} {t : Sem Flow} {s : Shared} {h₀ : Heap} {L : Addr} {m : Str → Option Value} {news : Led} (P : Str → Prop)
    (F0 : Fr h₀ L s.heap m) (N0 : News h₀ L s.heap news)
    (h1 : wpAny M A t (JF s h₀ L m news P) E s)
    (h2 : ∀ m' h tk, (∀ y, P y → m' y = m y) → Fr h₀ L h m' → News h₀ L h news → Q .next { s with heap := h, toks := tk }) : wpAny M A t Q E s := by
  refine wpAny_mono h1 (fun fl s' hJ => ?_) fun _ _ x => x
  obtain ⟨rfl, m', h, tk, rfl, F', e, N'⟩ := hJ
  exact h2 m' h tk e F' N'
theorem ne_false {a b : Int} (h : a = b) : (a != b) = false := by
  rw [h]
  exact bne_self_eq_false b
end P10

section P11
theorem FormOk.span8 {e f bias top hid least : Int} (h : FormOk e f bias top hid least) : 8 ≤ hid * (top + 1) :=
  Int.mul_le_mul h.hidLe.1 (show 4 ≤ top + 1 by have := h.topLe; omega) (by decide) (by have := h.hidLe; omega)
section
variable {prog : Program} {w : World} {A : Around} {E : Value → Shared → Prop} {s : Shared} {env : Env} {h₀ : Heap} {target : PySem.Expr} {body : List Stmt} {Q : Flow → Shared → Prop}
theorem iter_ints5 {ax : Addr} {a1 a2 a3 a4 a5 : Int} {t1 t2 t3 t4 t5 : Tok} {m₀ : Str → Option Value} {news : Led} (P : Int → Prop) (J : (Str → Option Value) → Prop)
    (hh : A.handled = none) (F : Fr h₀ env.locals s.heap m₀) (N : News h₀ env.locals s.heap news) (hm : (ax, ({ cls := .type "tuple", data := .seq #[.int a1 t1, .int a2 t2, .int a3 t3, .int a4 t4, .int a5 t5] } : Obj)) ∈ news)
    (hP : P a1 ∧ P a2 ∧ P a3 ∧ P a4 ∧ P a5) (hJ : J m₀)
    (turn : ∀ I v t m₁ h tk (it : Obj), (∀ p ∈ news, p.1 < I) → it.cls = .type "tuple_iterator" → P v → J m₁ → Fr h₀ env.locals h m₁ → News h₀ env.locals h ((I, it) :: news) →
      wpAny (model prog w) A (assign target env (.int v t)) (fun _ s₂ => wpAny (model prog w) A (execs body env) (JI s h₀ env.locals ((I, it) :: news) J) E s₂) E { s with heap := h, toks := tk })
    (done : ∀ m₁ h tk, J m₁ → Fr h₀ env.locals h m₁ → News h₀ env.locals h news → Q .next { s with heap := h, toks := tk }) :
    wpAny (model prog w) A (pyIter (.ref ax)) (fun it s₂ => TurnsAt prog w A h₀ env target body Q E it s₂) E s :=
  iter_tupTurns (vs := [.int a1 t1, .int a2 t2, .int a3 t3, .int a4 t4, .int a5 t5]) hh F N hm rfl rfl fun I l1 =>
    items_ind (keep := [(ax, ({ cls := .type "tuple", data := .seq #[.int a1 t1, .int a2 t2, .int a3 t3, .int a4 t4, .int a5 t5] } : Obj))]) (news := news) P J (And.intro hm trivial) l1 (fun v t m₁ h tk it => turn I v t m₁ h tk it l1) done [(a1, t1), (a2, t2), (a3, t3), (a4, t4), (a5, t5)]
      (by
        intro x hx
        rcases List.mem_cons.mp hx with rfl | hx
        · exact hP.1
        rcases List.mem_cons.mp hx with rfl | hx
        · exact hP.2.1
        rcases List.mem_cons.mp hx with rfl | hx
        · exact hP.2.2.1
        rcases List.mem_cons.mp hx with rfl | hx
        · exact hP.2.2.2.1
        rw [List.mem_singleton.mp hx]; exact hP.2.2.2.2) m₀ hJ
theorem iter_ints3 {ax : Addr} {a1 a2 a3 : Int} {t1 t2 t3 : Tok} {m₀ : Str → Option Value} {news : Led} (P : Int → Prop) (J : (Str → Option Value) → Prop)
    (hh : A.handled = none) (F : Fr h₀ env.locals s.heap m₀) (N : News h₀ env.locals s.heap news) (hm : (ax, ({ cls := .type "tuple", data := .seq #[.int a1 t1, .int a2 t2, .int a3 t3] } : Obj)) ∈ news)
    (hP : P a1 ∧ P a2 ∧ P a3) (hJ : J m₀)
    (turn : ∀ I v t m₁ h tk (it : Obj), (∀ p ∈ news, p.1 < I) → it.cls = .type "tuple_iterator" → P v → J m₁ → Fr h₀ env.locals h m₁ → News h₀ env.locals h ((I, it) :: news) →
      wpAny (model prog w) A (assign target env (.int v t)) (fun _ s₂ => wpAny (model prog w) A (execs body env) (JI s h₀ env.locals ((I, it) :: news) J) E s₂) E { s with heap := h, toks := tk })
    (done : ∀ m₁ h tk, J m₁ → Fr h₀ env.locals h m₁ → News h₀ env.locals h news → Q .next { s with heap := h, toks := tk }) :
    wpAny (model prog w) A (pyIter (.ref ax)) (fun it s₂ => TurnsAt prog w A h₀ env target body Q E it s₂) E s :=
  iter_tupTurns (vs := [.int a1 t1, .int a2 t2, .int a3 t3]) hh F N hm rfl rfl fun I l1 =>
    items_ind (keep := [(ax, ({ cls := .type "tuple", data := .seq #[.int a1 t1, .int a2 t2, .int a3 t3] } : Obj))]) (news := news) P J (And.intro hm trivial) l1 (fun v t m₁ h tk it => turn I v t m₁ h tk it l1) done [(a1, t1), (a2, t2), (a3, t3)]
      (by
        intro x hx
        rcases List.mem_cons.mp hx with rfl | hx
        · exact hP.1
        rcases List.mem_cons.mp hx with rfl | hx
        · exact hP.2.1
        rw [List.mem_singleton.mp hx]; exact hP.2.2) m₀ hJ
end
theorem bits_neg300 {v : Int} (h : Builtin.Int.intBits v ≤ 300) : Builtin.Int.intBits (0 - v) ≤ 300 := by
  rw [intBits_le_iff] at *
  omega
def PB (hid top : Int) (v : Int) : Prop := 0 ≤ v ∧ v < 2 * (hid * (top + 1))
def PE (v : Int) : Prop := -(2 ^ 200) < v ∧ v < 2 ^ 200 ∧ Builtin.Int.intBits v ≤ 300
theorem iter_form5 {prog : Program} {w : World} {A : Around} {E : Value → Shared → Prop} {s : Shared} {env : Env} {h₀ : Heap} {target : PySem.Expr} {body : List Stmt} {Q : Flow → Shared → Prop}
    {e f bias top hid least : Int} (hF0 : FormOk e f bias top hid least)
    {ax : Addr} {a1 a2 a3 a4 a5 : Int} {t1 t2 t3 t4 t5 : Tok} {m₀ : Str → Option Value} {news : Led} (R : Str → Prop)
    (hh : A.handled = none) (F : Fr h₀ env.locals s.heap m₀) (N : News h₀ env.locals s.heap news) (hm : (ax, ({ cls := .type "tuple", data := .seq #[.int a1 t1, .int a2 t2, .int a3 t3, .int a4 t4, .int a5 t5] } : Obj)) ∈ news)
    (hP : PB hid top a1 ∧ PB hid top a2 ∧ PB hid top a3 ∧ PB hid top a4 ∧ PB hid top a5)
    (turn : ∀ I v t m₁ h tk (it : Obj), (∀ p ∈ news, p.1 < I) → it.cls = .type "tuple_iterator" → 0 ≤ v → v < 2 * (hid * (top + 1)) → (∀ y, R y → m₁ y = m₀ y) → Fr h₀ env.locals h m₁ → News h₀ env.locals h ((I, it) :: news) →
      wpAny (model prog w) A (assign target env (.int v t)) (fun _ s₂ => wpAny (model prog w) A (execs body env) (JI s h₀ env.locals ((I, it) :: news) (JM m₀ R)) E s₂) E { s with heap := h, toks := tk })
    (done : ∀ m₁ h tk, (∀ y, R y → m₁ y = m₀ y) → Fr h₀ env.locals h m₁ → News h₀ env.locals h news → Q .next { s with heap := h, toks := tk }) :
    wpAny (model prog w) A (pyIter (.ref ax)) (fun it s₂ => TurnsAt prog w A h₀ env target body Q E it s₂) E s :=
  iter_ints5 (PB hid top) (JM m₀ R) hh F N hm hP JM.rfl (fun I v t m₁ h tk it l1 hc hv hJ F' N' => turn I v t m₁ h tk it l1 hc hv.1 hv.2 hJ F' N') done
/-- a tuple of two ints on the ledger, each a number of the form by its bits -/
def TP (hid top : Int) (news : Led) (v : Value) : Prop :=
  ∃ b p tp q tq, v = .ref b ∧ (b, ({ cls := .type "tuple", data := .seq #[.int p tp, .int q tq] } : Obj)) ∈ news ∧ PB hid top p ∧ PB hid top q
theorem iter_pairs5 {prog : Program} {w : World} {A : Around} {E : Value → Shared → Prop} {s : Shared} {env : Env} {h₀ : Heap} {target : PySem.Expr} {body : List Stmt} {Q : Flow → Shared → Prop}
    {e f bias top hid least : Int} (hF0 : FormOk e f bias top hid least)
    {ax : Addr} {v1 v2 v3 v4 v5 : Value} {m₀ : Str → Option Value} {news : Led} (R : Str → Prop)
    (hh : A.handled = none) (F : Fr h₀ env.locals s.heap m₀) (N : News h₀ env.locals s.heap news) (hm : (ax, ({ cls := .type "tuple", data := .seq #[v1, v2, v3, v4, v5] } : Obj)) ∈ news)
    (hP1 : TP hid top news v1) (hP2 : TP hid top news v2) (hP3 : TP hid top news v3) (hP4 : TP hid top news v4) (hP5 : TP hid top news v5)
    (turn : ∀ I b p tp q tq m₁ h tk (it : Obj), (∀ p ∈ news, p.1 < I) → it.cls = .type "tuple_iterator" → (b, ({ cls := .type "tuple", data := .seq #[.int p tp, .int q tq] } : Obj)) ∈ news → 0 ≤ p → p < 2 * (hid * (top + 1)) → 0 ≤ q → q < 2 * (hid * (top + 1)) →
      (∀ y, R y → m₁ y = m₀ y) → Fr h₀ env.locals h m₁ → News h₀ env.locals h ((I, it) :: news) →
      wpAny (model prog w) A (assign target env (.ref b)) (fun _ s₂ => wpAny (model prog w) A (execs body env) (JI s h₀ env.locals ((I, it) :: news) (JM m₀ R)) E s₂) E { s with heap := h, toks := tk })
    (done : ∀ m₁ h tk, (∀ y, R y → m₁ y = m₀ y) → Fr h₀ env.locals h m₁ → News h₀ env.locals h news → Q .next { s with heap := h, toks := tk }) :
    wpAny (model prog w) A (pyIter (.ref ax)) (fun it s₂ => TurnsAt prog w A h₀ env target body Q E it s₂) E s :=
  iter_tupTurns (vs := [v1, v2, v3, v4, v5]) hh F N hm rfl rfl fun I l1 =>
    items_indV (keep := [(ax, ({ cls := .type "tuple", data := .seq #[v1, v2, v3, v4, v5] } : Obj))]) (news := news) (TP hid top news) (JM m₀ R) (And.intro hm trivial) l1
      (fun v m₁ h tk it hc hv hJ F' N' => by
        obtain ⟨b, p, tp, q, tq, rfl, hb, hp, hq⟩ := hv
        exact turn I b p tp q tq m₁ h tk it l1 hc hb hp.1 hp.2 hq.1 hq.2 hJ F' N') done [v1, v2, v3, v4, v5]
      (by
        intro x hx
        rcases List.mem_cons.mp hx with rfl | hx
        · exact hP1
        rcases List.mem_cons.mp hx with rfl | hx
        · exact hP2
        rcases List.mem_cons.mp hx with rfl | hx
        · exact hP3
        rcases List.mem_cons.mp hx with rfl | hx
        · exact hP4
        rw [List.mem_singleton.mp hx]; exact hP5) m₀ JM.rfl
theorem iter_ex3 {prog : Program} {w : World} {A : Around} {E : Value → Shared → Prop} {s : Shared} {env : Env} {h₀ : Heap} {target : PySem.Expr} {body : List Stmt} {Q : Flow → Shared → Prop}
    {ax : Addr} {a1 a2 a3 : Int} {t1 t2 t3 : Tok} {m₀ : Str → Option Value} {news : Led} (R : Str → Prop)
    (hh : A.handled = none) (F : Fr h₀ env.locals s.heap m₀) (N : News h₀ env.locals s.heap news) (hm : (ax, ({ cls := .type "tuple", data := .seq #[.int a1 t1, .int a2 t2, .int a3 t3] } : Obj)) ∈ news)
    (hP : PE a1 ∧ PE a2 ∧ PE a3)
    (turn : ∀ I v t m₁ h tk (it : Obj), (∀ p ∈ news, p.1 < I) → it.cls = .type "tuple_iterator" → -(2 ^ 200) < v → v < 2 ^ 200 → Builtin.Int.intBits v ≤ 300 → (∀ y, R y → m₁ y = m₀ y) → Fr h₀ env.locals h m₁ → News h₀ env.locals h ((I, it) :: news) →
      wpAny (model prog w) A (assign target env (.int v t)) (fun _ s₂ => wpAny (model prog w) A (execs body env) (JI s h₀ env.locals ((I, it) :: news) (JM m₀ R)) E s₂) E { s with heap := h, toks := tk })
    (done : ∀ m₁ h tk, (∀ y, R y → m₁ y = m₀ y) → Fr h₀ env.locals h m₁ → News h₀ env.locals h news → Q .next { s with heap := h, toks := tk }) :
    wpAny (model prog w) A (pyIter (.ref ax)) (fun it s₂ => TurnsAt prog w A h₀ env target body Q E it s₂) E s :=
  iter_ints3 PE (JM m₀ R) hh F N hm hP JM.rfl (fun I v t m₁ h tk it l1 hc hv hJ F' N' => turn I v t m₁ h tk it l1 hc hv.1 hv.2.1 hv.2.2 hJ F' N') done
theorem PE_pos {v : Int} (h0 : 0 ≤ v) (h1 : v < 2 ^ 140) (hb : Builtin.Int.intBits v ≤ 300) : PE v ∧ PE (0 - v) := by
  have c : (2 : Int) ^ 140 < 2 ^ 200 := by decide
  generalize hz : (2 : Int) ^ 200 = z at *
  generalize (2 : Int) ^ 140 = y at *
  have b2 := bits_neg300 hb
  unfold PE
  rw [hz]
  exact ⟨⟨by omega, by omega, hb⟩, by omega, by omega, b2⟩
theorem PE_small {v : Int} (h0 : 0 ≤ v) (h1 : v < 40) : PE (v - 20) := by
  refine ⟨?_, ?_, ?_⟩
  · omega
  · omega
  · exact Nat.le_trans (intBits_le_64 (by omega) (by omega)) (by decide)
end P11

section L5
local macro_rules | `(tactic| walk_at "subscriptTail BinOp Name Add List Slice ref ref") => `(tactic| walk_at "last subscriptTail")
local macro_rules | `(tactic| bits_by_make) => `(tactic| assumption)
local macro_rules | `(tactic| walk_at "compareOp NotEq") => `(tactic| (k_here; k_dflt (refine ne_optV ?_)))
local macro_rules | `(tactic| walk_at "ite") => `(tactic| (k_here; k_extra "mine ite"))
set_option maxRecDepth 100000 in
set_option maxHeartbeats 8000000 in
theorem law_ok : PySem.Challenge.rw_pb0320_01.Holds := by
  w_top off
  k_with_none
  k_with "mine ite" => (with_reducible refine ite_isFalse (ne_false (FormOk.joinBack (by k_dflt assumption) _)) ?_)
  k_with "mine ite" => (with_reducible refine ite_isFalse (ne_false (FormOk.signBack (by k_dflt assumption) _)) ?_)
  k_with "mine ite" => (with_reducible refine ite_isFalse (ne_false (FormOk.fieldBack (by k_dflt assumption) _)) ?_)
  k_with "mine ite" => (with_reducible refine ite_isFalse (ne_false (FormOk.q1 (by k_dflt assumption) (by k_dflt assumption) (by k_dflt assumption))) ?_)
  k_with "mine ite" => (with_reducible refine ite_isFalse (ne_false (FormOk.q0 (by k_dflt assumption) (by k_dflt assumption) (by k_dflt assumption))) ?_)
  k_with "mine call" => (k_dflt (first | (refine' call_cls (by k_asm) (by k_asm) (by k_asm) (by k_is) (by k_is) (by k_is) ?_; k_whole; intro x' d' h' F' N' l1 l2; (try k_lt l1); (try k_lt2 l2); (try k_sweep)) | refine wpAny_call ?_); k_dflt (refine' code_def (by k_asm) (by k_asm) (by k_asm) (by k_asm) (by k_asm) (by exact rfl) (by exact rfl) (by first | exact rfl | assumption) (by k_is) (by k_is) (by ktr_room) (by first | exact BindsTo.of_eq rfl | exact binds_K (by k_in) rfl (by k_is) rfl rfl rfl) (by exact locs rfl) ?_ (by exact rfl) (by exact rfl) (by exact rfl) (by decide); k_whole; intro g' L' h' FG' F' N' B' X' T'; (try dsimp only); (try k_lift B'); (try k_fold)))
  k_with "mine call" => ((with_reducible show wpAny _ _ (call (Value.ref 49) _) _ _ _); k_dflt (refine Does.go (by k_asm) (by k_asm) (by k_asm) (by k_asm) (by k_asm) (by first | exact rfl | assumption) (by first | exact Nat.le_of_ble_eq_true rfl | ktr_room) (by first | exact Nat.le_of_ble_eq_true rfl | ktr_units) (split_does _ _ _ _ _ _ _ _ _ _ _ _ _ _ _ _ (by assumption) (by k_mem) (by k_mem)) ?_; (intro r' n' h' tk' F' N' hO'; obtain ⟨y', t1', t2', t3', hr', hn', l1'⟩ := hO'; subst hr' hn'); (try k_lt l1'); (try k_sweep); (try dsimp only); (try k_fold)))
  k_with "mine call" => ((with_reducible show wpAny _ _ (call (Value.ref 42) _) _ _ _); k_dflt (refine Does.go (by k_asm) (by k_asm) (by k_asm) (by k_asm) (by k_asm) (by first | exact rfl | assumption) (by first | exact Nat.le_of_ble_eq_true rfl | ktr_room) (by first | exact Nat.le_of_ble_eq_true rfl | ktr_units) (join_does _ _ _ _ _ _ _ _ _ _ _ _ _ _ _ _ _ _ _ _ (by assumption) (by k_mem) (by k_mem) (by first | exact (FormOk.sg01 (by assumption) (by assumption) (by assumption)).1 | omega) (by first | exact (FormOk.sg01 (by assumption) (by assumption) (by assumption)).2 | omega)) ?_; (intro r' n' h' tk' F' N' hO'; obtain ⟨hn', t', hr'⟩ := hO'; replace hn' := hn'.symm; subst hn' hr'); (try k_sweep); (try dsimp only); (try k_fold)))
  k_with "mine call" => ((with_reducible show wpAny _ _ (call (Value.ref 141) _) _ _ _); k_dflt (refine digit_use (by k_asm) (by k_asm) (by k_asm) (by k_asm) (by k_asm) (by first | exact rfl | assumption) (by first | exact Nat.le_of_ble_eq_true rfl | ktr_room) (by first | exact Nat.le_of_ble_eq_true rfl | ktr_units) (by k_upd) (by k_mem) (by assumption) (by first | assumption | exact (take_len _).1) (by first | assumption | exact (take_len _).2) (by first | assumption | omega) (by first | assumption | omega) (by first | assumption | omega) (by first | exact UB.lo (by assumption) | omega) (by first | exact UB.lt' (by assumption) (by assumption) (by decide) | omega) (by first | assumption | omega) ?_; (intro v' t' p1' t1' p2' t2' h' tk' hv1 hv2 hq1 hq2 hq3 F' NU'); (have hub' := UB.d (by assumption) hq1 hq2); (clear hq1 hq2); (have N' := NU' _ (by k_upd)); clear NU'; (try k_sweep); (try dsimp only); (try k_fold)))
  k_with "mine call" => ((with_reducible show wpAny _ _ (call (Value.ref 148) _) _ _ _); k_dflt (refine wide_use (by k_asm) (by k_asm) (by k_asm) (by k_asm) (by k_asm) (by first | exact rfl | assumption) (by first | exact Nat.le_of_ble_eq_true rfl | ktr_room) (by first | exact Nat.le_of_ble_eq_true rfl | ktr_units) (by k_upd) (by k_mem) (by assumption) (by first | assumption | exact (take_len _).1) (by first | assumption | exact (take_len _).2) (by first | assumption | omega) (by first | omega | exact p2pos _) (by first | omega | exact p2_140 (by omega)) (by first | exact UB.lo (by assumption) | omega) (by first | exact UB.lt (by assumption) (by assumption) (by decide) | omega) (by first | assumption | omega) ?_; (intro v' t' p1' t1' p2' t2' h' tk' hv1 hv2 hv3 hv4 hq1 hq2 hq3 F' NU'); (have hub' := UB.w (by assumption) hq1 hq2); (clear hq1 hq2); (have N' := NU' _ (by k_upd)); clear NU'; (try k_sweep); (try dsimp only); (try k_fold)))
  k_with "mine call" => ((with_reducible show wpAny _ _ (call (Value.ref 31) _) _ _ _); k_dflt (refine Does.go (by k_asm) (by k_asm) (by k_asm) (by k_asm) (by k_asm) (by first | exact rfl | assumption) (by first | exact Nat.le_of_ble_eq_true rfl | ktr_room) (by first | exact Nat.le_of_ble_eq_true rfl | ktr_units) (form_does _ _ _ _ _ _ _ _ _ (by first | assumption | omega) (by first | assumption | omega) (by first | assumption | omega) (by first | assumption | omega)) ?_; (intro r' n' h' tk' F' N' hO'); (obtain ⟨x', dx', bias', top', hid', least', T', hr', hn', hF', l1, l2⟩ := hO'); (subst hr' hn'); (try k_lt l1); (try k_lt2 l2); (have hh' := hF'.hidLe); (have ht' := hF'.topLe); (have sp' := hF'.spanPos); (have g0' := hF'.span); (have hl' := hF'.leastLe); (have hph' := hF'.hhid); (have sp8' := hF'.span8); (try k_sweep); (try dsimp only); (try k_fold)))
  k_with "mine call" => ((with_reducible show wpAny _ _ (call (Value.ref 113) _) _ _ _); k_dflt (refine Does.go (by k_asm) (by k_asm) (by k_asm) (by k_asm) (by k_asm) (by first | exact rfl | assumption) (by first | exact Nat.le_of_ble_eq_true rfl | ktr_room) (by first | exact Nat.le_of_ble_eq_true rfl | ktr_units) (cmp_does _ _ _ _ _ _ _ _ _ _ _ _ _ _ _ _ _ _  (by assumption) (by k_mem) (by k_mem) (by first | assumption | omega) (by first | assumption | omega) (by first | assumption | omega) (by first | assumption | omega)) ?_; (intro r' n' h' tk' F' N' hO'; obtain ⟨hn', t', hr'⟩ := hO'; replace hn' := hn'.symm; subst hn' hr'); (try k_sweep); (try dsimp only); (try k_fold)))
  k_with "mine call" => ((with_reducible show wpAny _ _ (call (Value.ref 176) _) _ _ _); k_dflt (refine Does.go (by k_asm) (by k_asm) (by k_asm) (by k_asm) (by k_asm) (by first | exact rfl | assumption) (by first | exact Nat.le_of_ble_eq_true rfl | ktr_room) (by first | exact Nat.le_of_ble_eq_true rfl | ktr_units) (ord_does _ _ _ _ _ _ _ _ _ _ _ _ _ _ _ _ _ _  (by assumption) (by k_mem) (by k_mem) (by first | assumption | omega) (by first | assumption | omega) (by first | assumption | omega) (by first | assumption | omega)) ?_; (intro r' n' h' tk' F' N' hO'; obtain ⟨hn', t', hr'⟩ := hO'; replace hn' := hn'.symm; subst hn' hr'); (try k_sweep); (try dsimp only); (try k_fold)))
  k_with "mine call" => ((with_reducible show wpAny _ _ (call (Value.ref 134) _) _ _ _); k_dflt (refine Does.go (by k_asm) (by k_asm) (by k_asm) (by k_asm) (by k_asm) (by first | exact rfl | assumption) (by first | exact Nat.le_of_ble_eq_true rfl | ktr_room) (by first | exact Nat.le_of_ble_eq_true rfl | ktr_units) (floor_does _ _ _ _ _ _ _ _ _ _ _ _ _ _ _ _  (by assumption) (by k_mem) (by k_mem) (by first | assumption | omega) (by first | assumption | omega)) ?_; (intro r' n' h' tk' F' N' hO'; obtain ⟨hn', t', hr'⟩ := hO'; replace hn' := hn'.symm; subst hn' hr'); (try k_sweep); (try dsimp only); (try k_fold)))
  k_with "mine call" => ((with_reducible show wpAny _ _ (call (Value.ref 183) _) _ _ _); k_dflt (refine Does.go (by k_asm) (by k_asm) (by k_asm) (by k_asm) (by k_asm) (by first | exact rfl | assumption) (by first | exact Nat.le_of_ble_eq_true rfl | ktr_room) (by first | exact Nat.le_of_ble_eq_true rfl | ktr_units) (lfl_does _ _ _ _ _ _ _ _ _ _ _ _ _ _ _ _  (by assumption) (by k_mem) (by k_mem) (by first | assumption | omega) (by first | assumption | omega)) ?_; (intro r' n' h' tk' F' N' hO'; obtain ⟨hn', t', hr'⟩ := hO'; replace hn' := hn'.symm; subst hn' hr'); (try k_sweep); (try dsimp only); (try k_fold)))
  k_with "mine call" => ((with_reducible show wpAny _ _ (call (Value.ref 127) _) _ _ _); k_dflt (refine Does.go (by k_asm) (by k_asm) (by k_asm) (by k_asm) (by k_asm) (by first | exact rfl | assumption) (by first | exact Nat.le_of_ble_eq_true rfl | ktr_room) (by first | exact Nat.le_of_ble_eq_true rfl | ktr_units) (fromint_does _ _ _ _ _ _ _ _ _ _ _ _ _ _ _ _  (by assumption) (by k_mem) (by k_mem) (by first | assumption | omega) (by first | assumption | omega)) ?_; (intro r' n' h' tk' F' N' hO'; obtain ⟨hn', t', v', hr', hp'⟩ := hO'; replace hn' := hn'.symm; subst hn' hr'); (try k_sweep); (try dsimp only); (try k_fold)))
  k_with "mine call" => ((with_reducible show wpAny _ _ (call (Value.ref 162) _) _ _ _); k_dflt (refine Does.go (by k_asm) (by k_asm) (by k_asm) (by k_asm) (by k_asm) (by first | exact rfl | assumption) (by first | exact Nat.le_of_ble_eq_true rfl | ktr_room) (by first | exact Nat.le_of_ble_eq_true rfl | ktr_units) (near_does _ _ _ _ _ _ _ _ _ _ _ _ _ _ _ _ _ _ _  (by assumption) (by k_mem) (by k_mem) (by exact FormOk.n0 (by assumption) (by assumption)) (by exact FormOk.n1 (by assumption) (by assumption)) (by exact FormOk.n2 (by assumption) (by assumption))) ?_; (intro r' n' h' tk' F' N' hO'; obtain ⟨hn', hr'⟩ := hO'; replace hn' := hn'.symm; subst hn' hr'); (try k_sweep); (try dsimp only); (try k_fold)))
  refine hd ?_
  w_on
  w_strict (k_go0; (all_goals try k_fold))
  repeat' ((first | ((fail_if_success (with_reducible show wpAny _ _ (pyIter (Value.ref _)) (fun it s₂ => LoopAtV _ _ _ _ _ _ _ _ _ it s₂) _ _)); first | (k_unfold; (try dsimp only)) | (k_end; wrow_close) | walk1 | (dsimp only; (fail_if_success (with_reducible show wpAny _ _ (pyIter (Value.ref _)) (fun it s₂ => LoopAtV _ _ _ _ _ _ _ _ _ it s₂) _ _)); walk1)) | fail "no"))
  rename News _ _ _ _ => N9
  rename Fr _ _ _ _ => F9
  have N8 := cb_drop (news := [_, _]) N9 (List.forall_mem_cons.mpr ⟨List.Mem.head _, List.forall_mem_cons.mpr ⟨List.Mem.tail _ (List.Mem.head _), List.forall_mem_nil _⟩⟩)
  refine iter_rangeUnr (n := 4) (by rfl) (by assumption) (by first | decide | rfl) (by first | decide | rfl) F9 N8 ?_
  intro I hI
  refine range_ind (JT _ _ _) ⟨0, _, 0, _, by with_unfolding_all rfl, rfl, by decide, by decide, by decide⟩ ?_ ?_
  ·
    rintro i m₁ n₁ t h tk hi ⟨p1, t1, p2, t2, e1, hn1, q1, q2, q3⟩ F N
    subst hn1
    have hUB := UB.start q1
    have hp0 : p1 ≤ 120 := by omega
    have F2 := fr1 F e1
    clear F e1 F9 N9 N8
    k_lt hI
    (try dsimp only)
    (try k_fold)
    repeat' ((first | ((fail_if_success (with_reducible show wpAny _ _ (exec (Stmt.If (Expr.Compare (Expr.Call _ _ _ _) [CmpOp.Eq] _ _) _ _ _) _) _ _ _)); first | (k_unfold; (try dsimp only)) | (k_end; wrow_close) | walk1 | (dsimp only; (fail_if_success (with_reducible show wpAny _ _ (exec (Stmt.If (Expr.Compare (Expr.Call _ _ _ _) [CmpOp.Eq] _ _) _ _ _) _) _ _ _)); walk1)) | fail "no"))
    refine join_b (by assumption) (by assumption) (by assumption) (by with_unfolding_all rfl) (by k_upd) (by assumption) ?j1 ?j2
    case j1 =>
      (try dsimp only)
      (try k_fold)
      k_steps
      all_goals refine ⟨rfl, _, _, _, _, _, _, _, _, _, rfl, (by first | assumption | exact fr_same (by assumption) (by with_unfolding_all rfl)), (by assumption), (by k_upd), ?_, ?_, ?_, ?_⟩
      all_goals first
        | assumption
        | exact UB.mono (by assumption) (by decide)
        | omega
        | exact fm_lo (by omega)
        | exact fm_hi (by omega) (by omega)
    case j2 =>
      intro vb tvb hb tkb p1b t1b p2b t2b hvb1 hvb2 hqb1 hqb3 FB NUB
      have NB := NUB _ (by k_upd)
      clear NUB
      (try k_sweep)
      (try dsimp only)
      (try k_fold)
      repeat' ((first | ((fail_if_success (with_reducible show wpAny _ _ (exec (Stmt.For _ _ _ _ _) _) _ _ _)); first | (k_unfold; (try dsimp only)) | (k_end; wrow_close) | walk1 | (dsimp only; (fail_if_success (with_reducible show wpAny _ _ (exec (Stmt.For _ _ _ _ _) _) _ _ _)); walk1)) | fail "no"))
      refine join_f (fun y => y ≠ Str.ofString "one" ∧ y ≠ Str.ofString "other") (by assumption) (by assumption) ?la1 ?lb1
      case la1 =>
        (try dsimp only)
        (try k_fold)
        repeat' ((first | ((fail_if_success (with_reducible show wpAny _ _ (pyIter (Value.ref _)) (fun it s₂ => TurnsAt _ _ _ _ _ _ _ _ _ it s₂) _ _)); first | (k_unfold; (try dsimp only)) | (k_end; wrow_close) | walk1 | (dsimp only; (fail_if_success (with_reducible show wpAny _ _ (pyIter (Value.ref _)) (fun it s₂ => TurnsAt _ _ _ _ _ _ _ _ _ it s₂) _ _)); walk1)) | fail "no"))
        refine iter_pairs5 (by assumption) (fun y => y ≠ Str.ofString "one" ∧ y ≠ Str.ofString "other") (by rfl) (by assumption) (by assumption) (by k_mem) ⟨_, _, _, _, _, rfl, by k_mem, ⟨by omega, by omega⟩, ⟨by omega, by omega⟩⟩ ⟨_, _, _, _, _, rfl, by k_mem, ⟨by omega, by omega⟩, ⟨by omega, by omega⟩⟩ ⟨_, _, _, _, _, rfl, by k_mem, ⟨by omega, by omega⟩, ⟨by omega, by omega⟩⟩ ⟨_, _, _, _, _, rfl, by k_mem, ⟨by omega, by omega⟩, ⟨by omega, by omega⟩⟩ ⟨_, _, _, _, _, rfl, by k_mem, ⟨by omega, by omega⟩, ⟨by omega, by omega⟩⟩ ?la1t ?la1d
        case la1t =>
          intro I1 b1 p1x tp1 q1x tq1 m1 h1 tk1 it1 l1 hc1 hb1 hp1 hp2 hq1 hq2 J1 F1 N1
          have F1x := fr_w2 F1 J1
          clear F1 J1
          (try k_lt l1)
          (try k_sweep)
          (try dsimp only)
          (try k_fold)
          k_steps
          all_goals exact ⟨rfl, _, _, _, rfl, by assumption, (cb_drop (by assumption) (by kcj_all)), (by intro y hy; obtain ⟨h1, h2⟩ := hy; simp only [if_neg h1, if_neg h2])⟩
        case la1d =>
          intro m1 h1 tk1 J1 F1 N1
          exact ⟨rfl, _, _, _, rfl, F1, J1, cb_drop N1 (by kcj_all)⟩
      intro m1 h1 tk1 e1 F1 N1
      have F1x := fr_w2 F1 e1
      clear F1 e1
      (try k_sweep)
      (try dsimp only)
      (try k_fold)
      repeat' ((first | ((fail_if_success (with_reducible show wpAny _ _ (pyIter (Value.ref _)) (fun it s₂ => TurnsAt _ _ _ _ _ _ _ _ _ it s₂) _ _)); first | (k_unfold; (try dsimp only)) | (k_end; wrow_close) | walk1 | (dsimp only; (fail_if_success (with_reducible show wpAny _ _ (pyIter (Value.ref _)) (fun it s₂ => TurnsAt _ _ _ _ _ _ _ _ _ it s₂) _ _)); walk1)) | fail "no"))
      refine iter_form5 (by assumption) (fun y => y ≠ Str.ofString "one" ∧ y ≠ Str.ofString "sign" ∧ y ≠ Str.ofString "field" ∧ y ≠ Str.ofString "fraction") (by rfl) (by assumption) (by assumption) (by k_mem) ⟨⟨by omega, by omega⟩, ⟨by omega, by omega⟩, ⟨by omega, by omega⟩, ⟨by omega, by omega⟩, ⟨by omega, by omega⟩⟩ ?la2 ?lb2
      case la2 =>
        intro I2 v2 t2 m2 h2 tk2 it2 l2 hc2 hva2 hvb2 J2 F2 N2
        have F2x := fr_w4 F2 J2
        clear F2 J2
        (try k_lt l2)
        (try k_sweep)
        (try dsimp only)
        (try k_fold)
        k_steps
        all_goals exact ⟨rfl, _, _, _, rfl, by assumption, (cb_drop (by assumption) (by kcj_all)), (by intro y hy; obtain ⟨h1, h2, h3, h4⟩ := hy; simp only [if_neg h1, if_neg h2, if_neg h3, if_neg h4])⟩
      intro m2b h2b tk2b J2b F2b N2b
      have F2c := fr_w4 F2b J2b
      clear F2b J2b
      (try k_sweep)
      (try dsimp only)
      (try k_fold)
      repeat' ((first | ((fail_if_success (with_reducible show wpAny _ _ (pyIter (Value.ref _)) (fun it s₂ => TurnsAt _ _ _ _ _ _ _ _ _ it s₂) _ _)); first | (k_unfold; (try dsimp only)) | (k_end; wrow_close) | walk1 | (dsimp only; (fail_if_success (with_reducible show wpAny _ _ (pyIter (Value.ref _)) (fun it s₂ => TurnsAt _ _ _ _ _ _ _ _ _ it s₂) _ _)); walk1)) | fail "no"))
      refine iter_ex3 (fun y => y ≠ Str.ofString "exact" ∧ y ≠ Str.ofString "found") (by rfl) (by assumption) (by assumption) (by k_mem) ⟨(PE_pos (by assumption) (by assumption) (by assumption)).1, (PE_pos (by assumption) (by assumption) (by assumption)).2, PE_small (by assumption) (by assumption)⟩ ?la3 ?lb3
      case la3 =>
        intro I3 v3 t3 m3 h3 tk3 it3 l3 hc3 hva3 hvb3 hvc3 J3 F3 N3
        have F3x := fr_w2 F3 J3
        clear F3 J3
        (try k_lt l3)
        (try k_sweep)
        (try dsimp only)
        (try k_fold)
        k_steps
        all_goals exact ⟨rfl, _, _, _, rfl, by assumption, (cb_drop (by assumption) (by kcj_all)), (by intro y hy; obtain ⟨h1, h2⟩ := hy; simp only [if_neg h1, if_neg h2])⟩
      intro m3b h3b tk3b J3b F3b N3b
      have F3c := fr_w2 F3b J3b
      clear F3b J3b
      (try k_sweep)
      (try dsimp only)
      (try k_fold)
      repeat' ((first | ((fail_if_success (with_reducible show UnrEnd _ _ _ _ _ _ _)); first | (k_unfold; (try dsimp only)) | (k_end; wrow_close) | walk1 | (dsimp only; (fail_if_success (with_reducible show UnrEnd _ _ _ _ _ _ _)); walk1)) | fail "no"))
      refine' UnrEnd.intro (by assumption) (by assumption) _ ?t9sub ?t9off ⟨_, _, _, _, ?t9e, rfl, ?t9a, ?t9b, ?t9c⟩
      case t9e => with_unfolding_all rfl
      case t9sub => exact List.forall_mem_cons.mpr ⟨by k_mem, List.forall_mem_cons.mpr ⟨by k_mem, List.forall_mem_cons.mpr ⟨by k_mem, List.forall_mem_nil _⟩⟩⟩
      case t9off => exact List.forall_mem_cons.mpr ⟨Nat.ne_of_lt hI.1, List.forall_mem_cons.mpr ⟨Nat.ne_of_lt hI.2, List.forall_mem_nil _⟩⟩
      case t9a => exact UB.lo (by assumption)
      case t9b => exact UB.turn (by assumption) (by assumption) (by decide)
      case t9c => assumption

  · rintro m₁ n₁ h tk ⟨p1, t1, p2, t2, e1, hn1, q1, q2, q3⟩ F N
    subst hn1
    have F2 : Fr _ _ h m₁ := F
    clear F e1 F9 N9 N8
    (try dsimp only)
    k_steps
end L5

end Mine

theorem PySem.Challenge.cw_pb0320_01_holds : PySem.Challenge.rw_pb0320_01.Holds :=
  Mine.law_ok
