import PyProof.Rows.All
import Wide.All
import OpenK.AllK
import Wide.FinOn
import Lean
import PySem.Challenge.RW_nt0350_01
open PySem PySem.W PyProof.Rows
set_option Elab.async false
set_option maxRecDepth 100000

namespace Mine
/-- the look at the top in pieces is turned down: the whole top at once makes a compiled file of a seventh of the size -/
local macro_rules | `({ scope := $_, locals := $_, globals := $_, cells := $_, code := $_, frame := $_ }) => Lean.Macro.throwError "at once"
set_option maxRecDepth 100000 in
set_option maxHeartbeats 8000000 in
open_top hd for PySem.Challenge.rw_nt0350_01
end Mine

namespace Mine


/-- what a call of the def at f gives, from any frame: Pre is asked of the caller's ledger, ex is what it adds to it -/
def Ct (w : World) (mean : ExcName → Option Value) (mg mb : Str → Option Value) (f : Addr) (lv : Nat) (vs : List Value) (Pre : List (Addr × Obj) → Prop) (Out : List (Addr × Obj) → List (Addr × Obj) → Value → Prop) : Prop :=
  ∀ (dp un : Nat) (gd : Option (List Code)) (cn : Str) (cs : Scope) (a : Addr) (ccd : Value) (cl : List (Str × Addr)) (outer : List Env) (A₀ : Around) (base h₀ : Heap) (L : Addr) (m : Str → Option Value) (news : List (Addr × Obj)) (s : Shared) (Q E : Value → Shared → Prop),
    Below A₀ base outer h₀ → Fr h₀ L s.heap m → (hd.heap_39 w.params).In h₀ → News h₀ L s.heap news → Top hd.view_39 (looseW hd.view_39 [Str.ofString "SIGN_BIT", Str.ofString "FRACTION_MASK", Str.ofString "HIDDEN_BIT_dbits", Str.ofString "INF", Str.ofString "HIDDEN_BIT_numshow"]) mean mg mb h₀ → cs.kind = .function →
    Pre news → dp + lv < recursionLimit → un + 16 * lv < cLine →
    (∀ ex v h' tk', Fr h₀ L h' m → News h₀ L h' (ex ++ news) → Out news ex v → Q v { s with heap := h', toks := tk' }) →
    wpAny (model PySem.Challenge.rw_nt0350_01.row.prog w) (ktrTop dp un gd cn cs L a ccd cl outer) (call (.ref f) vs) Q E s

theorem retI {h₀ h' : Heap} {L : Addr} {m : Str → Option Value} {news : List (Addr × Obj)} {s : Shared} {Q : Value → Shared → Prop} {t : Tok} {tk' : Nat} {x y : Int}
    (hret : ∀ (ex : List (Addr × Obj)) (v : Value) (h' : Heap) (tk' : Nat), Fr h₀ L h' m → News h₀ L h' (ex ++ news) → (ex = [] ∧ ∃ t, v = .int x t) → Q v { s with heap := h', toks := tk' }) (F : Fr h₀ L h' m) (N : News h₀ L h' news) (e : y = x) : Q (.int y t) { s with heap := h', toks := tk' } := by
  subst e
  exact hret [] _ h' tk' F N ⟨rfl, t, rfl⟩
theorem retS {h₀ h' : Heap} {L : Addr} {m : Str → Option Value} {news : List (Addr × Obj)} {s : Shared} {Q : Value → Shared → Prop} {t : Tok} {tk' : Nat} {x y : Str}
    (hret : ∀ (ex : List (Addr × Obj)) (v : Value) (h' : Heap) (tk' : Nat), Fr h₀ L h' m → News h₀ L h' (ex ++ news) → (ex = [] ∧ ∃ t, v = .str x t) → Q v { s with heap := h', toks := tk' }) (F : Fr h₀ L h' m) (N : News h₀ L h' news) (e : y = x) : Q (.str y t) { s with heap := h', toks := tk' } := by
  subst e
  exact hret [] _ h' tk' F N ⟨rfl, t, rfl⟩
theorem retB {h₀ h' : Heap} {L : Addr} {m : Str → Option Value} {news : List (Addr × Obj)} {s : Shared} {Q : Value → Shared → Prop} {tk' : Nat} {x y : Bool}
    (hret : ∀ (ex : List (Addr × Obj)) (v : Value) (h' : Heap) (tk' : Nat), Fr h₀ L h' m → News h₀ L h' (ex ++ news) → (ex = [] ∧ v = .bool x) → Q v { s with heap := h', toks := tk' }) (F : Fr h₀ L h' m) (N : News h₀ L h' news) (e : y = x) : Q (.bool y) { s with heap := h', toks := tk' } := by
  subst e
  exact hret [] _ h' tk' F N ⟨rfl, rfl⟩
theorem retN {h₀ h' : Heap} {L : Addr} {m : Str → Option Value} {news : List (Addr × Obj)} {s : Shared} {Q : Value → Shared → Prop} {tk' : Nat}
    (hret : ∀ (ex : List (Addr × Obj)) (v : Value) (h' : Heap) (tk' : Nat), Fr h₀ L h' m → News h₀ L h' (ex ++ news) → (ex = [] ∧ v = .none) → Q v { s with heap := h', toks := tk' }) (F : Fr h₀ L h' m) (N : News h₀ L h' news) : Q .none { s with heap := h', toks := tk' } :=
  hret [] _ h' tk' F N ⟨rfl, rfl⟩

abbrev OI (x : Int) (_ ex : List (Addr × Obj)) (v : Value) : Prop := ex = [] ∧ ∃ t, v = .int x t
abbrev OS (x : Str) (_ ex : List (Addr × Obj)) (v : Value) : Prop := ex = [] ∧ ∃ t, v = .str x t
abbrev OB (x : Bool) (_ ex : List (Addr × Obj)) (v : Value) : Prop := ex = [] ∧ v = .bool x
abbrev ON (_ ex : List (Addr × Obj)) (v : Value) : Prop := ex = [] ∧ v = .none
abbrev P0 (_ : List (Addr × Obj)) : Prop := True


abbrev OT2 (mk1 mk2 : Tok → Value) (news ex : List (Addr × Obj)) (v : Value) : Prop := ∃ D t1 t2, v = .ref D ∧ ex = [(D, ({ cls := .type "tuple", data := .seq #[mk1 t1, mk2 t2] } : Obj))] ∧ AllLt D news
abbrev OT3 (mk1 mk2 mk3 : Tok → Value) (news ex : List (Addr × Obj)) (v : Value) : Prop := ∃ D t1 t2 t3, v = .ref D ∧ ex = [(D, ({ cls := .type "tuple", data := .seq #[mk1 t1, mk2 t2, mk3 t3] } : Obj))] ∧ AllLt D news
abbrev OT4 (mk1 mk2 mk3 mk4 : Tok → Value) (news ex : List (Addr × Obj)) (v : Value) : Prop := ∃ D t1 t2 t3 t4, v = .ref D ∧ ex = [(D, ({ cls := .type "tuple", data := .seq #[mk1 t1, mk2 t2, mk3 t3, mk4 t4] } : Obj))] ∧ AllLt D news
section
variable {w : World} {mean : ExcName → Option Value} {mg mb : Str → Option Value} {f : Addr} {lv : Nat} {vs : List Value} {Pre : List (Addr × Obj) → Prop} {dp un : Nat} {gd : Option (List Code)} {cn : Str} {cs : Scope} {a : Addr} {ccd : Value} {cl : List (Str × Addr)} {outer : List Env} {A₀ : Around} {base h₀ : Heap} {L : Addr} {m : Str → Option Value} {news : List (Addr × Obj)} {s : Shared} {Q E : Value → Shared → Prop}
theorem ct_useI {x : Int} (C : Ct w mean mg mb f lv vs Pre (OI x)) (B : Below A₀ base outer h₀) (F : Fr h₀ L s.heap m) (X : (hd.heap_39 w.params).In h₀) (N : News h₀ L s.heap news) (T : Top hd.view_39 (looseW hd.view_39 [Str.ofString "SIGN_BIT", Str.ofString "FRACTION_MASK", Str.ofString "HIDDEN_BIT_dbits", Str.ofString "INF", Str.ofString "HIDDEN_BIT_numshow"]) mean mg mb h₀) (hk : cs.kind = .function)
    (hP : Pre news) (hd : dp + lv < recursionLimit) (hu : un + 16 * lv < cLine)
    (ret : ∀ t h' tk', Fr h₀ L h' m → News h₀ L h' news → Q (.int x t) { s with heap := h', toks := tk' }) :
    wpAny (model PySem.Challenge.rw_nt0350_01.row.prog w) (ktrTop dp un gd cn cs L a ccd cl outer) (call (.ref f) vs) Q E s :=
  C dp un gd cn cs a ccd cl outer A₀ base h₀ L m news s Q E B F X N T hk hP hd hu fun ex v h' tk' F' N' hO => by
    obtain ⟨rfl, t, rfl⟩ := hO; exact ret t h' tk' F' N'
theorem ct_useS {x : Str} (C : Ct w mean mg mb f lv vs Pre (OS x)) (B : Below A₀ base outer h₀) (F : Fr h₀ L s.heap m) (X : (hd.heap_39 w.params).In h₀) (N : News h₀ L s.heap news) (T : Top hd.view_39 (looseW hd.view_39 [Str.ofString "SIGN_BIT", Str.ofString "FRACTION_MASK", Str.ofString "HIDDEN_BIT_dbits", Str.ofString "INF", Str.ofString "HIDDEN_BIT_numshow"]) mean mg mb h₀) (hk : cs.kind = .function)
    (hP : Pre news) (hd : dp + lv < recursionLimit) (hu : un + 16 * lv < cLine)
    (ret : ∀ t h' tk', Fr h₀ L h' m → News h₀ L h' news → Q (.str x t) { s with heap := h', toks := tk' }) :
    wpAny (model PySem.Challenge.rw_nt0350_01.row.prog w) (ktrTop dp un gd cn cs L a ccd cl outer) (call (.ref f) vs) Q E s :=
  C dp un gd cn cs a ccd cl outer A₀ base h₀ L m news s Q E B F X N T hk hP hd hu fun ex v h' tk' F' N' hO => by
    obtain ⟨rfl, t, rfl⟩ := hO; exact ret t h' tk' F' N'
theorem ct_useB {x : Bool} (C : Ct w mean mg mb f lv vs Pre (OB x)) (B : Below A₀ base outer h₀) (F : Fr h₀ L s.heap m) (X : (hd.heap_39 w.params).In h₀) (N : News h₀ L s.heap news) (T : Top hd.view_39 (looseW hd.view_39 [Str.ofString "SIGN_BIT", Str.ofString "FRACTION_MASK", Str.ofString "HIDDEN_BIT_dbits", Str.ofString "INF", Str.ofString "HIDDEN_BIT_numshow"]) mean mg mb h₀) (hk : cs.kind = .function)
    (hP : Pre news) (hd : dp + lv < recursionLimit) (hu : un + 16 * lv < cLine)
    (ret : ∀ h' tk', Fr h₀ L h' m → News h₀ L h' news → Q (.bool x) { s with heap := h', toks := tk' }) :
    wpAny (model PySem.Challenge.rw_nt0350_01.row.prog w) (ktrTop dp un gd cn cs L a ccd cl outer) (call (.ref f) vs) Q E s :=
  C dp un gd cn cs a ccd cl outer A₀ base h₀ L m news s Q E B F X N T hk hP hd hu fun ex v h' tk' F' N' hO => by
    obtain ⟨rfl, rfl⟩ := hO; exact ret h' tk' F' N'
theorem ct_useN  (C : Ct w mean mg mb f lv vs Pre (ON)) (B : Below A₀ base outer h₀) (F : Fr h₀ L s.heap m) (X : (hd.heap_39 w.params).In h₀) (N : News h₀ L s.heap news) (T : Top hd.view_39 (looseW hd.view_39 [Str.ofString "SIGN_BIT", Str.ofString "FRACTION_MASK", Str.ofString "HIDDEN_BIT_dbits", Str.ofString "INF", Str.ofString "HIDDEN_BIT_numshow"]) mean mg mb h₀) (hk : cs.kind = .function)
    (hP : Pre news) (hd : dp + lv < recursionLimit) (hu : un + 16 * lv < cLine)
    (ret : ∀ h' tk', Fr h₀ L h' m → News h₀ L h' news → Q .none { s with heap := h', toks := tk' }) :
    wpAny (model PySem.Challenge.rw_nt0350_01.row.prog w) (ktrTop dp un gd cn cs L a ccd cl outer) (call (.ref f) vs) Q E s :=
  C dp un gd cn cs a ccd cl outer A₀ base h₀ L m news s Q E B F X N T hk hP hd hu fun ex v h' tk' F' N' hO => by
    obtain ⟨rfl, rfl⟩ := hO; exact ret h' tk' F' N'
theorem ct_useT2 {mk1 mk2 : Tok → Value} (C : Ct w mean mg mb f lv vs Pre (OT2 mk1 mk2)) (B : Below A₀ base outer h₀) (F : Fr h₀ L s.heap m) (X : (hd.heap_39 w.params).In h₀) (N : News h₀ L s.heap news) (T : Top hd.view_39 (looseW hd.view_39 [Str.ofString "SIGN_BIT", Str.ofString "FRACTION_MASK", Str.ofString "HIDDEN_BIT_dbits", Str.ofString "INF", Str.ofString "HIDDEN_BIT_numshow"]) mean mg mb h₀) (hk : cs.kind = .function)
    (hP : Pre news) (hd : dp + lv < recursionLimit) (hu : un + 16 * lv < cLine)
    (ret : ∀ D t1 t2 h' tk', Fr h₀ L h' m → News h₀ L h' ((D, ({ cls := .type "tuple", data := .seq #[mk1 t1, mk2 t2] } : Obj)) :: news) → AllLt D news → Q (.ref D) { s with heap := h', toks := tk' }) :
    wpAny (model PySem.Challenge.rw_nt0350_01.row.prog w) (ktrTop dp un gd cn cs L a ccd cl outer) (call (.ref f) vs) Q E s :=
  C dp un gd cn cs a ccd cl outer A₀ base h₀ L m news s Q E B F X N T hk hP hd hu fun ex v h' tk' F' N' hO => by
    obtain ⟨D, t1, t2, rfl, rfl, hl⟩ := hO; exact ret D t1 t2 h' tk' F' N' hl
theorem ct_useT3 {mk1 mk2 mk3 : Tok → Value} (C : Ct w mean mg mb f lv vs Pre (OT3 mk1 mk2 mk3)) (B : Below A₀ base outer h₀) (F : Fr h₀ L s.heap m) (X : (hd.heap_39 w.params).In h₀) (N : News h₀ L s.heap news) (T : Top hd.view_39 (looseW hd.view_39 [Str.ofString "SIGN_BIT", Str.ofString "FRACTION_MASK", Str.ofString "HIDDEN_BIT_dbits", Str.ofString "INF", Str.ofString "HIDDEN_BIT_numshow"]) mean mg mb h₀) (hk : cs.kind = .function)
    (hP : Pre news) (hd : dp + lv < recursionLimit) (hu : un + 16 * lv < cLine)
    (ret : ∀ D t1 t2 t3 h' tk', Fr h₀ L h' m → News h₀ L h' ((D, ({ cls := .type "tuple", data := .seq #[mk1 t1, mk2 t2, mk3 t3] } : Obj)) :: news) → AllLt D news → Q (.ref D) { s with heap := h', toks := tk' }) :
    wpAny (model PySem.Challenge.rw_nt0350_01.row.prog w) (ktrTop dp un gd cn cs L a ccd cl outer) (call (.ref f) vs) Q E s :=
  C dp un gd cn cs a ccd cl outer A₀ base h₀ L m news s Q E B F X N T hk hP hd hu fun ex v h' tk' F' N' hO => by
    obtain ⟨D, t1, t2, t3, rfl, rfl, hl⟩ := hO; exact ret D t1 t2 t3 h' tk' F' N' hl
theorem ct_useT4 {mk1 mk2 mk3 mk4 : Tok → Value} (C : Ct w mean mg mb f lv vs Pre (OT4 mk1 mk2 mk3 mk4)) (B : Below A₀ base outer h₀) (F : Fr h₀ L s.heap m) (X : (hd.heap_39 w.params).In h₀) (N : News h₀ L s.heap news) (T : Top hd.view_39 (looseW hd.view_39 [Str.ofString "SIGN_BIT", Str.ofString "FRACTION_MASK", Str.ofString "HIDDEN_BIT_dbits", Str.ofString "INF", Str.ofString "HIDDEN_BIT_numshow"]) mean mg mb h₀) (hk : cs.kind = .function)
    (hP : Pre news) (hd : dp + lv < recursionLimit) (hu : un + 16 * lv < cLine)
    (ret : ∀ D t1 t2 t3 t4 h' tk', Fr h₀ L h' m → News h₀ L h' ((D, ({ cls := .type "tuple", data := .seq #[mk1 t1, mk2 t2, mk3 t3, mk4 t4] } : Obj)) :: news) → AllLt D news → Q (.ref D) { s with heap := h', toks := tk' }) :
    wpAny (model PySem.Challenge.rw_nt0350_01.row.prog w) (ktrTop dp un gd cn cs L a ccd cl outer) (call (.ref f) vs) Q E s :=
  C dp un gd cn cs a ccd cl outer A₀ base h₀ L m news s Q E B F X N T hk hP hd hu fun ex v h' tk' F' N' hO => by
    obtain ⟨D, t1, t2, t3, t4, rfl, rfl, hl⟩ := hO; exact ret D t1 t2 t3 t4 h' tk' F' N' hl
end

section
variable {h₀ h' : Heap} {L : Addr} {m : Str → Option Value} {news news' : List (Addr × Obj)} {s : Shared} {Q : Value → Shared → Prop} {tk' : Nat} {D : Addr}
theorem subAll {news' : List (Addr × Obj)} {p : Addr × Obj} (N : News h₀ L h' news') (hp : p ∈ news') (hs : ∀ q ∈ news, q ∈ news') : News h₀ L h' ([p] ++ news) := fun q hq => by
  rcases List.mem_cons.mp hq with rfl | hq
  · exact N _ hp
  · exact N q (hs q hq)
theorem retT2 {mk1 mk2 : Tok → Value} {v1 v2 : Value}
    (hret : ∀ (ex : List (Addr × Obj)) (v : Value) (h' : Heap) (tk' : Nat), Fr h₀ L h' m → News h₀ L h' (ex ++ news) → OT2 mk1 mk2 news ex v → Q v { s with heap := h', toks := tk' }) (F : Fr h₀ L h' m) (N : News h₀ L h' news')
    (hp : (D, ({ cls := .type "tuple", data := .seq #[v1, v2] } : Obj)) ∈ news') (hs : ∀ q ∈ news, q ∈ news') (hl : AllLt D news) (e1 : ∃ t, v1 = mk1 t) (e2 : ∃ t, v2 = mk2 t) : Q (.ref D) { s with heap := h', toks := tk' } := by
  obtain ⟨t1, rfl⟩ := e1
  obtain ⟨t2, rfl⟩ := e2
  exact hret _ _ h' tk' F (subAll N hp hs) ⟨D, t1, t2, rfl, rfl, hl⟩
theorem retT3 {mk1 mk2 mk3 : Tok → Value} {v1 v2 v3 : Value}
    (hret : ∀ (ex : List (Addr × Obj)) (v : Value) (h' : Heap) (tk' : Nat), Fr h₀ L h' m → News h₀ L h' (ex ++ news) → OT3 mk1 mk2 mk3 news ex v → Q v { s with heap := h', toks := tk' }) (F : Fr h₀ L h' m) (N : News h₀ L h' news')
    (hp : (D, ({ cls := .type "tuple", data := .seq #[v1, v2, v3] } : Obj)) ∈ news') (hs : ∀ q ∈ news, q ∈ news') (hl : AllLt D news) (e1 : ∃ t, v1 = mk1 t) (e2 : ∃ t, v2 = mk2 t) (e3 : ∃ t, v3 = mk3 t) : Q (.ref D) { s with heap := h', toks := tk' } := by
  obtain ⟨t1, rfl⟩ := e1
  obtain ⟨t2, rfl⟩ := e2
  obtain ⟨t3, rfl⟩ := e3
  exact hret _ _ h' tk' F (subAll N hp hs) ⟨D, t1, t2, t3, rfl, rfl, hl⟩
theorem retT4 {mk1 mk2 mk3 mk4 : Tok → Value} {v1 v2 v3 v4 : Value}
    (hret : ∀ (ex : List (Addr × Obj)) (v : Value) (h' : Heap) (tk' : Nat), Fr h₀ L h' m → News h₀ L h' (ex ++ news) → OT4 mk1 mk2 mk3 mk4 news ex v → Q v { s with heap := h', toks := tk' }) (F : Fr h₀ L h' m) (N : News h₀ L h' news')
    (hp : (D, ({ cls := .type "tuple", data := .seq #[v1, v2, v3, v4] } : Obj)) ∈ news') (hs : ∀ q ∈ news, q ∈ news') (hl : AllLt D news) (e1 : ∃ t, v1 = mk1 t) (e2 : ∃ t, v2 = mk2 t) (e3 : ∃ t, v3 = mk3 t) (e4 : ∃ t, v4 = mk4 t) : Q (.ref D) { s with heap := h', toks := tk' } := by
  obtain ⟨t1, rfl⟩ := e1
  obtain ⟨t2, rfl⟩ := e2
  obtain ⟨t3, rfl⟩ := e3
  obtain ⟨t4, rfl⟩ := e4
  exact hret _ _ h' tk' F (subAll N hp hs) ⟨D, t1, t2, t3, t4, rfl, rfl, hl⟩
theorem exI {x y : Int} {t : Tok} (h : x = y) : ∃ t', Value.int x t = Value.int y t' := ⟨t, h ▸ rfl⟩
theorem exS {x y : Str} {t : Tok} (h : x = y) : ∃ t', Value.str x t = Value.str y t' := ⟨t, h ▸ rfl⟩
end
end Mine

namespace Mine
open PySem.Builtin.Int (intBits)

theorem log2_of_bits {a : Int} {n k : Nat} (h : intBits a ≤ n) (hn : n ≤ k) (hk : 0 < k) : a.natAbs.log2 < k := by
  have h1 := lt_pow_of_bits h hn
  by_cases h0 : a.natAbs = 0
  · rw [h0]; exact hk
  · exact (Nat.log2_lt h0).mpr h1

theorem toDigits_len_le (k : Nat) : ∀ n : Nat, n < 10 ^ (k + 1) → (Nat.toDigits 10 n).length ≤ k + 1 := by
  induction k with
  | zero =>
    intro n h
    rw [Nat.toDigits_of_lt_base (by simpa using h)]
    exact Nat.le_refl _
  | succ k ih =>
    intro n h
    by_cases hn : n < 10
    · rw [Nat.toDigits_of_lt_base hn]; exact Nat.le_add_left _ _
    · have hd : n / 10 < 10 ^ (k + 1) := by
        rw [Nat.pow_succ] at h
        exact Nat.div_lt_of_lt_mul (by omega)
      have := ih (n / 10) hd
      have t : Nat.toDigits 10 (n / 10) ++ Nat.toDigits 10 (n % 10) = Nat.toDigits 10 (10 * (n / 10) + n % 10) := Nat.toDigits_append_toDigits (by decide) (by omega) (Nat.mod_lt _ (by decide))
      rw [Nat.div_add_mod] at t
      rw [← t, List.length_append, Nat.toDigits_of_lt_base (Nat.mod_lt n (by decide))]
      show _ + 1 ≤ _
      omega
theorem toDigits_len_pos (n : Nat) : 1 ≤ (Nat.toDigits 10 n).length := by
  by_cases hn : n < 10
  · rw [Nat.toDigits_of_lt_base hn]; exact Nat.le_refl _
  · have t : Nat.toDigits 10 (n / 10) ++ Nat.toDigits 10 (n % 10) = Nat.toDigits 10 (10 * (n / 10) + n % 10) := Nat.toDigits_append_toDigits (by decide) (by omega) (Nat.mod_lt _ (by decide))
    rw [Nat.div_add_mod] at t
    rw [← t, List.length_append, Nat.toDigits_of_lt_base (Nat.mod_lt n (by decide))]
    show 1 ≤ _ + 1
    omega
theorem str_len_nat (n : Nat) : (Str.ofString (toString ((n : Nat) : Int))).length = (Nat.toDigits 10 n).length := by
  have h := KIN.signs_num n
  have e : (Str.ofString (toString ((n : Nat) : Int))).length = (Str.ofString (toString ((n : Nat) : Int))).cps.toList.length := by
    rw [Array.length_toList]; rfl
  rw [e, h, List.length_map]

theorem len_of_bits {a : Int} {n : Nat} (h0 : 0 ≤ a) (h : intBits a ≤ n) (hn : n ≤ 1920) : 1 ≤ (Str.ofString (toString a)).length ∧ (Str.ofString (toString a)).length ≤ 600 := by
  obtain ⟨k, rfl⟩ := Int.eq_ofNat_of_zero_le h0
  rw [str_len_nat]
  refine ⟨toDigits_len_pos k, toDigits_len_le 599 k ?_⟩
  have h1 := lt_pow_of_bits h hn
  rw [Int.natAbs_natCast] at h1
  exact Nat.lt_of_lt_of_le h1 (by decide +kernel)

theorem str_of_bits {prog : Program} {w : World} {A : Around} {E : Value → Shared → Prop} {s : Shared} {a : Int} {n : Nat} {t : Tok} {Q : Value → Shared → Prop} (h0 : 0 ≤ a) (h : intBits a ≤ n) (hn : n ≤ 1920)
    (k : 1 ≤ (Str.ofString (toString a)).length ∧ (Str.ofString (toString a)).length ≤ 600 → Q (.str (toString a) s.toks) { s with toks := s.toks + 1 }) : wpAny (model prog w) A (call (.type "str") [.int a t]) Q E s :=
  P.str_of_int (log2_of_bits h hn (by decide)) (k (len_of_bits h0 h hn))

theorem bits_pow10 {k : Int} (h : k ≤ 1300) : intBits ((10 : Int) ^ k.toNat) ≤ 5201 :=
  Nat.le_trans (intBits_pow_le (m := 4) (intBits_le_iff.mpr (by decide)) k.toNat) (by omega)
theorem bits_pow2 {k : Int} (h : k ≤ 5000) : intBits ((2 : Int) ^ k.toNat) ≤ 10001 :=
  Nat.le_trans (intBits_pow_le (m := 2) (intBits_le_iff.mpr (by decide)) k.toNat) (by omega)
theorem bits_of_lt {x : Int} {n : Nat} (h0 : 0 ≤ x) (h : x < 2 ^ n) : intBits x ≤ n := by
  refine intBits_le ?_
  obtain ⟨k, rfl⟩ := Int.eq_ofNat_of_zero_le h0
  rw [Int.natAbs_natCast]
  have e : (2 : Int) ^ n = ((2 ^ n : Nat) : Int) := (kbt_cast n).symm
  rw [e] at h
  exact Int.ofNat_lt.mp h

section
variable {prog : Program} {w : World} {A : Around} {E : Value → Shared → Prop} {s : Shared} {a b : Int} {t u : Tok} {n : Nat} {Q : Value → Shared → Prop}
theorem fdiv_bits (hb : 0 < b) (h1 : intBits b ≤ n) (h2 : n ≤ 9000) (h : Q (.int (a / b) s.toks) { s with toks := s.toks + 1 }) : wpAny (model prog w) A (binaryOp .FloorDiv (.int a t) (.int b u)) Q E s :=
  floordiv_int (by omega) (by rw [Int.fdiv_eq_ediv_of_nonneg _ (by omega)]; exact h) (Or.inl (PyProof.noPylong_of_log2 (log2_of_bits h1 h2 (by decide))))
theorem mod_bits (hb : 0 < b) (h : Q (.int (a % b) s.toks) { s with toks := s.toks + 1 }) : wpAny (model prog w) A (binaryOp .Mod (.int a t) (.int b u)) Q E s :=
  mod_int' (by omega) (by rw [Int.fmod_eq_emod_of_nonneg _ (by omega)]; exact h)
end

section
variable {prog : Program} {w : World} {A : Around} {E : Value → Shared → Prop} {s : Shared} {a : Int} {t u : Tok} {Q : Value → Shared → Prop}
theorem rsh52 (h : Q (.int (a / 2 ^ 52) s.toks) { s with toks := s.toks + 1 }) : wpAny (model prog w) A (binaryOp .RShift (.int a t) (.int 52 u)) Q E s :=
  rshift_int (by decide) (by rw [Int.fdiv_eq_ediv_of_nonneg _ (by decide)]; exact h)
theorem rsh63 (h : Q (.int (a / 2 ^ 63) s.toks) { s with toks := s.toks + 1 }) : wpAny (model prog w) A (binaryOp .RShift (.int a t) (.int 63 u)) Q E s :=
  rshift_int (by decide) (by rw [Int.fdiv_eq_ediv_of_nonneg _ (by decide)]; exact h)
theorem pow2_52 (h : Q (.int (2 ^ 52) s.toks) { s with toks := s.toks + 1 }) : wpAny (model prog w) A (binaryOp .Pow (.int 2 t) (.int 52 u)) Q E s :=
  pow_int_small (by decide) (by decide) (by decide) h
theorem pow2_63 (h : Q (.int (2 ^ 63) s.toks) { s with toks := s.toks + 1 }) : wpAny (model prog w) A (binaryOp .Pow (.int 2 t) (.int 63 u)) Q E s :=
  pow_int_small (by decide) (by decide) (by decide) h
theorem pow2_45 (h : Q (.int (2 ^ 45) s.toks) { s with toks := s.toks + 1 }) : wpAny (model prog w) A (binaryOp .Pow (.int 2 t) (.int 45 u)) Q E s :=
  pow_int_small (by decide) (by decide) (by decide) h
end

-- the double's parts
@[irreducible] def mant (b : Int) : Int := if b / 2 ^ 52 % 2048 = 0 then b % 2 ^ 52 else b % 2 ^ 52 + 2 ^ 52
@[irreducible] def pw (b : Int) : Int := if b / 2 ^ 52 % 2048 = 0 then -1074 else b / 2 ^ 52 % 2048 - 1075
@[irreducible] def top (b : Int) : Int := if 0 ≤ pw b then mant b * 2 ^ (pw b).toNat else mant b
@[irreducible] def bot (b : Int) : Int := if 0 ≤ pw b then 1 else 2 ^ (-pw b).toNat

theorem mant_bd (b : Int) : 0 ≤ mant b ∧ mant b < 2 ^ 53 := by unfold mant; split <;> omega
theorem pw_bd (b : Int) : -1074 ≤ pw b ∧ pw b ≤ 972 := by unfold pw; split <;> omega
theorem mant_bits (b : Int) : intBits (mant b) ≤ 53 := bits_of_lt (mant_bd b).1 (mant_bd b).2
theorem mant_pos {b : Int} (h : b % 2 ^ 63 ≠ 0) : 0 < mant b := by unfold mant; split <;> omega
theorem two_pow_pos (n : Nat) : (0 : Int) < 2 ^ n := kbt_pos n
theorem bot_pos (b : Int) : 0 < bot b := by unfold bot; split; exact Int.one_pos; exact two_pow_pos _
theorem top_nonneg (b : Int) : 0 ≤ top b := by
  unfold top
  split
  · exact Int.mul_nonneg (mant_bd b).1 (Int.le_of_lt (two_pow_pos _))
  · exact (mant_bd b).1
theorem top_pos {b : Int} (h : b % 2 ^ 63 ≠ 0) : 0 < top b := by
  unfold top
  split
  · exact Int.mul_pos (mant_pos h) (two_pow_pos _)
  · exact mant_pos h
theorem bits_two_pow (n : Nat) : intBits ((2 : Int) ^ n) ≤ n + 1 := bits_of_lt (Int.le_of_lt (two_pow_pos n)) (by
  have e : ((2 : Int) ^ (n + 1)) = 2 ^ n * 2 := Int.pow_succ 2 n
  have := two_pow_pos n
  omega)
theorem bot_bits (b : Int) : intBits (bot b) ≤ 1075 := by
  have h := pw_bd b
  unfold bot
  split
  · decide
  · exact Nat.le_trans (bits_two_pow _) (by omega)
theorem top_bits (b : Int) : intBits (top b) ≤ 1026 := by
  have h := pw_bd b
  unfold top
  split
  · exact Nat.le_trans (bits_mul (mant_bits b) (bits_two_pow _)) (by omega)
  · exact Nat.le_trans (mant_bits b) (by decide)
theorem fdiv_pow (b : Int) (n : Nat) : b.fdiv (2 ^ n) = b / 2 ^ n := Int.fdiv_eq_ediv_of_nonneg _ (Int.le_of_lt (two_pow_pos n))
theorem and_mask52 (b : Int) : Builtin.bitAnd b 4503599627370495 = b % 2 ^ 52 := kbt_mask b 52
theorem and_mask11 (b : Int) : Builtin.bitAnd b 2047 = b % 2048 := kbt_mask b 11
theorem and_mask63 (b : Int) : Builtin.bitAnd b (9223372036854775808 - 1) = b % 2 ^ 63 := kbt_mask b 63
theorem or_hid (b : Int) : Builtin.bitOr (b % 2 ^ 52) 4503599627370496 = b % 2 ^ 52 + 2 ^ 52 := by
  have e := kbt_bit (b % 2 ^ 52) 52
  have e2 : (2 : Int) ^ 52 = 4503599627370496 := by decide
  rw [e2] at e
  rw [bitOr_and, e2, e]
  have : b % 4503599627370496 / 4503599627370496 = 0 := by omega
  rw [this]
  omega
theorem and_mask52' (b : Int) : Builtin.bitAnd b 4503599627370495 = b % 2 ^ 52 := kbt_mask b 52
theorem pw_0 {b : Int} (h0 : 0 ≤ b) (h1 : b < 2 ^ 63) (h : b / 2 ^ 52 = 0) : pw b = -1074 := by unfold pw; rw [if_pos (by omega)]
theorem mant_0 {b : Int} (h0 : 0 ≤ b) (h1 : b < 2 ^ 63) (h : b / 2 ^ 52 = 0) : mant b = b % 2 ^ 52 := by unfold mant; rw [if_pos (by omega)]
theorem pw_1 {b : Int} (h0 : 0 ≤ b) (h1 : b < 2 ^ 63) (h : b / 2 ^ 52 ≠ 0) : pw b = b / 2 ^ 52 - 1075 := by unfold pw; rw [if_neg (by omega)]; omega
theorem mant_1 {b : Int} (h0 : 0 ≤ b) (h1 : b < 2 ^ 63) (h : b / 2 ^ 52 ≠ 0) : mant b = b % 2 ^ 52 + 2 ^ 52 := by unfold mant; rw [if_neg (by omega)]
theorem lr_1 {b : Int} (h0 : 0 ≤ b) (h1 : b < 2 ^ 63) (h : b / 2 ^ 52 = 0) : b % 2 ^ 52 = top b := by
  unfold top; rw [pw_0 h0 h1 h, if_neg (by decide), mant_0 h0 h1 h]
theorem lr_2 {b : Int} (h0 : 0 ≤ b) (h1 : b < 2 ^ 63) (h : b / 2 ^ 52 = 0) : 2 ^ ((0 : Int) - -1074).toNat = bot b := by
  unfold bot; rw [pw_0 h0 h1 h, if_neg (by decide)]; rfl
theorem lr_3 {b : Int} (h0 : 0 ≤ b) (h1 : b < 2 ^ 63) (h : b / 2 ^ 52 ≠ 0) (h2 : 0 ≤ b / 2 ^ 52 - 1075) : (b % 2 ^ 52 + 2 ^ 52) * 2 ^ (b / 2 ^ 52 - 1075).toNat = top b := by
  unfold top; rw [pw_1 h0 h1 h, if_pos h2, mant_1 h0 h1 h]
theorem lr_4 {b : Int} (h0 : 0 ≤ b) (h1 : b < 2 ^ 63) (h : b / 2 ^ 52 ≠ 0) (h2 : 0 ≤ b / 2 ^ 52 - 1075) : 1 = bot b := by
  unfold bot; rw [pw_1 h0 h1 h, if_pos h2]
theorem lr_5 {b : Int} (h0 : 0 ≤ b) (h1 : b < 2 ^ 63) (h : b / 2 ^ 52 ≠ 0) (h2 : ¬ 0 ≤ b / 2 ^ 52 - 1075) : b % 2 ^ 52 + 2 ^ 52 = top b := by
  unfold top; rw [pw_1 h0 h1 h, if_neg h2, mant_1 h0 h1 h]
theorem lr_6 {b : Int} (h0 : 0 ≤ b) (h1 : b < 2 ^ 63) (h : b / 2 ^ 52 ≠ 0) (h2 : ¬ 0 ≤ b / 2 ^ 52 - 1075) : 2 ^ (0 - (b / 2 ^ 52 - 1075)).toNat = bot b := by
  unfold bot; rw [pw_1 h0 h1 h, if_neg h2, Int.zero_sub]
/-- finite, above nought, no sign -/
def Fin (b : Int) : Prop := 0 < b ∧ b < 2047 * 2 ^ 52
end Mine

namespace Mine
open PySem.Builtin.Int (intBits)
local macro_rules | `(tactic| bits_by_make) => `(tactic| ((with_reducible refine bits_pow10 ?_); omega))
local macro_rules | `(tactic| bits_by_make) => `(tactic| ((with_reducible refine bits_pow2 ?_); omega))
local macro_rules | `(tactic| bits_by_make) => `(tactic| with_reducible assumption)
local macro_rules | `(tactic| walk_at "call type:str") => `(tactic| k_extra "call type:str")
local macro_rules | `(tactic| walk_at "binaryOp FloorDiv int int") => `(tactic| k_extra "binaryOp FloorDiv int int")
local macro_rules | `(tactic| walk_at "binaryOp Mod int int") => `(tactic| k_extra "binaryOp Mod int int")
local macro_rules | `(tactic| walk_at "binaryOp RShift int int") => `(tactic| k_extra "binaryOp RShift int int")
local macro_rules | `(tactic| walk_at "binaryOp Pow int int") => `(tactic| k_extra "binaryOp Pow int int")
local macro_rules | `(tactic| walk_at "call ref") => `(tactic| k_extra "call ref")
local macro_rules | `(tactic| walk_at "exec While") => `(tactic| k_extra "exec While")
local macro_rules | `(tactic| walk_at "eval BoolOp") => `(tactic| k_extra "eval BoolOp")
local macro_rules | `(tactic| walk_at "KCj") => `(tactic| k_extra "KCj")
local macro_rules | `(tactic| k_all) => `(tactic| k_extra "k_all")
local macro_rules | `(tactic| walk_at "call builtin:str.join") => `(tactic| k_extra "call builtin:str.join")
local macro_rules | `(tactic| walk_at "compareOp Eq ref ref") => `(tactic| k_extra "compareOp Eq ref ref")
local macro_rules | `(tactic| walk_at "call builtin:list.reverse") => `(tactic| k_extra "call builtin:list.reverse")
local macro_rules | `(tactic| walk_at "subscriptTail") => `(tactic| k_extra "subscriptTail")
local macro_rules | `(tactic| walk_at "call type:list") => `(tactic| k_extra "call type:list")
local macro_rules | `(tactic| walk_at "getItem ref int") => `(tactic| k_extra "getItem ref int")
local macro_rules | `(tactic| walk_at "call builtin:list.pop") => `(tactic| k_extra "call builtin:list.pop")
local macro_rules | `(tactic| walk_at "setItem ref int") => `(tactic| k_extra "setItem ref int")
local macro_rules | `(tactic| walk_at "pyIter ref") => `(tactic| k_extra "pyIter ref")
local macro_rules | `(tactic| walk_at "pyIter str") => `(tactic| k_extra "pyIter str")
local macro_rules | `(tactic| walk_at "exec For Name Name cons nil") => `(tactic| k_extra "exec For Name Name cons nil")
local macro_rules | `(tactic| walk_at "call builtin:str.find") => `(tactic| k_extra "call builtin:str.find")
local macro_rules | `(tactic| walk_at "binaryOp Mult int int") => `(tactic| k_extra "binaryOp Mult int int")
local macro_rules | `(tactic| walk_at "execs cons") => `(tactic| k_extra "execs cons")
local macro_rules | `(tactic| walk_at "execs nil") => `(tactic| k_extra "execs nil")
local macro_rules | `(tactic| walk_at "eval Compare") => `(tactic| k_extra "eval Compare")
local macro_rules | `(tactic| walk_at "call builtin:str.partition") => `(tactic| k_extra "call builtin:str.partition")
local macro_rules | `(tactic| walk_at "isTrue BoolOp") => `(tactic| k_extra "isTrue BoolOp")
local macro_rules | `(tactic| walk_at "compareOp NotEq ref ref") => `(tactic| k_extra "compareOp NotEq ref ref")
local macro_rules | `(tactic| walk_at "call type:int") => `(tactic| k_extra "call type:int")
local macro_rules | `(tactic| walk_at "subscriptTail Name Name str int") => `(tactic| k_extra "subscriptTail Name Name str int")
local macro_rules | `(tactic| walk_at "binaryOp LShift int int") => `(tactic| k_extra "binaryOp LShift int int")
local macro_rules | `(tactic| walk_at "eval IfExp") => `(tactic| k_extra "eval IfExp")
local macro_rules | `(tactic| walk_at "eval ListComp") => `(tactic| k_extra "eval ListComp")
local macro_rules | `(tactic| walk_at "CompSrc") => `(tactic| k_extra "CompSrc")
local macro_rules | `(tactic| walk_at "KCtEl") => `(tactic| k_extra "KCtEl")
local macro_rules | `(tactic| walk_at "binaryOp Add str str") => `(tactic| k_extra "binaryOp Add str str")

section
open PySem.Builtin.Int (intBits)
variable {w : World} {mean : ExcName → Option Value} {mg mb : Str → Option Value}
set_option maxHeartbeats 4000000 in
theorem ct_is_negative (b : Int) (t : Tok) (h0 : 0 ≤ b) (h1 : b < 2 ^ 64) : Ct w mean mg mb 21 1 [.int b t] P0 (OB (decide (b / 2 ^ 63 = 1))) := by
  k_with_none
  k_with "call type:str" => (k_here; (with_reducible show wpAny _ _ (call (Value.type "str") [Value.int _ _]) _ _ _); (refine' str_of_bits (by omega) (by bits_by_make) (by decide) ?_; k_whole; intro hL'))
  k_with "binaryOp FloorDiv int int" => (k_here; (refine' fdiv_bits (by first | assumption | omega | decide | exact two_pow_pos _) (by bits_by_make) (by decide) ?_; k_whole))
  k_with "binaryOp Mod int int" => (k_here; (refine' mod_bits (by first | assumption | omega | decide | exact two_pow_pos _) ?_; k_whole))
  k_with "binaryOp RShift int int" => (k_here; first | (with_reducible refine rsh52 ?_) | (with_reducible refine rsh63 ?_))
  k_with "binaryOp Pow int int" => (k_here; first | (with_reducible refine pow2_52 ?_) | (with_reducible refine pow2_63 ?_) | (with_reducible refine pow2_45 ?_))
  unfold Ct
  k_fill
  intro dp un gd cn cs a ccd cl outer A₀ base h₀ L m news s Q E B F X N T hk hP hd hu hret
  refine wpAny_call ?_
  w_top off
  k_dflt cell_enter
  k_steps
  all_goals refine retB hret (by assumption) (by first | assumption | exact cb_drop (by assumption) (by kcj_all)) ?_
  all_goals (rw [Bool.eq_iff_iff]; simp)


set_option maxHeartbeats 4000000 in
theorem ct_is_nan (b : Int) (t : Tok) (h0 : 0 ≤ b) (h1 : b < 2 ^ 64) : Ct w mean mg mb 28 1 [.int b t] P0 (OB (decide (b % 2 ^ 63 > 2047 * 2 ^ 52))) := by
  k_with "call ref" => (k_here; k_dflt (refine' ct_useB (ct_is_negative _ _ ?_ ?_) (by k_asm) (by k_asm) (by k_asm) (by k_asm) (by k_asm) (by first | exact rfl | assumption) (by trivial) (by ktr_room) (by ktr_units) ?_; (next => omega); (next => omega); k_whole; intro h' tk' F' N'; (try dsimp only); (try k_fold); (try k_sweep)))
  unfold Ct
  k_fill
  intro dp un gd cn cs a ccd cl outer A₀ base h₀ L m news s Q E B F X N T hk hP hd hu hret
  refine wpAny_call ?_
  k_dflt cell_enter
  k_steps
  all_goals refine retB hret (by assumption) (by first | assumption | exact cb_drop (by assumption) (by kcj_all)) ?_
  all_goals (rw [and_mask63]; first | rfl | (rw [Bool.eq_iff_iff]; simp; done))


set_option maxHeartbeats 4000000 in
theorem ct_is_inf (b : Int) (t : Tok) (h0 : 0 ≤ b) (h1 : b < 2 ^ 64) : Ct w mean mg mb 35 1 [.int b t] P0 (OB (decide (b % 2 ^ 63 = 2047 * 2 ^ 52))) := by
  k_with "call ref" => (k_here; k_dflt (refine' ct_useB (ct_is_nan _ _ ?_ ?_) (by k_asm) (by k_asm) (by k_asm) (by k_asm) (by k_asm) (by first | exact rfl | assumption) (by trivial) (by ktr_room) (by ktr_units) ?_; (next => omega); (next => omega); k_whole; intro h' tk' F' N'; (try dsimp only); (try k_fold); (try k_sweep)))
  unfold Ct
  k_fill
  intro dp un gd cn cs a ccd cl outer A₀ base h₀ L m news s Q E B F X N T hk hP hd hu hret
  refine wpAny_call ?_
  k_dflt cell_enter
  k_steps
  all_goals refine retB hret (by assumption) (by first | assumption | exact cb_drop (by assumption) (by kcj_all)) ?_
  all_goals (rw [and_mask63]; first | rfl | (rw [Bool.eq_iff_iff]; simp; done))


set_option maxHeartbeats 4000000 in
theorem ct_is_zero (b : Int) (t : Tok) (h0 : 0 ≤ b) (h1 : b < 2 ^ 64) : Ct w mean mg mb 42 1 [.int b t] P0 (OB (decide (b % 2 ^ 63 = 0))) := by
  k_with "call ref" => (k_here; k_dflt (refine' ct_useB (ct_is_inf _ _ ?_ ?_) (by k_asm) (by k_asm) (by k_asm) (by k_asm) (by k_asm) (by first | exact rfl | assumption) (by trivial) (by ktr_room) (by ktr_units) ?_; (next => omega); (next => omega); k_whole; intro h' tk' F' N'; (try dsimp only); (try k_fold); (try k_sweep)))
  unfold Ct
  k_fill
  intro dp un gd cn cs a ccd cl outer A₀ base h₀ L m news s Q E B F X N T hk hP hd hu hret
  refine wpAny_call ?_
  k_dflt cell_enter
  k_steps
  all_goals refine retB hret (by assumption) (by first | assumption | exact cb_drop (by assumption) (by kcj_all)) ?_
  all_goals (rw [and_mask63]; first | rfl | (rw [Bool.eq_iff_iff]; simp; done))


set_option maxHeartbeats 4000000 in
theorem ct_parts (b : Int) (t : Tok) (h0 : 0 ≤ b) (h1 : b < 2 ^ 64) : Ct w mean mg mb 49 1 [.int b t] P0 (OT3 (fun t => .int (b / 2 ^ 63) t) (fun t => .int (mant b) t) (fun t => .int (pw b) t)) := by
  k_with "call ref" => (k_here; k_dflt (refine' ct_useB (ct_is_zero _ _ ?_ ?_) (by k_asm) (by k_asm) (by k_asm) (by k_asm) (by k_asm) (by first | exact rfl | assumption) (by trivial) (by ktr_room) (by ktr_units) ?_; (next => omega); (next => omega); k_whole; intro h' tk' F' N'; (try dsimp only); (try k_fold); (try k_sweep)))
  unfold Ct
  k_fill
  intro dp un gd cn cs a ccd cl outer A₀ base h₀ L m news s Q E B F X N T hk hP hd hu hret
  refine wpAny_call ?_
  k_dflt cell_enter
  k_steps
  all_goals (first | (rename (Builtin.bitAnd _ _ = _) => hA) | (rename (Builtin.bitAnd _ _ ≠ _) => hA))
  all_goals refine retT3 hret (by assumption) (by assumption) (by k_mem) (by kcj_all) (by first | assumption | exact allLt_of (by assumption) | exact And.right (by assumption) | exact And.right (And.right (by assumption)) | exact And.right (And.right (And.right (by assumption))) | exact And.right (And.right (And.right (And.right (by assumption)))) | exact And.right (And.right (And.right (And.right (And.right (by assumption)))))) (exI ?_) (exI ?_) (exI ?_)
  all_goals (simp only [and_mask11, ne_eq] at hA)
  all_goals (simp only [and_mask52, and_mask11, or_hid, mant, pw, hA, if_true, if_false])


set_option maxHeartbeats 4000000 in
theorem ct_exact (b : Int) (t : Tok) (h0 : 0 ≤ b) (h1 : b < 2 ^ 64) : Ct w mean mg mb 56 2 [.int b t] P0 (OT2 (fun t => .int (if b / 2 ^ 63 = 1 then -top b else top b) t) (fun t => .int (bot b) t)) := by
  k_with "call ref" => (k_here; k_dflt (refine' ct_useT3 (ct_parts _ _ ?_ ?_) (by k_asm) (by k_asm) (by k_asm) (by k_asm) (by k_asm) (by first | exact rfl | assumption) (by trivial) (by ktr_room) (by ktr_units) ?_; (next => omega); (next => omega); k_whole; intro D' t1' t2' t3' h' tk' F' N' l1'; (try dsimp only); (try simp only [AllLt, and_true] at l1'); (try k_fold); (try k_sweep)))
  unfold Ct
  k_fill
  intro dp un gd cn cs a ccd cl outer A₀ base h₀ L m news s Q E B F X N T hk hP hd hu hret
  have hm0 := mant_bd b
  have hm2 := mant_bits b
  have hp0 := pw_bd b
  refine wpAny_call ?_
  k_dflt cell_enter
  k_steps
  all_goals refine retT2 hret (by assumption) (by assumption) (by k_mem) (by kcj_all) (by first | assumption | exact allLt_of (by assumption) | exact And.right (by assumption) | exact And.right (And.right (by assumption)) | exact And.right (And.right (And.right (by assumption))) | exact And.right (And.right (And.right (And.right (by assumption)))) | exact And.right (And.right (And.right (And.right (And.right (by assumption)))))) (exI ?_) (exI ?_)
  all_goals (simp only [top, bot]; (repeat' split) <;> first | rfl | (exfalso; omega) | exact Int.neg_mul _ _ | exact Int.one_mul _)

set_option maxHeartbeats 4000000 in
theorem ct_half_up (x y : Int) (t u : Tok) (hy : intBits y ≤ 5000) (hy0 : 0 < y) : Ct w mean mg mb 140 1 [.int x t, .int y u] P0 (OI ((2 * x + y) / (2 * y))) := by
  unfold Ct
  k_fill
  intro dp un gd cn cs a ccd cl outer A₀ base h₀ L m news s Q E B F X N T hk hP hd hu hret
  refine wpAny_call ?_
  k_dflt cell_enter
  k_steps
  all_goals refine retI hret (by assumption) (by first | assumption | exact cb_drop (by assumption) (by kcj_all)) ?_
  all_goals rfl

set_option maxHeartbeats 4000000 in
theorem ct_scaled (m p : Int) (t u : Tok) (h0 : 0 ≤ m) (h1 : m < 2 ^ 53) (h2 : 0 ≤ p) (h3 : p ≤ 972) : Ct w mean mg mb 63 1 [.int m t, .int p u] P0 (OT4 (fun t => .int (m * (if m = 2 ^ 52 then 4 else 2) * 2 ^ p.toNat) t) (fun t => .int ((if m = 2 ^ 52 then 2 else 1) * 2 ^ p.toNat) t) (fun t => .int (2 ^ p.toNat) t) (fun t => .int (if m = 2 ^ 52 then 4 else 2) t)) := by
  unfold Ct
  k_fill
  intro dp un gd cn cs a ccd cl outer A₀ base h₀ L m news s Q E B F X N T hk hP hd hu hret
  refine wpAny_call ?_
  k_dflt cell_enter
  k_steps
  all_goals refine retT4 hret (by assumption) (by assumption) (by k_mem) (by kcj_all) (by first | assumption | exact allLt_of (by assumption) | exact And.right (by assumption) | exact And.right (And.right (by assumption)) | exact And.right (And.right (And.right (by assumption))) | exact And.right (And.right (And.right (And.right (by assumption)))) | exact And.right (And.right (And.right (And.right (And.right (by assumption)))))) (exI ?_) (exI ?_) (exI ?_) (exI ?_)
  all_goals ((repeat' split) <;> first | rfl | (exfalso; omega) | exact Int.one_mul _)


def dlen (x : Int) : Int := ((Str.ofString (toString x)).length : Int)
@[irreducible] def dplf (x y f : Int) : Int := if 0 ≤ f then (if y * 10 ^ f.toNat ≤ x then f + 1 else f) else (if y ≤ x * 10 ^ (0 - f).toNat then f + 1 else f)
@[irreducible] def dpl (x y : Int) : Int := dplf x y (dlen x - dlen y)
theorem dlen_bd {x : Int} {n : Nat} (h0 : 0 ≤ x) (h : intBits x ≤ n) (hn : n ≤ 1920) : 1 ≤ dlen x ∧ dlen x ≤ 600 := by
  have := len_of_bits h0 h hn
  unfold dlen
  omega
theorem dpl_bd {x y : Int} {n : Nat} (h0 : 0 ≤ x) (h : intBits x ≤ n) (h1 : 0 ≤ y) (h2 : intBits y ≤ n) (hn : n ≤ 1920) : -600 ≤ dpl x y ∧ dpl x y ≤ 600 := by
  have a := dlen_bd h0 h hn
  have b := dlen_bd h1 h2 hn
  unfold dpl dplf
  split <;> split <;> omega
theorem dpl_1 {x y : Int} (h : 0 ≤ dlen x - dlen y) (h2 : y * 10 ^ (dlen x - dlen y).toNat ≤ x) : dlen x - dlen y + 1 = dpl x y := by
  unfold dpl dplf; rw [if_pos h, if_pos h2]
theorem dpl_2 {x y : Int} (h : 0 ≤ dlen x - dlen y) (h2 : ¬ y * 10 ^ (dlen x - dlen y).toNat ≤ x) : dlen x - dlen y = dpl x y := by
  unfold dpl dplf; rw [if_pos h, if_neg h2]
theorem dpl_3 {x y : Int} (h : ¬ 0 ≤ dlen x - dlen y) (h2 : y ≤ x * 10 ^ (0 - (dlen x - dlen y)).toNat) : dlen x - dlen y + 1 = dpl x y := by
  unfold dpl dplf; rw [if_neg h, if_pos h2]
theorem dpl_4 {x y : Int} (h : ¬ 0 ≤ dlen x - dlen y) (h2 : ¬ y ≤ x * 10 ^ (0 - (dlen x - dlen y)).toNat) : dlen x - dlen y = dpl x y := by
  unfold dpl dplf; rw [if_neg h, if_neg h2]
set_option maxHeartbeats 4000000 in
theorem ct_decimal_place (x y : Int) (t u : Tok) (hx0 : 0 ≤ x) (hx : intBits x ≤ 1900) (hy0 : 0 ≤ y) (hy : intBits y ≤ 1900) : Ct w mean mg mb 70 1 [.int x t, .int y u] P0 (OI (dpl x y)) := by
  unfold Ct
  k_fill
  intro dp un gd cn cs a ccd cl outer A₀ base h₀ L m news s Q E B F X N T hk hP hd hu hret
  refine wpAny_call ?_
  k_dflt cell_enter
  k_steps
  all_goals refine retI hret (by assumption) (by first | assumption | exact cb_drop (by assumption) (by kcj_all)) ?_
  all_goals first | exact dpl_1 (by assumption) (by assumption) | exact dpl_2 (by assumption) (by assumption) | exact dpl_3 (by assumption) (by assumption) | exact dpl_4 (by assumption) (by assumption)


set_option maxHeartbeats 4000000 in
theorem ct_last_figure (f r u : Int) (i j : Bool) (t1 t2 t3 : Tok) : Ct w mean mg mb 91 1 [.int f t1, .int r t2, .int u t3, .bool i, .bool j] P0 (OI (if i = true ∧ j = true then (if 2 * r = u then f + f % 2 else f + (if u < 2 * r then 1 else 0)) else f + (if j = true then 1 else 0))) := by
  k_with "call ref" => (k_here; k_dflt (refine' ct_useI (ct_decimal_place _ _ _ _ ?_ ?_ ?_ ?_) (by k_asm) (by k_asm) (by k_asm) (by k_asm) (by k_asm) (by first | exact rfl | assumption) (by trivial) (by ktr_room) (by ktr_units) ?_; (next => omega); (next => bits_by_make); (next => omega); (next => bits_by_make); k_whole; intro t' h' tk' F' N'; (try dsimp only); (try k_fold); (try k_sweep)))
  unfold Ct
  k_fill
  intro dp un gd cn cs a ccd cl outer A₀ base h₀ L m news s Q E B F X N T hk hP hd hu hret
  refine wpAny_call ?_
  k_dflt cell_enter
  k_steps
  all_goals refine retI hret (by assumption) (by first | assumption | exact cb_drop (by assumption) (by kcj_all)) ?_
  all_goals (simp only [*, decide_eq_true_eq]; (repeat' split) <;> first | rfl | (exfalso; omega) | (simp_all; done))


@[irreducible] def seS (x : Int) : Str := Str.ofString "e" ++ Str.ofString (if x < 0 then "-" else "+") ++ Str.ofString (toString (if x < 0 then -x else x))
theorem seS_len {x : Int} (h0 : -1000 ≤ x) (h1 : x ≤ 1000) : (seS x).length ≤ 700 := by
  have h : (Str.ofString (toString (if x < 0 then -x else x))).length ≤ 600 := (len_of_bits (n := 64) (by split <;> omega) (by split <;> exact intBits_le_64 (by omega) (by omega)) (by decide)).2
  unfold seS
  rw [Str.length_append, Str.length_append]
  have h2 : (Str.ofString (if x < 0 then "-" else "+")).length = 1 := by split <;> decide
  have h3 : (Str.ofString "e").length = 1 := by decide
  omega
set_option maxHeartbeats 4000000 in
theorem ct_signed_exponent (x : Int) (t1 : Tok) (h0 : -1000 ≤ x) (h1 : x ≤ 1000) : Ct w mean mg mb 98 1 [.int x t1] P0 (OS (seS x)) := by
  unfold Ct
  k_fill
  intro dp un gd cn cs a ccd cl outer A₀ base h₀ L m news s Q E B F X N T hk hP hd hu hret
  refine wpAny_call ?_
  k_dflt cell_enter
  k_steps
  all_goals refine retS hret (by assumption) (by first | assumption | exact cb_drop (by assumption) (by kcj_all)) ?_
  all_goals (unfold seS; (repeat' split) <;> first | rfl | (exfalso; omega))

end

section
open PySem.Builtin.Int (intBits)
variable {w : World} {mean : ExcName → Option Value} {mg mb : Str → Option Value}












@[irreducible] def sgS (b : Int) : Str := Str.ofString (if b / 2 ^ 63 = 1 then "-" else "")
@[irreducible] def fpl (n a u : Int) (e : Bool) : Int :=
  if 0 ≤ dpl n u then (if u * 10 ^ (dpl n u).toNat < n + a then dpl n u + 1 else if e = true ∧ n + a = u * 10 ^ (dpl n u).toNat then dpl n u + 1 else dpl n u)
  else (if u < (n + a) * 10 ^ (0 - dpl n u).toNat then dpl n u + 1 else if e = true ∧ (n + a) * 10 ^ (0 - dpl n u).toNat = u then dpl n u + 1 else dpl n u)
theorem fpl_bd {x a y : Int} {e : Bool} {n : Nat} (h0 : 0 ≤ x) (h : intBits x ≤ n) (h1 : 0 ≤ y) (h2 : intBits y ≤ n) (hn : n ≤ 1920) : -600 ≤ fpl x a y e ∧ fpl x a y e ≤ 601 := by
  have h3 := dpl_bd h0 h h1 h2 hn
  unfold fpl
  (repeat' split) <;> omega
theorem fpl_p1 {n a u : Int} {e : Bool} (h : 0 ≤ dpl n u) (h1 : u * 10 ^ (dpl n u).toNat < n + a) : dpl n u + 1 = fpl n a u e := by unfold fpl; rw [if_pos h, if_pos h1]
theorem fpl_p2 {n a u : Int} {e : Bool} (h : 0 ≤ dpl n u) (h1 : ¬ u * 10 ^ (dpl n u).toNat < n + a) (h2 : e = true) (h3 : n + a = u * 10 ^ (dpl n u).toNat) : dpl n u + 1 = fpl n a u e := by unfold fpl; rw [if_pos h, if_neg h1, if_pos ⟨h2, h3⟩]
theorem fpl_p3 {n a u : Int} {e : Bool} (h : 0 ≤ dpl n u) (h1 : ¬ u * 10 ^ (dpl n u).toNat < n + a) (h3 : ¬ n + a = u * 10 ^ (dpl n u).toNat) : dpl n u = fpl n a u e := by unfold fpl; rw [if_pos h, if_neg h1, if_neg (fun x => h3 x.2)]
theorem fpl_p4 {n a u : Int} {e : Bool} (h : 0 ≤ dpl n u) (h1 : ¬ u * 10 ^ (dpl n u).toNat < n + a) (h2 : e = false) : dpl n u = fpl n a u e := by unfold fpl; rw [if_pos h, if_neg h1, if_neg (fun x => by rw [h2] at x; cases x.1)]
theorem fpl_n1 {n a u : Int} {e : Bool} (h : ¬ 0 ≤ dpl n u) (h1 : u < (n + a) * 10 ^ (0 - dpl n u).toNat) : dpl n u + 1 = fpl n a u e := by unfold fpl; rw [if_neg h, if_pos h1]
theorem fpl_n2 {n a u : Int} {e : Bool} (h : ¬ 0 ≤ dpl n u) (h1 : ¬ u < (n + a) * 10 ^ (0 - dpl n u).toNat) (h2 : e = true) (h3 : (n + a) * 10 ^ (0 - dpl n u).toNat = u) : dpl n u + 1 = fpl n a u e := by unfold fpl; rw [if_neg h, if_neg h1, if_pos ⟨h2, h3⟩]
theorem fpl_n3 {n a u : Int} {e : Bool} (h : ¬ 0 ≤ dpl n u) (h1 : ¬ u < (n + a) * 10 ^ (0 - dpl n u).toNat) (h3 : ¬ (n + a) * 10 ^ (0 - dpl n u).toNat = u) : dpl n u = fpl n a u e := by unfold fpl; rw [if_neg h, if_neg h1, if_neg (fun x => h3 x.2)]
theorem fpl_n4 {n a u : Int} {e : Bool} (h : ¬ 0 ≤ dpl n u) (h1 : ¬ u < (n + a) * 10 ^ (0 - dpl n u).toNat) (h2 : e = false) : dpl n u = fpl n a u e := by unfold fpl; rw [if_neg h, if_neg h1, if_neg (fun x => by rw [h2] at x; cases x.1)]
@[irreducible] def weS (f : Str) (x : Int) : Str :=
  Txt.slice f none (some 1) ++ (if 1 < (f.length : Int) then Str.ofString "." ++ Txt.slice f (some 1) none else Str.ofString "") ++ seS x
@[irreducible] def loS (f : Str) (x : Int) : Str :=
  if (f.length : Int) ≤ x ∧ x ≤ 21 then f ++ Txt.mul (Str.ofString "0") (x - f.length)
  else if 0 < x ∧ x ≤ 21 then Txt.slice f none (some x) ++ Str.ofString "." ++ Txt.slice f (some x) none
  else if -6 < x ∧ x ≤ 0 then Str.ofString "0." ++ Txt.mul (Str.ofString "0") (0 - x) ++ f
  else weS f (x - 1)
set_option maxHeartbeats 4000000 in
theorem ct_without_figures (b : Int) (t : Tok) (h0 : 0 ≤ b) (h1 : b < 2 ^ 64) (hf : b % 2 ^ 63 < 2047 * 2 ^ 52) : Ct w mean mg mb 119 2 [.int b t] P0 (ON) := by
  k_with_none
  k_with "call type:str" => (k_here; (with_reducible show wpAny _ _ (call (Value.type "str") [Value.int _ _]) _ _ _); (refine' str_of_bits (by omega) (by bits_by_make) (by decide) ?_; k_whole; intro hL'))
  k_with "binaryOp FloorDiv int int" => (k_here; (refine' fdiv_bits (by first | assumption | omega | decide | exact two_pow_pos _) (by bits_by_make) (by decide) ?_; k_whole))
  k_with "binaryOp Mod int int" => (k_here; (refine' mod_bits (by first | assumption | omega | decide | exact two_pow_pos _) ?_; k_whole))
  k_with "binaryOp RShift int int" => (k_here; first | (with_reducible refine rsh52 ?_) | (with_reducible refine rsh63 ?_))
  k_with "binaryOp Pow int int" => (k_here; first | (with_reducible refine pow2_52 ?_) | (with_reducible refine pow2_63 ?_) | (with_reducible refine pow2_45 ?_))
  k_with "call ref" => (k_here; k_dflt (refine' ct_useB (ct_is_negative _ _ ?_ ?_) (by k_asm) (by k_asm) (by k_asm) (by k_asm) (by k_asm) (by first | exact rfl | assumption) (by trivial) (by ktr_room) (by ktr_units) ?_; (next => omega); (next => omega); k_whole; intro h' tk' F' N'; (try dsimp only); (try k_fold); (try k_sweep)))
  k_with "call ref" => (k_here; k_dflt (refine' ct_useB (ct_is_nan _ _ ?_ ?_) (by k_asm) (by k_asm) (by k_asm) (by k_asm) (by k_asm) (by first | exact rfl | assumption) (by trivial) (by ktr_room) (by ktr_units) ?_; (next => omega); (next => omega); k_whole; intro h' tk' F' N'; (try dsimp only); (try k_fold); (try k_sweep)))
  k_with "call ref" => (k_here; k_dflt (refine' ct_useB (ct_is_inf _ _ ?_ ?_) (by k_asm) (by k_asm) (by k_asm) (by k_asm) (by k_asm) (by first | exact rfl | assumption) (by trivial) (by ktr_room) (by ktr_units) ?_; (next => omega); (next => omega); k_whole; intro h' tk' F' N'; (try dsimp only); (try k_fold); (try k_sweep)))
  k_with "call ref" => (k_here; k_dflt (refine' ct_useB (ct_is_zero _ _ ?_ ?_) (by k_asm) (by k_asm) (by k_asm) (by k_asm) (by k_asm) (by first | exact rfl | assumption) (by trivial) (by ktr_room) (by ktr_units) ?_; (next => omega); (next => omega); k_whole; intro h' tk' F' N'; (try dsimp only); (try k_fold); (try k_sweep)))
  k_with "call ref" => (k_here; k_dflt (refine' ct_useT3 (ct_parts _ _ ?_ ?_) (by k_asm) (by k_asm) (by k_asm) (by k_asm) (by k_asm) (by first | exact rfl | assumption) (by trivial) (by ktr_room) (by ktr_units) ?_; (next => omega); (next => omega); k_whole; intro D' t1' t2' t3' h' tk' F' N' l1'; (try dsimp only); (try simp only [AllLt, and_true] at l1'); (try k_fold); (try k_sweep)))
  k_with "call ref" => (k_here; k_dflt (refine' ct_useT2 (ct_exact _ _ ?_ ?_) (by k_asm) (by k_asm) (by k_asm) (by k_asm) (by k_asm) (by first | exact rfl | assumption) (by trivial) (by ktr_room) (by ktr_units) ?_; (next => omega); (next => omega); k_whole; intro D' t1' t2' h' tk' F' N' l1'; (try dsimp only); (try simp only [AllLt, and_true] at l1'); (try k_fold); (try k_sweep)))
  k_with "call ref" => (k_here; k_dflt (refine' ct_useI (ct_half_up _ _ _ _ ?_ ?_) (by k_asm) (by k_asm) (by k_asm) (by k_asm) (by k_asm) (by first | exact rfl | assumption) (by trivial) (by ktr_room) (by ktr_units) ?_; (next => bits_by_make); (next => omega); k_whole; intro t' h' tk' F' N'; (try dsimp only); (try k_fold); (try k_sweep)))
  k_with "call ref" => (k_here; k_dflt (refine' ct_useT4 (ct_scaled _ _ _ _ ?_ ?_ ?_ ?_) (by k_asm) (by k_asm) (by k_asm) (by k_asm) (by k_asm) (by first | exact rfl | assumption) (by trivial) (by ktr_room) (by ktr_units) ?_; (next => omega); (next => omega); (next => omega); (next => omega); k_whole; intro D' t1' t2' t3' t4' h' tk' F' N' l1'; (try dsimp only); (try simp only [AllLt, and_true] at l1'); (try k_fold); (try k_sweep)))
  k_with "call ref" => (k_here; k_dflt (refine' ct_useI (ct_decimal_place _ _ _ _ ?_ ?_ ?_ ?_) (by k_asm) (by k_asm) (by k_asm) (by k_asm) (by k_asm) (by first | exact rfl | assumption) (by trivial) (by ktr_room) (by ktr_units) ?_; (next => omega); (next => bits_by_make); (next => omega); (next => bits_by_make); k_whole; intro t' h' tk' F' N'; (try dsimp only); (try k_fold); (try k_sweep)))
  k_with "call ref" => (k_here; k_dflt (refine' ct_useI (ct_last_figure _ _ _ _ _ _ _ _ ) (by k_asm) (by k_asm) (by k_asm) (by k_asm) (by k_asm) (by first | exact rfl | assumption) (by trivial) (by ktr_room) (by ktr_units) ?_; k_whole; intro t' h' tk' F' N'; (try dsimp only); (try k_fold); (try k_sweep)))
  k_with "call ref" => (k_here; k_dflt (refine' ct_useS (ct_signed_exponent _ _ ?_ ?_) (by k_asm) (by k_asm) (by k_asm) (by k_asm) (by k_asm) (by first | exact rfl | assumption) (by trivial) (by ktr_room) (by ktr_units) ?_; (next => omega); (next => omega); k_whole; intro t' h' tk' F' N'; (try dsimp only); (try k_fold); (try k_sweep)))
  unfold Ct
  k_fill
  intro dp un gd cn cs a ccd cl outer A₀ base h₀ L m news s Q E B F X N T hk hP hd hu hret
  refine wpAny_call ?_
  w_top off
  k_dflt cell_enter
  k_steps
  all_goals refine retN hret (by assumption) (by first | assumption | exact cb_drop (by assumption) (by kcj_all))


set_option maxHeartbeats 4000000 in
theorem ct_sign_and_ratio (b : Int) (t : Tok) (h0 : 0 ≤ b) (h1 : b < 2 ^ 64) (hz : b % 2 ^ 63 ≠ 0) : Ct w mean mg mb 133 3 [.int b t] P0 (OT3 (fun t => .str (sgS b) t) (fun t => .int (top b) t) (fun t => .int (bot b) t)) := by
  k_with "call ref" => (k_here; k_dflt (refine' ct_useN (ct_without_figures _ _ ?_ ?_ ?_) (by k_asm) (by k_asm) (by k_asm) (by k_asm) (by k_asm) (by first | exact rfl | assumption) (by trivial) (by ktr_room) (by ktr_units) ?_; (next => omega); (next => omega); (next => omega); k_whole; intro h' tk' F' N'; (try dsimp only); (try k_fold); (try k_sweep)))
  unfold Ct
  k_fill
  intro dp un gd cn cs a ccd cl outer A₀ base h₀ L m news s Q E B F X N T hk hP hd hu hret
  have hm0 := top_pos hz
  refine wpAny_call ?_
  k_dflt cell_enter
  k_steps
  all_goals refine retT3 hret (by assumption) (by assumption) (by k_mem) (by kcj_all) (by first | assumption | exact allLt_of (by assumption) | exact And.right (by assumption) | exact And.right (And.right (by assumption)) | exact And.right (And.right (And.right (by assumption))) | exact And.right (And.right (And.right (And.right (by assumption)))) | exact And.right (And.right (And.right (And.right (And.right (by assumption)))))) (exS ?_) (exI ?_) (exI ?_)
  all_goals (try unfold sgS)
  all_goals ((repeat' split) <;> first | rfl | (exfalso; omega) | omega)


set_option maxHeartbeats 4000000 in
theorem ct_first_place (n a u : Int) (e : Bool) (t1 t2 t3 : Tok) (hx0 : 0 ≤ n) (hx : intBits n ≤ 1900) (hu0 : 0 ≤ u) (hu1 : intBits u ≤ 1900) (ha1 : intBits a ≤ 1900) : Ct w mean mg mb 77 2 [.int n t1, .int a t2, .int u t3, .bool e] P0 (OI (fpl n a u e)) := by
  k_with "call ref" => (k_here; k_dflt (refine' ct_useT3 (ct_sign_and_ratio _ _ ?_ ?_ ?_) (by k_asm) (by k_asm) (by k_asm) (by k_asm) (by k_asm) (by first | exact rfl | assumption) (by trivial) (by ktr_room) (by ktr_units) ?_; (next => omega); (next => omega); (next => omega); k_whole; intro D' t1' t2' t3' h' tk' F' N' l1'; (try dsimp only); (try simp only [AllLt, and_true] at l1'); (try k_fold); (try k_sweep)))
  unfold Ct
  k_fill
  intro dp un gd cn cs a ccd cl outer A₀ base h₀ L m news s Q E B F X N T hk hP hd hu hret
  have hb := dpl_bd (x := n) hx0 hx hu0 hu1 (by decide)
  refine wpAny_call ?_
  k_dflt cell_enter
  k_steps
  all_goals refine retI hret (by assumption) (by first | assumption | exact cb_drop (by assumption) (by kcj_all)) ?_
  all_goals first | exact fpl_p1 (by assumption) (by assumption) | exact fpl_p2 (by assumption) (by assumption) (by assumption) (by assumption) | exact fpl_p3 (by assumption) (by assumption) (by assumption) | exact fpl_p4 (by assumption) (by assumption) (by assumption) | exact fpl_n1 (by assumption) (by assumption) | exact fpl_n2 (by assumption) (by assumption) (by assumption) (by assumption) | exact fpl_n3 (by assumption) (by assumption) (by assumption) | exact fpl_n4 (by assumption) (by assumption) (by assumption)


set_option maxHeartbeats 4000000 in
theorem ct_with_exponent (x : Int) (f : Str) (t1 t2 : Tok) (h0 : -1000 ≤ x) (h1 : x ≤ 1000) (hf : f.length ≤ 1000000) : Ct w mean mg mb 105 2 [.str f t2, .int x t1] P0 (OS (weS f x)) := by
  k_with "call ref" => (k_here; k_dflt (refine' ct_useI (ct_first_place _ _ _ _ _ _ _ ?_ ?_ ?_ ?_ ?_) (by k_asm) (by k_asm) (by k_asm) (by k_asm) (by k_asm) (by first | exact rfl | assumption) (by trivial) (by ktr_room) (by ktr_units) ?_; (next => omega); (next => bits_by_make); (next => omega); (next => bits_by_make); (next => bits_by_make); k_whole; intro t' h' tk' F' N'; (try dsimp only); (try k_fold); (try k_sweep)))
  unfold Ct
  k_fill
  intro dp un gd cn cs a ccd cl outer A₀ base h₀ L m news s Q E B F X N T hk hP hd hu hret
  have hse := seS_len h0 h1
  refine wpAny_call ?_
  k_dflt cell_enter
  k_steps
  all_goals refine retS hret (by assumption) (by first | assumption | exact cb_drop (by assumption) (by kcj_all)) ?_
  all_goals (unfold weS; (repeat' split) <;> first | rfl | (exfalso; omega))


set_option maxHeartbeats 4000000 in
theorem ct_laid_out (x : Int) (f : Str) (t1 t2 : Tok) (h0 : -900 ≤ x) (h1 : x ≤ 900) (hf : f.length ≤ 1000000) : Ct w mean mg mb 112 3 [.str f t2, .int x t1] P0 (OS (loS f x)) := by
  k_with "call ref" => (k_here; k_dflt (refine' ct_useS (ct_with_exponent _ _ _ _ ?_ ?_ ?_) (by k_asm) (by k_asm) (by k_asm) (by k_asm) (by k_asm) (by first | exact rfl | assumption) (by trivial) (by ktr_room) (by ktr_units) ?_; (next => omega); (next => omega); (next => omega); k_whole; intro t' h' tk' F' N'; (try dsimp only); (try k_fold); (try k_sweep)))
  unfold Ct
  k_fill
  intro dp un gd cn cs a ccd cl outer A₀ base h₀ L m news s Q E B F X N T hk hP hd hu hret
  refine wpAny_call ?_
  k_dflt cell_enter
  k_steps
  all_goals refine retS hret (by assumption) (by first | assumption | exact cb_drop (by assumption) (by kcj_all)) ?_
  all_goals (unfold loS; (repeat' split) <;> first | rfl | (exfalso; omega))


set_option maxHeartbeats 4000000 in
theorem ct_law_ratio (b : Int) (t : Tok) (h0 : 0 ≤ b) (h1 : b < 2 ^ 63) : Ct w mean mg mb 180 1 [.int b t] P0 (OT2 (fun t => .int (top b) t) (fun t => .int (bot b) t)) := by
  k_with "call ref" => (k_here; k_dflt (refine' ct_useS (ct_laid_out _ _ _ _ ?_ ?_ ?_) (by k_asm) (by k_asm) (by k_asm) (by k_asm) (by k_asm) (by first | exact rfl | assumption) (by trivial) (by ktr_room) (by ktr_units) ?_; (next => omega); (next => omega); (next => omega); k_whole; intro t' h' tk' F' N'; (try dsimp only); (try k_fold); (try k_sweep)))
  unfold Ct
  k_fill
  intro dp un gd cn cs a ccd cl outer A₀ base h₀ L m news s Q E B F X N T hk hP hd hu hret
  refine wpAny_call ?_
  k_dflt cell_enter
  k_steps
  all_goals refine retT2 hret (by assumption) (by assumption) (by k_mem) (by kcj_all) (by first | assumption | exact allLt_of (by assumption) | exact And.right (by assumption) | exact And.right (And.right (by assumption)) | exact And.right (And.right (And.right (by assumption))) | exact And.right (And.right (And.right (And.right (by assumption)))) | exact And.right (And.right (And.right (And.right (And.right (by assumption)))))) (exI ?_) (exI ?_)
  all_goals first | exact lr_1 h0 h1 (by assumption) | exact lr_2 h0 h1 (by assumption) | exact lr_3 h0 h1 (by assumption) (by assumption) | exact lr_4 h0 h1 (by assumption) (by assumption) | exact lr_5 h0 h1 (by assumption) (by assumption) | exact lr_6 h0 h1 (by assumption) (by assumption)


set_option maxHeartbeats 4000000 in
theorem ct_law_between (x0 x1 y0 y1 : Int) (t1 t2 t3 t4 : Tok) (p q : Addr) (hx0 : intBits x0 ≤ 20000) (hx1 : intBits x1 ≤ 20000) (hy0 : intBits y0 ≤ 20000) (hy1 : intBits y1 ≤ 20000) : Ct w mean mg mb 187 1 [.ref p, .ref q] (fun news => (p, ({ cls := .type "tuple", data := .seq #[.int x0 t1, .int x1 t2] } : Obj)) ∈ news ∧ (q, ({ cls := .type "tuple", data := .seq #[.int y0 t3, .int y1 t4] } : Obj)) ∈ news) (OT2 (fun t => .int (x0 * y1 + y0 * x1) t) (fun t => .int (2 * x1 * y1) t)) := by
  k_with "call ref" => (k_here; k_dflt (refine' ct_useT2 (ct_law_ratio _ _ ?_ ?_) (by k_asm) (by k_asm) (by k_asm) (by k_asm) (by k_asm) (by first | exact rfl | assumption) (by trivial) (by ktr_room) (by ktr_units) ?_; (next => omega); (next => omega); k_whole; intro D' t1' t2' h' tk' F' N' l1'; (try dsimp only); (try simp only [AllLt, and_true] at l1'); (try k_fold); (try k_sweep)))
  unfold Ct
  k_fill
  intro dp un gd cn cs a ccd cl outer A₀ base h₀ L m news s Q E B F X N T hk hP hd hu hret
  obtain ⟨hp, hq⟩ := hP
  refine wpAny_call ?_
  k_dflt cell_enter
  k_steps
  all_goals refine retT2 hret (by assumption) (by assumption) (by k_mem) (by kcj_all) (by first | assumption | exact allLt_of (by assumption) | exact And.right (by assumption) | exact And.right (And.right (by assumption)) | exact And.right (And.right (And.right (by assumption))) | exact And.right (And.right (And.right (And.right (by assumption)))) | exact And.right (And.right (And.right (And.right (And.right (by assumption)))))) (exI ?_) (exI ?_)
  all_goals rfl

set_option maxHeartbeats 4000000 in
theorem ct_law_order (x0 x1 y0 y1 : Int) (t1 t2 t3 t4 : Tok) (p q : Addr) (hx0 : intBits x0 ≤ 20000) (hx1 : intBits x1 ≤ 20000) (hy0 : intBits y0 ≤ 20000) (hy1 : intBits y1 ≤ 20000) : Ct w mean mg mb 194 1 [.ref p, .ref q] (fun news => (p, ({ cls := .type "tuple", data := .seq #[.int x0 t1, .int x1 t2] } : Obj)) ∈ news ∧ (q, ({ cls := .type "tuple", data := .seq #[.int y0 t3, .int y1 t4] } : Obj)) ∈ news) (OI (x0 * y1 - y0 * x1)) := by
  unfold Ct
  k_fill
  intro dp un gd cn cs a ccd cl outer A₀ base h₀ L m news s Q E B F X N T hk hP hd hu hret
  obtain ⟨hp, hq⟩ := hP
  refine wpAny_call ?_
  k_dflt cell_enter
  k_steps
  all_goals refine retI hret (by assumption) (by first | assumption | exact cb_drop (by assumption) (by kcj_all)) ?_
  all_goals rfl

end

section
/-- a goal at which the walk is to stand still -/
def Held (P : Prop) : Prop := P
theorem of_held {P : Prop} (h : Held P) : P := h
end

section
open PySem.Builtin.Int (intBits)
variable {w : World} {mean : ExcName → Option Value} {mg mb : Str → Option Value}

@[irreducible] def sN (m p : Int) : Int := m * (if m = 2 ^ 52 then 4 else 2) * 2 ^ p.toNat
@[irreducible] def sA (m p : Int) : Int := (if m = 2 ^ 52 then 2 else 1) * 2 ^ p.toNat
@[irreducible] def sB (p : Int) : Int := 2 ^ p.toNat
@[irreducible] def sU (m : Int) : Int := if m = 2 ^ 52 then 4 else 2
theorem sN_nn {m p : Int} (h : 0 ≤ m) : 0 ≤ sN m p := by
  unfold sN
  refine Int.mul_nonneg (Int.mul_nonneg h ?_) (Int.le_of_lt (two_pow_pos _))
  split <;> decide
theorem sN_bits {m p : Int} (h : intBits m ≤ 53) (hp : p ≤ 972) : intBits (sN m p) ≤ 1050 := by
  unfold sN
  refine Nat.le_trans (bits_mul (bits_mul (n := 3) h ?_) (bits_two_pow _)) (by omega)
  split <;> decide
theorem sA_nn {m p : Int} : 0 ≤ sA m p := by
  unfold sA
  refine Int.mul_nonneg ?_ (Int.le_of_lt (two_pow_pos _))
  split <;> decide
theorem sA_bits {m p : Int} (hp : p ≤ 972) : intBits (sA m p) ≤ 1050 := by
  unfold sA
  refine Nat.le_trans (bits_mul (m := 3) ?_ (bits_two_pow _)) (by omega)
  split <;> decide
theorem sB_pos {p : Int} : 0 < sB p := by unfold sB; exact two_pow_pos _
theorem sB_bits {p : Int} (hp : p ≤ 972) : intBits (sB p) ≤ 1050 := by unfold sB; exact Nat.le_trans (bits_two_pow _) (by omega)
theorem sU_pos {m : Int} : 2 ≤ sU m ∧ sU m ≤ 4 := by unfold sU; split <;> decide
theorem sU_bits {m : Int} : intBits (sU m) ≤ 3 := by unfold sU; split <;> decide
theorem ct_scaled2 (m p : Int) (t u : Tok) (h0 : 0 ≤ m) (h1 : m < 2 ^ 53) (h2 : 0 ≤ p) (h3 : p ≤ 972) : Ct w mean mg mb 63 1 [.int m t, .int p u] P0 (OT4 (fun t => .int (sN m p) t) (fun t => .int (sA m p) t) (fun t => .int (sB p) t) (fun t => .int (sU m) t)) := by
  have h := ct_scaled (w := w) (mean := mean) (mg := mg) (mb := mb) m p t u h0 h1 h2 h3
  unfold sN sA sB sU
  exact h

@[irreducible] def lastF (f r u : Int) (i j : Bool) : Int := if i = true ∧ j = true then (if 2 * r = u then f + f % 2 else f + (if u < 2 * r then 1 else 0)) else f + (if j = true then 1 else 0)
@[irreducible] def lowB (r c : Int) (e : Bool) : Bool := decide (r < c) || (e && (r == c))
@[irreducible] def highB (x u : Int) (e : Bool) : Bool := decide (u < x) || (e && (x == u))
def shGo (u : Int) (e : Bool) : Nat → Int → Int → Int → List Str
  | 0, _, _, _ => []
  | k + 1, n, a, b =>
    if (lowB (n * 10 % u) (b * 10) e || highB (n * 10 % u + a * 10) u e) = true then
      [Str.ofString (toString (lastF (n * 10 / u) (n * 10 % u) u (lowB (n * 10 % u) (b * 10) e) (highB (n * 10 % u + a * 10) u e)))]
    else Str.ofString (toString (n * 10 / u)) :: shGo u e k (n * 10 % u) (a * 10) (b * 10)
structure ShSt where
  n : Int
  a : Int
  b : Int
  tn : Tok
  ta : Tok
  tb : Tok
  its : List Value
  v : Nat
  L : List Str
  k : Nat
@[irreducible] def shPl (b : Int) : Int := fpl (sN (mant b) (pw b)) (sA (mant b) (pw b)) (sU (mant b)) (mant b % 2 == 0)
@[irreducible] def shS (b : Int) : Str := Txt.join (Str.ofString "") (shGo (sU (mant b) * 10 ^ (shPl b).toNat) (mant b % 2 == 0) 801 (sN (mant b) (pw b)) (sA (mant b) (pw b)) (sB (pw b)))
theorem lowB_1 {r c : Int} {e : Bool} (h : r < c) : decide (r < c) = lowB r c e := by unfold lowB; simp [h]
theorem lowB_2 {r c : Int} {e : Bool} (h : ¬ r < c) (h2 : e = true) : (r == c) = lowB r c e := by unfold lowB; simp [h, h2]
theorem lowB_3 {r c : Int} {e : Bool} (h : ¬ r < c) (h2 : e = false) : e = lowB r c e := by unfold lowB; simp [h, h2]
theorem highB_1 {r c : Int} {e : Bool} (h : c < r) : decide (c < r) = highB r c e := by unfold highB; simp [h]
theorem highB_2 {r c : Int} {e : Bool} (h : ¬ c < r) (h2 : e = true) : (r == c) = highB r c e := by unfold highB; simp [h, h2]
theorem highB_3 {r c : Int} {e : Bool} (h : ¬ c < r) (h2 : e = false) : e = highB r c e := by unfold highB; simp [h, h2]
def ShP (U : Int) (ev : Bool) (R : List Str) (c : ShSt) : Prop :=
  0 ≤ c.n ∧ (c.n < U ∨ intBits c.n ≤ 1100) ∧ 1 ≤ c.k ∧ c.k ≤ 801 ∧ U ≤ c.b * 10 ^ (c.k - 1) ∧ c.L ++ shGo U ev c.k c.n c.a c.b = R ∧ (c.L.map (·.length)).sum ≤ (801 - c.k) * 600 ∧ c.L.length ≤ 801 - c.k

theorem ct_last_figure2 (f r u : Int) (i j : Bool) (t1 t2 t3 : Tok) : Ct w mean mg mb 91 1 [.int f t1, .int r t2, .int u t3, .bool i, .bool j] P0 (OI (lastF f r u i j)) := by
  have h := ct_last_figure (w := w) (mean := mean) (mg := mg) (mb := mb) f r u i j t1 t2 t3
  unfold lastF
  exact h
theorem strsAre_push {its : List Value} {L : List Str} {y : Str} {t : Tok} (h : StrsAre its L) : StrsAre (its.toArray.push (.str y t)).toList (L ++ [y]) := by
  rw [Array.toList_push]
  exact StrsAre.append' h (.cons y t .nil)
theorem sh_q {n U : Int} (h1 : 0 ≤ n) (h2 : n < U ∨ intBits n ≤ 1100) (hU : 0 < U) : 0 ≤ n * 10 / U ∧ intBits (n * 10 / U) ≤ 1104 := by
  have h0 : 0 ≤ n * 10 / U := Int.ediv_nonneg (by omega) (by omega)
  refine ⟨h0, ?_⟩
  rcases h2 with h2 | h2
  · have h3 : n * 10 / U < 10 := Int.ediv_lt_of_lt_mul hU (by omega)
    exact Nat.le_trans (intBits_le_64 (by omega) (by omega)) (by decide)
  · have h4 : n * 10 / U ≤ n * 10 := Int.ediv_le_self _ (by omega)
    exact intBits_le_of_natAbs (y := n * 10) (by omega) (bits_mul (n := 4) h2 (by decide))
theorem sh_l {q r U : Int} {i j : Bool} (h0 : 0 ≤ q) (h1 : intBits q ≤ 1104) : 0 ≤ lastF q r U i j ∧ intBits (lastF q r U i j) ≤ 1106 := by
  have k : ∀ d : Int, 0 ≤ d → d ≤ 1 → 0 ≤ q + d ∧ intBits (q + d) ≤ 1106 := fun d h2 h3 => ⟨by omega, Nat.le_trans (bits_add h1 (intBits_le_64 (by omega) (by omega))) (by decide)⟩
  unfold lastF
  (repeat' split) <;> first | exact k _ (by omega) (by omega)
theorem sh_low0 {n b U : Int} {ev : Bool} {k : Nat} (hU : 0 < U) (hk : 1 ≤ k) (hb : U ≤ b * 10 ^ (k - 1)) (hl : lowB (n * 10 % U) (b * 10) ev = false) : 2 ≤ k ∧ U ≤ b * 10 * 10 ^ (k - 1 - 1) := by
  have h1 : ¬ n * 10 % U < b * 10 := by
    intro h
    unfold lowB at hl
    simp [h] at hl
  have h2 := Int.emod_lt_of_pos (n * 10) hU
  have h3 : 2 ≤ k := by
    rcases Nat.lt_or_ge k 2 with h | h
    · have e : k - 1 = 0 := by omega
      rw [e, Int.pow_zero] at hb
      omega
    · exact h
  refine ⟨h3, ?_⟩
  have e : k - 1 = (k - 1 - 1) + 1 := by omega
  rw [e, Int.pow_succ] at hb
  rw [Int.mul_assoc, Int.mul_comm 10]
  exact hb
theorem shGo_stop {U n a b : Int} {ev : Bool} {k : Nat} (hk : 1 ≤ k) (h : (lowB (n * 10 % U) (b * 10) ev || highB (n * 10 % U + a * 10) U ev) = true) :
    shGo U ev k n a b = [Str.ofString (toString (lastF (n * 10 / U) (n * 10 % U) U (lowB (n * 10 % U) (b * 10) ev) (highB (n * 10 % U + a * 10) U ev)))] := by
  obtain ⟨j, rfl⟩ : ∃ j, k = j + 1 := ⟨k - 1, by omega⟩
  show (if _ then _ else _) = _
  rw [if_pos h]
theorem shGo_go {U n a b : Int} {ev : Bool} {k : Nat} (hk : 1 ≤ k) (h1 : lowB (n * 10 % U) (b * 10) ev = false) (h2 : highB (n * 10 % U + a * 10) U ev = false) :
    shGo U ev k n a b = Str.ofString (toString (n * 10 / U)) :: shGo U ev (k - 1) (n * 10 % U) (a * 10) (b * 10) := by
  obtain ⟨j, rfl⟩ : ∃ j, k = j + 1 := ⟨k - 1, by omega⟩
  show (if _ then _ else _) = _
  rw [if_neg (by rw [h1, h2]; decide)]
  rfl
theorem sum_snoc (L : List Str) (y : Str) : ((L ++ [y]).map (·.length)).sum = (L.map (·.length)).sum + y.length := by simp
theorem shP_start {U n a b : Int} {ev : Bool} {tn ta tb : Tok} (hn : 0 ≤ n) (hn2 : intBits n ≤ 1100) (hb : 0 < b) (hU : U ≤ 10 ^ 800) : ShP U ev (shGo U ev 801 n a b) ⟨n, a, b, tn, ta, tb, [], 0, [], 801⟩ := by
  refine ⟨hn, .inr hn2, (show 1 ≤ 801 by decide), (show 801 ≤ 801 by decide), ?_, rfl, Nat.zero_le _, Nat.zero_le _⟩
  show U ≤ b * 10 ^ 800
  have h2 : (1 : Int) * 10 ^ 800 ≤ b * 10 ^ 800 := Int.mul_le_mul_of_nonneg_right (by omega) (Int.le_of_lt (Int.pow_pos (by decide)))
  rw [Int.one_mul] at h2
  exact Int.le_trans hU h2
theorem shP_next {U n a b : Int} {ev : Bool} {R : List Str} {k : Nat} {L : List Str} {tn ta tb tn' ta' tb' : Tok} {its its' : List Value} {v v' : Nat} (hU : 0 < U)
    (hP : ShP U ev R ⟨n, a, b, tn, ta, tb, its, v, L, k⟩) (h1 : lowB (n * 10 % U) (b * 10) ev = false) (h2 : highB (n * 10 % U + a * 10) U ev = false) (hL : (Str.ofString (toString (n * 10 / U))).length ≤ 600) :
    ShP U ev R ⟨n * 10 % U, a * 10, b * 10, tn', ta', tb', its', v', L ++ [Str.ofString (toString (n * 10 / U))], k - 1⟩ ∧ k - 1 < k := by
  obtain ⟨hI1, hI2, hI3, hI4, hI5, hI6, hI7, hI8⟩ := hP
  dsimp only at *
  obtain ⟨hk2, hb⟩ := sh_low0 hU hI3 hI5 h1
  refine ⟨⟨Int.emod_nonneg _ (by omega), .inl (Int.emod_lt_of_pos _ hU), ?_, ?_, hb, ?_, ?_, ?_⟩, ?_⟩
  · show 1 ≤ k - 1; omega
  · show k - 1 ≤ 801; omega
  · show (L ++ [Str.ofString (toString (n * 10 / U))]) ++ shGo U ev (k - 1) (n * 10 % U) (a * 10) (b * 10) = R
    rw [shGo_go hI3 h1 h2] at hI6
    rw [← hI6, List.append_assoc]
    rfl
  · show ((L ++ [Str.ofString (toString (n * 10 / U))]).map (·.length)).sum ≤ (801 - (k - 1)) * 600
    rw [sum_snoc]; omega
  · show (L ++ [Str.ofString (toString (n * 10 / U))]).length ≤ 801 - (k - 1)
    rw [List.length_append]; show L.length + 1 ≤ _; omega
  · omega
theorem join_ok {L : List Str} {y : Str} {k : Nat} (h7 : (L.map (·.length)).sum ≤ (801 - k) * 600) (h8 : L.length ≤ 801 - k) (hy : y.length ≤ 600) : ((L ++ [y]).map (·.length)).sum + (L ++ [y]).length * (Str.ofString "").length ≤ 16777216 := by
  rw [sum_snoc]
  have : (Str.ofString "").length = 0 := by decide
  rw [this]
  omega
theorem unit_le {u f : Int} (h : u ≤ 4) (h2 : f ≤ 700) : u * 10 ^ f.toNat ≤ 10 ^ 800 := by
  have h1 : (0 : Int) < 10 ^ f.toNat := Int.pow_pos (by decide)
  have h3 : u * 10 ^ f.toNat ≤ 4 * 10 ^ f.toNat := Int.mul_le_mul_of_nonneg_right h (Int.le_of_lt h1)
  have h4 : f.toNat ≤ 700 := by omega
  have h5 : (10 : Int) ^ f.toNat ≤ 10 ^ 700 := by
    have := Nat.pow_le_pow_right (n := 10) (by decide) h4
    exact_mod_cast this
  refine Int.le_trans h3 (Int.le_trans (Int.mul_le_mul_of_nonneg_left h5 (by decide)) ?_)
  decide +kernel
end

section
open PySem.Builtin.Int (intBits)
variable {w : World} {mean : ExcName → Option Value} {mg mb : Str → Option Value}

















set_option maxHeartbeats 16000000 in
theorem ct_shortest (b : Int) (t : Tok) (h0 : 0 ≤ b) (h1 : b < 2 ^ 64) (hp : 0 ≤ pw b) (hpl : 0 ≤ shPl b) : Ct w mean mg mb 84 3 [.int b t] P0 (OT2 (fun t => .str (shS b) t) (fun t => .int (shPl b) t)) := by
  k_with_none
  k_with "call type:str" => (k_here; (with_reducible show wpAny _ _ (call (Value.type "str") [Value.int _ _]) _ _ _); (refine' str_of_bits (by omega) (by bits_by_make) (by decide) ?_; k_whole; intro hL'))
  k_with "binaryOp FloorDiv int int" => (k_here; (refine' fdiv_bits (by first | assumption | omega | decide | exact two_pow_pos _) (by bits_by_make) (by decide) ?_; k_whole))
  k_with "binaryOp Mod int int" => (k_here; (refine' mod_bits (by first | assumption | omega | decide | exact two_pow_pos _) ?_; k_whole))
  k_with "binaryOp RShift int int" => (k_here; first | (with_reducible refine rsh52 ?_) | (with_reducible refine rsh63 ?_))
  k_with "binaryOp Pow int int" => (k_here; first | (with_reducible refine pow2_52 ?_) | (with_reducible refine pow2_63 ?_) | (with_reducible refine pow2_45 ?_))
  k_with "call ref" => (k_here; k_dflt (refine' ct_useB (ct_is_negative _ _ ?_ ?_) (by k_asm) (by k_asm) (by k_asm) (by k_asm) (by k_asm) (by first | exact rfl | assumption) (by trivial) (by ktr_room) (by ktr_units) ?_; (next => omega); (next => omega); k_whole; intro h' tk' F' N'; (try dsimp only); (try k_fold); (try k_sweep)))
  k_with "call ref" => (k_here; k_dflt (refine' ct_useB (ct_is_nan _ _ ?_ ?_) (by k_asm) (by k_asm) (by k_asm) (by k_asm) (by k_asm) (by first | exact rfl | assumption) (by trivial) (by ktr_room) (by ktr_units) ?_; (next => omega); (next => omega); k_whole; intro h' tk' F' N'; (try dsimp only); (try k_fold); (try k_sweep)))
  k_with "call ref" => (k_here; k_dflt (refine' ct_useB (ct_is_inf _ _ ?_ ?_) (by k_asm) (by k_asm) (by k_asm) (by k_asm) (by k_asm) (by first | exact rfl | assumption) (by trivial) (by ktr_room) (by ktr_units) ?_; (next => omega); (next => omega); k_whole; intro h' tk' F' N'; (try dsimp only); (try k_fold); (try k_sweep)))
  k_with "call ref" => (k_here; k_dflt (refine' ct_useB (ct_is_zero _ _ ?_ ?_) (by k_asm) (by k_asm) (by k_asm) (by k_asm) (by k_asm) (by first | exact rfl | assumption) (by trivial) (by ktr_room) (by ktr_units) ?_; (next => omega); (next => omega); k_whole; intro h' tk' F' N'; (try dsimp only); (try k_fold); (try k_sweep)))
  k_with "call ref" => (k_here; k_dflt (refine' ct_useT3 (ct_parts _ _ ?_ ?_) (by k_asm) (by k_asm) (by k_asm) (by k_asm) (by k_asm) (by first | exact rfl | assumption) (by trivial) (by ktr_room) (by ktr_units) ?_; (next => omega); (next => omega); k_whole; intro D' t1' t2' t3' h' tk' F' N' l1'; (try dsimp only); (try simp only [AllLt, and_true] at l1'); (try k_fold); (try k_sweep)))
  k_with "call ref" => (k_here; k_dflt (refine' ct_useT2 (ct_exact _ _ ?_ ?_) (by k_asm) (by k_asm) (by k_asm) (by k_asm) (by k_asm) (by first | exact rfl | assumption) (by trivial) (by ktr_room) (by ktr_units) ?_; (next => omega); (next => omega); k_whole; intro D' t1' t2' h' tk' F' N' l1'; (try dsimp only); (try simp only [AllLt, and_true] at l1'); (try k_fold); (try k_sweep)))
  k_with "call ref" => (k_here; k_dflt (refine' ct_useI (ct_half_up _ _ _ _ ?_ ?_) (by k_asm) (by k_asm) (by k_asm) (by k_asm) (by k_asm) (by first | exact rfl | assumption) (by trivial) (by ktr_room) (by ktr_units) ?_; (next => exact Nat.le_trans (by bits_by_make) (by decide)); (next => omega); k_whole; intro t' h' tk' F' N'; (try dsimp only); (try k_fold); (try k_sweep)))
  k_with "call ref" => (k_here; k_dflt (refine' ct_useI (ct_decimal_place _ _ _ _ ?_ ?_ ?_ ?_) (by k_asm) (by k_asm) (by k_asm) (by k_asm) (by k_asm) (by first | exact rfl | assumption) (by trivial) (by ktr_room) (by ktr_units) ?_; (next => omega); (next => exact Nat.le_trans (by bits_by_make) (by decide)); (next => omega); (next => exact Nat.le_trans (by bits_by_make) (by decide)); k_whole; intro t' h' tk' F' N'; (try dsimp only); (try k_fold); (try k_sweep)))
  k_with "call ref" => (k_here; k_dflt (refine' ct_useI (ct_last_figure2 _ _ _ _ _ _ _ _ ) (by k_asm) (by k_asm) (by k_asm) (by k_asm) (by k_asm) (by first | exact rfl | assumption) (by trivial) (by ktr_room) (by ktr_units) ?_; k_whole; intro t' h' tk' F' N'; (try dsimp only); (try k_fold); (try k_sweep)))
  k_with "call ref" => (k_here; k_dflt (refine' ct_useS (ct_signed_exponent _ _ ?_ ?_) (by k_asm) (by k_asm) (by k_asm) (by k_asm) (by k_asm) (by first | exact rfl | assumption) (by trivial) (by ktr_room) (by ktr_units) ?_; (next => omega); (next => omega); k_whole; intro t' h' tk' F' N'; (try dsimp only); (try k_fold); (try k_sweep)))
  k_with "call ref" => (k_here; k_dflt (refine' ct_useN (ct_without_figures _ _ ?_ ?_ ?_) (by k_asm) (by k_asm) (by k_asm) (by k_asm) (by k_asm) (by first | exact rfl | assumption) (by trivial) (by ktr_room) (by ktr_units) ?_; (next => omega); (next => omega); (next => omega); k_whole; intro h' tk' F' N'; (try dsimp only); (try k_fold); (try k_sweep)))
  k_with "call ref" => (k_here; k_dflt (refine' ct_useT3 (ct_sign_and_ratio _ _ ?_ ?_ ?_) (by k_asm) (by k_asm) (by k_asm) (by k_asm) (by k_asm) (by first | exact rfl | assumption) (by trivial) (by ktr_room) (by ktr_units) ?_; (next => omega); (next => omega); (next => omega); k_whole; intro D' t1' t2' t3' h' tk' F' N' l1'; (try dsimp only); (try simp only [AllLt, and_true] at l1'); (try k_fold); (try k_sweep)))
  k_with "call ref" => (k_here; k_dflt (refine' ct_useI (ct_first_place _ _ _ _ _ _ _ ?_ ?_ ?_ ?_ ?_) (by k_asm) (by k_asm) (by k_asm) (by k_asm) (by k_asm) (by first | exact rfl | assumption) (by trivial) (by ktr_room) (by ktr_units) ?_; (next => omega); (next => exact Nat.le_trans (by bits_by_make) (by decide)); (next => omega); (next => exact Nat.le_trans (by bits_by_make) (by decide)); (next => exact Nat.le_trans (by bits_by_make) (by decide)); k_whole; intro t' h' tk' F' N'; (try dsimp only); (try k_fold); (try k_sweep)))
  k_with "call ref" => (k_here; k_dflt (refine' ct_useS (ct_with_exponent _ _ _ _ ?_ ?_ ?_) (by k_asm) (by k_asm) (by k_asm) (by k_asm) (by k_asm) (by first | exact rfl | assumption) (by trivial) (by ktr_room) (by ktr_units) ?_; (next => omega); (next => omega); (next => omega); k_whole; intro t' h' tk' F' N'; (try dsimp only); (try k_fold); (try k_sweep)))
  k_with "call ref" => (k_here; k_dflt (refine' ct_useS (ct_laid_out _ _ _ _ ?_ ?_ ?_) (by k_asm) (by k_asm) (by k_asm) (by k_asm) (by k_asm) (by first | exact rfl | assumption) (by trivial) (by ktr_room) (by ktr_units) ?_; (next => omega); (next => omega); (next => omega); k_whole; intro t' h' tk' F' N'; (try dsimp only); (try k_fold); (try k_sweep)))
  k_with "call ref" => (k_here; k_dflt (refine' ct_useT2 (ct_law_ratio _ _ ?_ ?_) (by k_asm) (by k_asm) (by k_asm) (by k_asm) (by k_asm) (by first | exact rfl | assumption) (by trivial) (by ktr_room) (by ktr_units) ?_; (next => omega); (next => omega); k_whole; intro D' t1' t2' h' tk' F' N' l1'; (try dsimp only); (try simp only [AllLt, and_true] at l1'); (try k_fold); (try k_sweep)))
  k_with "call ref" => (k_here; k_dflt (refine' ct_useT4 (ct_scaled2 _ _ _ _ ?_ ?_ ?_ ?_) (by k_asm) (by k_asm) (by k_asm) (by k_asm) (by k_asm) (by first | exact rfl | assumption) (by trivial) (by ktr_room) (by ktr_units) ?_; (next => omega); (next => omega); (next => omega); (next => omega); k_whole; intro D' t1' t2' t3' t4' h' tk' F' N' l1'; (try dsimp only); (try simp only [AllLt, and_true] at l1'); (try k_fold); (try k_sweep)))
  k_with "exec While" => (k_here; refine of_held ?_)
  k_with "eval BoolOp" => (k_here; (fail_if_success (rename KPfMark => hNoMark')); (with_reducible show wpAny _ _ (eval (PySem.Expr.BoolOp PySem.BoolOp.Or _ _) _) _ _ _); refine of_held ?_)
  k_with "KCj" => ((refine kcj_end (t := (0 : Nat)) ?_ (by with_unfolding_all rfl) rfl (by assumption) (by assumption) (by kcj_all)); (next => first | exact (lowB_1 (by assumption)).symm | exact (lowB_2 (by assumption) (by assumption)).symm | exact (lowB_3 (by assumption) (by assumption)).symm | exact (highB_1 (by assumption)).symm | exact (highB_2 (by assumption) (by assumption)).symm | exact (highB_3 (by assumption) (by assumption)).symm))
  k_with "k_all" => exact fun p hp => Nat.ne_of_lt (ktn_ltOf (by first | assumption | exact allLt_of (by assumption) | exact And.right (by assumption) | exact And.right (And.right (by assumption)) | exact And.right (And.right (And.right (by assumption))) | exact And.right (And.right (And.right (And.right (by assumption)))) | exact And.right (And.right (And.right (And.right (And.right (by assumption)))))) p hp)
  k_with "call builtin:str.join" => (k_here; (refine join_list (by is_list) (strsAre_push (by assumption)) (join_ok (by assumption) (by assumption) (by omega)) ?_); intro tJ' kJ')
  unfold Ct
  k_fill
  intro dp un gd cn cs a ccd cl outer A₀ base h₀ L m news s Q E B F X N T hk hP hd hu hret
  have hm0 := mant_bd b
  have hm2 := mant_bits b
  have hp0 := pw_bd b
  have z1 := sN_nn (p := pw b) hm0.1
  have z2 := sN_bits hm2 hp0.2
  have z3 := sA_nn (m := mant b) (p := pw b)
  have z4 := sA_bits (m := mant b) hp0.2
  have z5 := sB_pos (p := pw b)
  have z6 := sB_bits hp0.2
  have z7 := sU_pos (m := mant b)
  have z8 := sU_bits (m := mant b)
  have z9 := fun e => fpl_bd (x := sN (mant b) (pw b)) (a := sA (mant b) (pw b)) (y := sU (mant b)) (e := e) z1 z2 (by omega) (Nat.le_trans z8 (by decide)) (by decide)
  have z10 := z9 (mant b % 2 == 0)
  have hpl' := hpl
  unfold shPl at hpl'
  have hR : shS b = shS b := rfl
  conv at hR => lhs; unfold shS shPl
  have hQ : shPl b = shPl b := rfl
  conv at hQ => lhs; unfold shPl
  refine wpAny_call ?_
  w_top off
  k_dflt cell_enter
  k_steps
  unfold Held
  have z11 : 0 < sU (mant b) * 10 ^ (fpl (sN (mant b) (pw b)) (sA (mant b) (pw b)) (sU (mant b)) (mant b % 2 == 0)).toNat := Int.mul_pos (by omega) (Int.pow_pos (by decide))
  have z12 : intBits (sU (mant b) * 10 ^ (fpl (sN (mant b) (pw b)) (sA (mant b) (pw b)) (sU (mant b)) (mant b % 2 == 0)).toNat) ≤ 5204 := bits_mul z8 (bits_pow10 (by omega))
  have z13 : sU (mant b) * 10 ^ (fpl (sN (mant b) (pw b)) (sA (mant b) (pw b)) (sU (mant b)) (mant b % 2 == 0)).toNat ≤ 10 ^ 800 := unit_le z7.2 (by omega)
  clear z9 z10 z8 z7 hpl hpl' h0 h1 hp
  generalize sU (mant b) * 10 ^ (fpl (sN (mant b) (pw b)) (sA (mant b) (pw b)) (sU (mant b)) (mant b % 2 == 0)).toNat = U at *
  generalize (mant b % 2 == 0) = ev at *
  generalize shS b = RS at *
  generalize shPl b = PL at *
  generalize fpl (sN (mant b) (pw b)) (sA (mant b) (pw b)) (sU (mant b)) ev = pl at *
  generalize sN (mant b) (pw b) = n0 at *
  generalize sA (mant b) (pw b) = a0 at *
  generalize sB (pw b) = b0 at *
  have hst : ∀ tn ta tb, ShP U ev (shGo U ev 801 n0 a0 b0) ⟨n0, a0, b0, tn, ta, tb, [], 0, [], 801⟩ := fun tn ta tb => shP_start z1 (Nat.le_trans z2 (by decide)) z5 z13
  generalize shGo U ev 801 n0 a0 b0 = R at *
  rename Fr _ _ _ _ => lF'
  rename News _ _ _ _ => lN'
  refine' ksw_while (σ := ShSt) (fun c => (_, W.listOf c.its.toArray c.v) :: _) (fun c => [(Str.ofString "number", .int c.n c.tn), (Str.ofString "above", .int c.a c.ta), (Str.ofString "below", .int c.b c.tb)]) (fun c => StrsAre c.its c.L) [Str.ofString "figure", Str.ofString "is_low", Str.ofString "is_high"] (ShP U ev R) (fun c => c.k) ⟨n0, a0, b0, _, _, _, [], 0, [], 801⟩ lF' lN' .nil ?kk ?kp ?turn
  case kk => kst_all
  case kp => exact hst _ _ _
  case turn =>
    clear lF' lN' hst
    rintro ⟨n, a1, b1, tn, ta, tb, its, v, L1, k⟩ u1 h1' tk1 hStrs hInv F1 N1
    dsimp only [kstB] at *
    have hInv' := hInv
    unfold ShP at hInv'
    dsimp only at hInv'
    obtain ⟨hI1, hI2, hI3, hI4, hI5, hI6, hI7, hI8⟩ := hInv'
    obtain ⟨hq0, hq1⟩ := sh_q hI1 hI2 z11
    obtain ⟨hl0, hl1⟩ := sh_l (r := n * 10 % U) (U := U) (i := lowB (n * 10 % U) (b1 * 10) ev) (j := highB (n * 10 % U + a1 * 10) U ev) hq0 hq1
    clear hm0 hm2 hp0 z1 z2 z3 z4 z5 z6 hI5 hI2 hI4
    try k_fold
    k_steps
    unfold Held
    rename Fr _ _ _ _ => cF1
    rename News _ _ _ _ => cN1
    refine' kcj (fun (b : Bool) (_ : Tok) => Value.bool b) (fun _ => lowB (n * 10 % U) (b1 * 10) ev) cF1 cN1 (fun u' hMark' => ?hc1) ?hk1
    case hc1 =>
      try k_fold
      k_steps
    try k_fold
    k_steps
    unfold Held
    rename Fr _ _ _ _ => cF2
    rename News _ _ _ _ => cN2
    refine' kcj (fun (b : Bool) (_ : Tok) => Value.bool b) (fun _ => highB (n * 10 % U + a1 * 10) U ev) cF2 cN2 (fun u' hMark' => ?hc2) ?hk2
    case hc2 =>
      try k_fold
      k_steps
    try k_fold
    k_steps
    all_goals first
      | (refine retT2 hret (by assumption) (by assumption) (by k_mem) (by kcj_all) (by first | assumption | exact allLt_of (by assumption) | exact And.right (by assumption) | exact And.right (And.right (by assumption)) | exact And.right (And.right (And.right (by assumption))) | exact And.right (And.right (And.right (And.right (by assumption)))) | exact And.right (And.right (And.right (And.right (And.right (by assumption)))))) (exS ?_) (exI hQ); rw [← hR, ← hI6, shGo_stop hI3 (by simp only [*, Bool.true_or, Bool.or_true])])
      | ((rename News _ _ _ _ => nE'); (simp only [List.push_toArray] at nE'); (refine ksw_end ⟨_, _, _, _, _, _, _, _, _, k - 1⟩ (by assumption) nE' (by kst_in) (StrsAre.append' hStrs (.cons _ _ .nil)) (by kst_all) (by ksw_same) ?_ ?_); (exact (shP_next z11 hInv (by assumption) (by assumption) (by omega)).1); (exact (shP_next (tn' := 0) (ta' := 0) (tb' := 0) (its' := []) (v' := 0) z11 hInv (by assumption) (by assumption) (by omega)).2))
  

end

section
open PySem.Builtin.Int (intBits)
theorem join_nil_len (L : List Str) : (Txt.join (Str.ofString "") L).length = (L.map (·.length)).sum := by
  show (Builtin.Str.glued (Str.ofString "") L).length = _
  rw [StrLaws.glued_eq_join]
  cases L with
  | nil => rfl
  | cons a r =>
    have z : (Str.ofString "").length = 0 := by decide
    rw [len_join_cons, z, Nat.mul_zero, Nat.add_zero]
theorem shGo_sum {U : Int} {ev : Bool} (hU : 0 < U) : ∀ (k : Nat) (n a b : Int), 0 ≤ n → (n < U ∨ intBits n ≤ 1100) → ((shGo U ev k n a b).map (·.length)).sum ≤ k * 600
  | 0, _, _, _, _, _ => Nat.zero_le _
  | k + 1, n, a, b, h0, h1 => by
    obtain ⟨hq0, hq1⟩ := sh_q h0 h1 hU
    by_cases h : (lowB (n * 10 % U) (b * 10) ev || highB (n * 10 % U + a * 10) U ev) = true
    · rw [shGo_stop (by omega) h]
      obtain ⟨hl0, hl1⟩ := sh_l (r := n * 10 % U) (U := U) (i := lowB (n * 10 % U) (b * 10) ev) (j := highB (n * 10 % U + a * 10) U ev) hq0 hq1
      have := (len_of_bits hl0 hl1 (by decide)).2
      simp only [List.map_cons, List.map_nil, List.sum_cons, List.sum_nil]
      omega
    · rw [Bool.or_eq_true, not_or, Bool.not_eq_true, Bool.not_eq_true] at h
      rw [shGo_go (by omega) h.1 h.2]
      have h2 := (len_of_bits hq0 hq1 (by decide)).2
      have h3 := shGo_sum (ev := ev) hU k (n * 10 % U) (a * 10) (b * 10) (Int.emod_nonneg _ (by omega)) (.inl (Int.emod_lt_of_pos _ hU))
      simp only [List.map_cons, List.sum_cons, Nat.add_sub_cancel]
      omega
theorem shPl_bd {b : Int} : -600 ≤ shPl b ∧ shPl b ≤ 601 := by
  unfold shPl
  have h7 := sU_pos (m := mant b)
  exact fpl_bd (sN_nn (mant_bd b).1) (sN_bits (mant_bits b) (pw_bd b).2) (by omega) (Nat.le_trans sU_bits (by decide)) (by decide)
theorem shS_len {b : Int} : (shS b).length ≤ 480600 := by
  unfold shS
  rw [join_nil_len]
  have h7 := sU_pos (m := mant b)
  exact shGo_sum (Int.mul_pos (by omega) (Int.pow_pos (by decide))) 801 _ _ _ (sN_nn (mant_bd b).1) (.inr (Nat.le_trans (sN_bits (mant_bits b) (pw_bd b).2) (by decide)))
theorem mul_len {x : Int} (h : x ≤ 1000) : (Txt.mul (Str.ofString "0") x).length ≤ 1000 := by
  have := len_mul_leN (x := Str.ofString "0") (n := x) (L := 1) (N := 1000) (by decide) (by omega)
  omega
theorem weS_len {f : Str} {x : Int} (h : f.length ≤ 1000000) (h0 : -1000 ≤ x) (h1 : x ≤ 1000) : (weS f x).length ≤ 2001000 := by
  have a := Txt.slice_le f none (some 1)
  have b := Txt.slice_le f (some 1) none
  have c := seS_len h0 h1
  have d : (Str.ofString ".").length = 1 := by decide
  have e : (Str.ofString "").length = 0 := by decide
  unfold weS
  split <;> simp only [Str.length_append] <;> omega
theorem loS_len {f : Str} {x : Int} (h : f.length ≤ 1000000) (h0 : -900 ≤ x) (h1 : x ≤ 900) : (loS f x).length ≤ 2002000 := by
  have a := Txt.slice_le f none (some x)
  have b := Txt.slice_le f (some x) none
  have c := mul_len (x := x - f.length) (by omega)
  have c' := mul_len (x := 0 - x) (by omega)
  have d : (Str.ofString ".").length = 1 := by decide
  have e : (Str.ofString "0.").length = 2 := by decide
  have g := weS_len (x := x - 1) h (by omega) (by omega)
  unfold loS
  (repeat' split) <;> (try simp only [Str.length_append]) <;> omega
@[irreducible] def swS (b : Int) : Str := sgS b ++ loS (shS b) (shPl b)
theorem sgS_len {b : Int} : (sgS b).length ≤ 1 := by unfold sgS; split <;> decide
theorem swS_len {b : Int} : (swS b).length ≤ 2003000 := by
  have a := sgS_len (b := b)
  have c := loS_len (f := shS b) (x := shPl b) (Nat.le_trans shS_len (by decide)) (by have := shPl_bd (b := b); omega) (by have := shPl_bd (b := b); omega)
  unfold swS
  rw [Str.length_append]
  omega
theorem sw_1 {b : Int} {x : Str} (h : b / 2 ^ 63 = 1) : Str.ofString "-" ++ x = sgS b ++ x := by unfold sgS; rw [if_pos h]
theorem sw_2 {b : Int} {x : Str} (h : ¬ b / 2 ^ 63 = 1) : Str.ofString "" ++ x = sgS b ++ x := by unfold sgS; rw [if_neg h]

@[irreducible] def hupV (b many : Int) : Int := (2 * (top b * 10 ^ many.toNat) + bot b) / (2 * bot b)
@[irreducible] def hupS (b many : Int) : Str := Str.ofString (toString (hupV b many))
@[irreducible] def padS (b many : Int) : Str := Txt.mul (Str.ofString "0") (many + 1 - (hupS b many).length) ++ hupS b many
@[irreducible] def tfS (b many : Int) : Str :=
  if bot b * 10 ^ 21 ≤ top b then swS b
  else if many = 0 then sgS b ++ hupS b many
  else sgS b ++ Txt.slice (padS b many) none (some ((padS b many).length - many)) ++ Str.ofString "." ++ Txt.slice (padS b many) (some ((padS b many).length - many)) none
theorem hup_nn {b many : Int} : 0 ≤ (2 * (top b * 10 ^ many.toNat) + bot b) / (2 * bot b) := by
  have h1 := bot_pos b
  have h2 : 0 ≤ top b * 10 ^ many.toNat := Int.mul_nonneg (top_nonneg b) (Int.le_of_lt (Int.pow_pos (by decide)))
  exact Int.ediv_nonneg (by omega) (by omega)
theorem hup_bits {b many : Int} (h : many ≤ 20) : intBits ((2 * (top b * 10 ^ many.toNat) + bot b) / (2 * bot b)) ≤ 1200 := by
  have h1 := bot_pos b
  rw [← Int.fdiv_eq_ediv_of_nonneg _ (by omega)]
  refine bits_fdiv ?_
  have h3 : intBits ((10 : Int) ^ many.toNat) ≤ 81 := Nat.le_trans (intBits_pow_le (m := 4) (intBits_le_iff.mpr (by decide)) many.toNat) (by omega)
  exact Nat.le_trans (bits_add (bits_mul (m := 2) (by decide) (bits_mul (top_bits b) h3)) (bot_bits b)) (by decide)
end

section
open PySem.Builtin.Int (intBits)
variable {w : World} {mean : ExcName → Option Value} {mg mb : Str → Option Value}

















set_option maxHeartbeats 4000000 in
theorem ct_show (b : Int) (t : Tok) (h0 : 0 ≤ b) (h1 : b < 2 ^ 64) (hf : b % 2 ^ 63 < 2047 * 2 ^ 52) (hz : b % 2 ^ 63 ≠ 0) (hp : 0 ≤ pw b) (hpl : 0 ≤ shPl b) : Ct w mean mg mb 126 4 [.int b t] P0 (OS (swS b)) := by
  k_with_none
  k_with "call type:str" => (k_here; (with_reducible show wpAny _ _ (call (Value.type "str") [Value.int _ _]) _ _ _); (refine' str_of_bits (by omega) (by bits_by_make) (by decide) ?_; k_whole; intro hL'))
  k_with "binaryOp FloorDiv int int" => (k_here; (refine' fdiv_bits (by first | assumption | omega | decide | exact two_pow_pos _) (by bits_by_make) (by decide) ?_; k_whole))
  k_with "binaryOp Mod int int" => (k_here; (refine' mod_bits (by first | assumption | omega | decide | exact two_pow_pos _) ?_; k_whole))
  k_with "binaryOp RShift int int" => (k_here; first | (with_reducible refine rsh52 ?_) | (with_reducible refine rsh63 ?_))
  k_with "binaryOp Pow int int" => (k_here; first | (with_reducible refine pow2_52 ?_) | (with_reducible refine pow2_63 ?_) | (with_reducible refine pow2_45 ?_))
  k_with "call ref" => (k_here; k_dflt (refine' ct_useB (ct_is_negative _ _ ?_ ?_) (by k_asm) (by k_asm) (by k_asm) (by k_asm) (by k_asm) (by first | exact rfl | assumption) (by trivial) (by ktr_room) (by ktr_units) ?_; (next => omega); (next => omega); k_whole; intro h' tk' F' N'; (try dsimp only); (try k_fold); (try k_sweep)))
  k_with "call ref" => (k_here; k_dflt (refine' ct_useB (ct_is_nan _ _ ?_ ?_) (by k_asm) (by k_asm) (by k_asm) (by k_asm) (by k_asm) (by first | exact rfl | assumption) (by trivial) (by ktr_room) (by ktr_units) ?_; (next => omega); (next => omega); k_whole; intro h' tk' F' N'; (try dsimp only); (try k_fold); (try k_sweep)))
  k_with "call ref" => (k_here; k_dflt (refine' ct_useB (ct_is_inf _ _ ?_ ?_) (by k_asm) (by k_asm) (by k_asm) (by k_asm) (by k_asm) (by first | exact rfl | assumption) (by trivial) (by ktr_room) (by ktr_units) ?_; (next => omega); (next => omega); k_whole; intro h' tk' F' N'; (try dsimp only); (try k_fold); (try k_sweep)))
  k_with "call ref" => (k_here; k_dflt (refine' ct_useB (ct_is_zero _ _ ?_ ?_) (by k_asm) (by k_asm) (by k_asm) (by k_asm) (by k_asm) (by first | exact rfl | assumption) (by trivial) (by ktr_room) (by ktr_units) ?_; (next => omega); (next => omega); k_whole; intro h' tk' F' N'; (try dsimp only); (try k_fold); (try k_sweep)))
  k_with "call ref" => (k_here; k_dflt (refine' ct_useT3 (ct_parts _ _ ?_ ?_) (by k_asm) (by k_asm) (by k_asm) (by k_asm) (by k_asm) (by first | exact rfl | assumption) (by trivial) (by ktr_room) (by ktr_units) ?_; (next => omega); (next => omega); k_whole; intro D' t1' t2' t3' h' tk' F' N' l1'; (try dsimp only); (try simp only [AllLt, and_true] at l1'); (try k_fold); (try k_sweep)))
  k_with "call ref" => (k_here; k_dflt (refine' ct_useT2 (ct_exact _ _ ?_ ?_) (by k_asm) (by k_asm) (by k_asm) (by k_asm) (by k_asm) (by first | exact rfl | assumption) (by trivial) (by ktr_room) (by ktr_units) ?_; (next => omega); (next => omega); k_whole; intro D' t1' t2' h' tk' F' N' l1'; (try dsimp only); (try simp only [AllLt, and_true] at l1'); (try k_fold); (try k_sweep)))
  k_with "call ref" => (k_here; k_dflt (refine' ct_useI (ct_half_up _ _ _ _ ?_ ?_) (by k_asm) (by k_asm) (by k_asm) (by k_asm) (by k_asm) (by first | exact rfl | assumption) (by trivial) (by ktr_room) (by ktr_units) ?_; (next => exact Nat.le_trans (by bits_by_make) (by decide)); (next => omega); k_whole; intro t' h' tk' F' N'; (try dsimp only); (try k_fold); (try k_sweep)))
  k_with "call ref" => (k_here; k_dflt (refine' ct_useI (ct_decimal_place _ _ _ _ ?_ ?_ ?_ ?_) (by k_asm) (by k_asm) (by k_asm) (by k_asm) (by k_asm) (by first | exact rfl | assumption) (by trivial) (by ktr_room) (by ktr_units) ?_; (next => omega); (next => exact Nat.le_trans (by bits_by_make) (by decide)); (next => omega); (next => exact Nat.le_trans (by bits_by_make) (by decide)); k_whole; intro t' h' tk' F' N'; (try dsimp only); (try k_fold); (try k_sweep)))
  k_with "call ref" => (k_here; k_dflt (refine' ct_useI (ct_last_figure _ _ _ _ _ _ _ _ ) (by k_asm) (by k_asm) (by k_asm) (by k_asm) (by k_asm) (by first | exact rfl | assumption) (by trivial) (by ktr_room) (by ktr_units) ?_; k_whole; intro t' h' tk' F' N'; (try dsimp only); (try k_fold); (try k_sweep)))
  k_with "call ref" => (k_here; k_dflt (refine' ct_useS (ct_signed_exponent _ _ ?_ ?_) (by k_asm) (by k_asm) (by k_asm) (by k_asm) (by k_asm) (by first | exact rfl | assumption) (by trivial) (by ktr_room) (by ktr_units) ?_; (next => omega); (next => omega); k_whole; intro t' h' tk' F' N'; (try dsimp only); (try k_fold); (try k_sweep)))
  k_with "call ref" => (k_here; k_dflt (refine' ct_useN (ct_without_figures _ _ ?_ ?_ ?_) (by k_asm) (by k_asm) (by k_asm) (by k_asm) (by k_asm) (by first | exact rfl | assumption) (by trivial) (by ktr_room) (by ktr_units) ?_; (next => omega); (next => omega); (next => omega); k_whole; intro h' tk' F' N'; (try dsimp only); (try k_fold); (try k_sweep)))
  k_with "call ref" => (k_here; k_dflt (refine' ct_useT3 (ct_sign_and_ratio _ _ ?_ ?_ ?_) (by k_asm) (by k_asm) (by k_asm) (by k_asm) (by k_asm) (by first | exact rfl | assumption) (by trivial) (by ktr_room) (by ktr_units) ?_; (next => omega); (next => omega); (next => omega); k_whole; intro D' t1' t2' t3' h' tk' F' N' l1'; (try dsimp only); (try simp only [AllLt, and_true] at l1'); (try k_fold); (try k_sweep)))
  k_with "call ref" => (k_here; k_dflt (refine' ct_useI (ct_first_place _ _ _ _ _ _ _ ?_ ?_ ?_ ?_ ?_) (by k_asm) (by k_asm) (by k_asm) (by k_asm) (by k_asm) (by first | exact rfl | assumption) (by trivial) (by ktr_room) (by ktr_units) ?_; (next => omega); (next => exact Nat.le_trans (by bits_by_make) (by decide)); (next => omega); (next => exact Nat.le_trans (by bits_by_make) (by decide)); (next => exact Nat.le_trans (by bits_by_make) (by decide)); k_whole; intro t' h' tk' F' N'; (try dsimp only); (try k_fold); (try k_sweep)))
  k_with "call ref" => (k_here; k_dflt (refine' ct_useS (ct_with_exponent _ _ _ _ ?_ ?_ ?_) (by k_asm) (by k_asm) (by k_asm) (by k_asm) (by k_asm) (by first | exact rfl | assumption) (by trivial) (by ktr_room) (by ktr_units) ?_; (next => omega); (next => omega); (next => omega); k_whole; intro t' h' tk' F' N'; (try dsimp only); (try k_fold); (try k_sweep)))
  k_with "call ref" => (k_here; k_dflt (refine' ct_useS (ct_laid_out _ _ _ _ ?_ ?_ ?_) (by k_asm) (by k_asm) (by k_asm) (by k_asm) (by k_asm) (by first | exact rfl | assumption) (by trivial) (by ktr_room) (by ktr_units) ?_; (next => omega); (next => omega); (next => omega); k_whole; intro t' h' tk' F' N'; (try dsimp only); (try k_fold); (try k_sweep)))
  k_with "call ref" => (k_here; k_dflt (refine' ct_useT2 (ct_law_ratio _ _ ?_ ?_) (by k_asm) (by k_asm) (by k_asm) (by k_asm) (by k_asm) (by first | exact rfl | assumption) (by trivial) (by ktr_room) (by ktr_units) ?_; (next => omega); (next => omega); k_whole; intro D' t1' t2' h' tk' F' N' l1'; (try dsimp only); (try simp only [AllLt, and_true] at l1'); (try k_fold); (try k_sweep)))
  k_with "call ref" => (k_here; k_dflt (refine' ct_useT2 (ct_shortest _ _ ?_ ?_ ?_ ?_) (by k_asm) (by k_asm) (by k_asm) (by k_asm) (by k_asm) (by first | exact rfl | assumption) (by trivial) (by ktr_room) (by ktr_units) ?_; (next => omega); (next => omega); (next => assumption); (next => assumption); k_whole; intro D' t1' t2' h' tk' F' N' l1'; (try dsimp only); (try simp only [AllLt, and_true] at l1'); (try k_fold); (try k_sweep)))
  unfold Ct
  k_fill
  intro dp un gd cn cs a ccd cl outer A₀ base h₀ L m news s Q E B F X N T hk hP hd hu hret
  have z1 := shPl_bd (b := b)
  have z2 : (shS b).length ≤ 1000000 := Nat.le_trans shS_len (by decide)
  have z3 := loS_len (x := shPl b) z2 (by omega) (by omega)
  refine wpAny_call ?_
  w_top off
  k_dflt cell_enter
  k_steps
  all_goals refine retS hret (by assumption) (by first | assumption | exact cb_drop (by assumption) (by kcj_all)) ?_
  all_goals (unfold swS; first | exact sw_1 (by omega) | exact sw_2 (by omega))


set_option maxHeartbeats 4000000 in
theorem ct_to_fixed (b : Int) (many : Int) (t u : Tok) (h0 : 0 ≤ b) (h1 : b < 2 ^ 64) (hf : b % 2 ^ 63 < 2047 * 2 ^ 52) (hz : b % 2 ^ 63 ≠ 0) (hm0 : 0 ≤ many) (hm1 : many ≤ 20) (hbig : bot b * 10 ^ 21 ≤ top b → 0 ≤ pw b ∧ 0 ≤ shPl b) : Ct w mean mg mb 147 5 [.int b t, .int many u] P0 (OS (tfS b many)) := by
  k_with "call ref" => (k_here; k_dflt (refine' ct_useS (ct_show _ _ ?_ ?_ ?_ ?_ ?_ ?_) (by k_asm) (by k_asm) (by k_asm) (by k_asm) (by k_asm) (by first | exact rfl | assumption) (by trivial) (by ktr_room) (by ktr_units) ?_; (next => omega); (next => omega); (next => assumption); (next => assumption); (next => ((rename (_ → 0 ≤ pw _ ∧ 0 ≤ shPl _) => hB'); exact (hB' (by assumption)).1)); (next => ((rename (_ → 0 ≤ pw _ ∧ 0 ≤ shPl _) => hB'); exact (hB' (by assumption)).2)); k_whole; intro t' h' tk' F' N'; (try dsimp only); (try k_fold); (try k_sweep)))
  unfold Ct
  k_fill
  intro dp un gd cn cs a ccd cl outer A₀ base h₀ L m news s Q E B F X N T hk hP hd hu hret
  have z1 := bot_pos b
  have z2 := bot_bits b
  have z3 := top_nonneg b
  have z4 := top_bits b
  have z5 := hup_nn (b := b) (many := many)
  have z6 := hup_bits (b := b) hm1
  have z7 := sgS_len (b := b)
  refine wpAny_call ?_
  k_dflt cell_enter
  k_steps
  all_goals refine retS hret (by assumption) (by first | assumption | exact cb_drop (by assumption) (by kcj_all)) ?_
  all_goals first
    | (unfold tfS; rw [if_pos (by assumption)]; done)
    | (unfold tfS hupS hupV; rw [if_neg (by assumption), if_pos (by assumption)]; done)
    | (unfold tfS padS hupS hupV; rw [if_neg (by assumption), if_neg (by assumption)]; done)
    | skip

end

section
open PySem.Builtin.Int (intBits)
/-- digits, least first; none of a nought -/
def digs (r : Int) : Nat → Int → List Int
  | 0, _ => []
  | k + 1, n => if n ≤ 0 then [] else n % r :: digs r k (n / r)
@[irreducible] def wfD (n r : Int) : List Int := if n = 0 then [0] else digs r 1101 n
@[irreducible] def figS (d : Int) : Str := Txt.item (Str.ofString "0123456789abcdefghijklmnopqrstuvwxyz") d
@[irreducible] def wfS (n r : Int) : Str := Txt.join (Str.ofString "") ((wfD n r).map figS).reverse
structure WfSt where
  n : Int
  tn : Tok
  its : List Value
  v : Nat
  D : List Int
  k : Nat
def WfP (n0 r : Int) (c : WfSt) : Prop :=
  0 ≤ c.n ∧ c.n < 2 ^ c.k ∧ c.k ≤ 1101 ∧ (c.D = [] → c.n = n0 ∧ c.k = 1101) ∧ (c.D ≠ [] → c.D ++ digs r c.k c.n = wfD n0 r) ∧ c.D.length ≤ 1101 - c.k
theorem strs_carried : ∀ {vs : List Value} {L : List Str}, StrsAre vs L → CarriedAll vs (L.map PyData.str)
  | _, _, .nil => .nil
  | _, _, .cons _ t r => .cons (.str _ t) (strs_carried r)
theorem strs_canLay : ∀ L : List Str, (∀ x ∈ L, PyData.strOk x = true) → PyData.canLayAll0 (L.map PyData.str) = true
  | [], _ => rfl
  | x :: r, h => by simp [PyData.canLayAll0, PyData.canLay0, strs_canLay r (fun y hy => h y (.tail _ hy)), h x (.head _)]
theorem strs_depth : ∀ L : List Str, PyData.depthAll (L.map PyData.str) = 0
  | [] => rfl
  | _ :: r => by simp [PyData.depthAll, PyData.depth, strs_depth r]
theorem strs_shaped (L : List Str) (h : ∀ x ∈ L, PyData.strOk x = true) : SeqAt.shaped (.list (L.map PyData.str)) = true := by
  simp [SeqAt.shaped, PyData.canLay0, PyData.depth, strs_canLay L h, strs_depth]
theorem charAt_ok (i : Int) : ((Txt.charAt (Str.ofString "0123456789abcdefghijklmnopqrstuvwxyz") i).getD 0) < 0x110000 := by
  cases h : Txt.charAt (Str.ofString "0123456789abcdefghijklmnopqrstuvwxyz") i with
  | none => decide
  | some c =>
    unfold Txt.charAt at h
    obtain ⟨j, _, hj⟩ := Option.bind_eq_some_iff.mp h
    have hm := Array.mem_of_getElem? hj
    exact (by decide : ∀ c ∈ (Str.ofString "0123456789abcdefghijklmnopqrstuvwxyz").cps.toList, c < 0x110000) c (Array.mem_toList_iff.mpr hm)
theorem figS_ok (d : Int) : PyData.strOk (figS d) = true := by
  have h := charAt_ok d
  unfold figS PyData.strOk Txt.item
  simpa using h
theorem figs_ok (D : List Int) : ∀ x ∈ D.map figS, PyData.strOk x = true := fun x hx => by
  obtain ⟨d, _, rfl⟩ := List.mem_map.mp hx
  exact figS_ok d
section
variable {prog : Program} {w : World} {A : Around} {E : Value → Shared → Prop} {s : Shared} {a b : Addr} {xs : List Value} {L : List Str} {Q : Value → Shared → Prop}
theorem eq_strs_nil (ha : s.heap.IsList a xs.toArray) (hb : s.heap.IsList b ([] : List Value).toArray) (hi : StrsAre xs L) (hok : ∀ x ∈ L, PyData.strOk x = true) (hu : A.units + 64 < cLine) (h : Q (.bool (decide (L = []))) s) :
    wpAny (model prog w) A (compareOp .Eq (.ref a) (.ref b)) Q E s := by
  refine eq_dataH (reads_newData ha (strs_carried hi)) (reads_newData hb .nil) (strs_shaped L hok) (by rfl) hu ?_
  have e : PyData.eqv (.list (L.map PyData.str)) (.list []) = decide (L = []) := by
    cases L with
    | nil => rfl
    | cons x r => simp [PyData.eqv, PyData.eqvAll]
  rw [e]
  exact h
theorem fig_item {value slice : PySem.Expr} {t u : Tok} {i : Int} (h0 : 0 ≤ i) (h1 : i < 36) (h : Q (.str (figS i) s.toks) { s with toks := s.toks + 1 })
    (hs : subscripted slice false (.str (Str.ofString "0123456789abcdefghijklmnopqrstuvwxyz") t) (.int i u) = operate [.str (Str.ofString "0123456789abcdefghijklmnopqrstuvwxyz") t, .int i u] (getItem (.str (Str.ofString "0123456789abcdefghijklmnopqrstuvwxyz") t) (.int i u)) := by with_unfolding_all rfl)
    (ht : ∀ r, letTemporaryGo value (.str (Str.ofString "0123456789abcdefghijklmnopqrstuvwxyz") t) r = pure () := by intro _; with_unfolding_all rfl) :
    wpAny (model prog w) A (subscriptTail value slice (.str (Str.ofString "0123456789abcdefghijklmnopqrstuvwxyz") t) (.int i u)) Q E s := by
  refine KXi.item (n := 36) (by decide) (by omega) (by omega) (by decide) (fun _ => ?_) hs ht
  have e : figS i = Txt.item (Str.ofString "0123456789abcdefghijklmnopqrstuvwxyz") i := by unfold figS; rfl
  rw [← e]
  exact h
end
theorem two_le_div {n r : Int} {k : Nat} (h0 : 0 ≤ n) (h : n < 2 ^ k) (hr : 2 ≤ r) (hk : 1 ≤ k) : n / r < 2 ^ (k - 1) := by
  obtain ⟨j, rfl⟩ : ∃ j, k = j + 1 := ⟨k - 1, by omega⟩
  show n / r < 2 ^ j
  have h1 : n / r ≤ n / 2 := by
    have := Int.ediv_mul_le n (show r ≠ 0 by omega)
    have h3 : 0 ≤ n / r := Int.ediv_nonneg h0 (by omega)
    have h4 : n / r * 2 ≤ n / r * r := Int.mul_le_mul_of_nonneg_left hr h3
    omega
  rw [Int.pow_succ] at h
  omega
theorem wfP_start {n0 r : Int} {t : Tok} (h0 : 0 ≤ n0) (h1 : n0 < 2 ^ 1101) : WfP n0 r ⟨n0, t, [], 0, [], 1101⟩ :=
  ⟨h0, h1, Nat.le_refl _, fun _ => ⟨rfl, rfl⟩, fun h => absurd rfl h, Nat.zero_le _⟩
theorem wf_k {n0 r n : Int} {t : Tok} {its : List Value} {v : Nat} {D : List Int} {k : Nat} (hP : WfP n0 r ⟨n, t, its, v, D, k⟩) (h : 0 < n ∨ D = []) : 1 ≤ k := by
  obtain ⟨a, b, c, d, e, f⟩ := hP
  dsimp only at *
  rcases h with h | h
  · rcases Nat.eq_zero_or_pos k with hk | hk
    · rw [hk, Int.pow_zero] at b; omega
    · exact hk
  · have := (d h).2; omega
theorem wfP_next {n0 r n : Int} {t t' : Tok} {its its' : List Value} {v v' : Nat} {D : List Int} {k : Nat} (hr : 2 ≤ r) (hP : WfP n0 r ⟨n, t, its, v, D, k⟩) (h : 0 < n ∨ D = []) :
    WfP n0 r ⟨n / r, t', its', v', D ++ [n % r], k - 1⟩ ∧ k - 1 < k := by
  have hk := wf_k hP h
  obtain ⟨a, b, c, d, e, f⟩ := hP
  dsimp only at *
  refine ⟨⟨Int.ediv_nonneg a (by omega), two_le_div a b hr hk, (by show k - 1 ≤ 1101; omega), fun hn => ?_, fun _ => ?_, ?_⟩, by omega⟩
  · exact absurd hn (by simp)
  · show (D ++ [n % r]) ++ digs r (k - 1) (n / r) = wfD n0 r
    obtain ⟨j, rfl⟩ : ∃ j, k = j + 1 := ⟨k - 1, by omega⟩
    have e2 : 0 < n → digs r (j + 1) n = n % r :: digs r j (n / r) := fun hn => by
      show (if n ≤ 0 then [] else _) = _
      rw [if_neg (by omega)]
    by_cases hD : D = []
    · obtain ⟨e3, e4⟩ := d hD
      subst hD
      rw [List.nil_append]
      have e5 : j = 1100 := by omega
      subst e5
      subst e3
      unfold wfD
      by_cases hn : n = 0
      · rw [if_pos hn, hn]
        show 0 % r :: (if (0 : Int) / r ≤ 0 then [] else _) = [0]
        rw [Int.zero_ediv, if_pos (by decide), Int.zero_emod]
      · rw [if_neg hn, e2 (by omega)]
        rfl
    · rcases h with h | h
      · have e3 := e hD
        rw [e2 h] at e3
        rw [← e3, List.append_assoc]
        rfl
      · exact absurd h hD
  · show (D ++ [n % r]).length ≤ 1101 - (k - 1)
    rw [List.length_append]; show D.length + 1 ≤ _; omega
theorem wf_end {n0 r n : Int} {t : Tok} {its : List Value} {v : Nat} {D : List Int} {k : Nat} (hP : WfP n0 r ⟨n, t, its, v, D, k⟩) (h : ¬ 0 < n) (h2 : D ≠ []) : D = wfD n0 r ∧ D.length ≤ 1101 := by
  obtain ⟨a, b, c, d, e, f⟩ := hP
  dsimp only at *
  have e1 : digs r k n = [] := by
    cases k with
    | zero => rfl
    | succ j => show (if n ≤ 0 then [] else _) = []; rw [if_pos (by omega)]
  have e2 := e h2
  rw [e1, List.append_nil] at e2
  exact ⟨e2, by omega⟩
theorem wf_end' {n0 r n : Int} {t : Tok} {its : List Value} {v : Nat} {D : List Int} {k : Nat} (hP : WfP n0 r ⟨n, t, its, v, D, k⟩) (h : ¬ 0 < n) (h2 : ¬ D.map figS = []) : D = wfD n0 r := (wf_end hP h (fun e => h2 (by rw [e]; rfl))).1
theorem figS_len {d : Int} : (figS d).length ≤ 1 := by
  unfold figS
  exact Nat.le_of_eq (len_item _ _)
theorem figs_sum : ∀ D : List Int, ((D.map figS).map (·.length)).sum ≤ D.length
  | [] => Nat.le_refl _
  | d :: r => by
    have := figs_sum r
    have h := figS_len (d := d)
    simp only [List.map_cons, List.sum_cons, List.length_cons]
    omega
theorem strsAre_length : ∀ {its : List Value} {L : List Str}, StrsAre its L → its.length = L.length
  | _, _, .nil => rfl
  | _, _, .cons _ _ r => by simp [strsAre_length r]
theorem strsAre_rev {its : List Value} {L : List Str} (h : StrsAre its L) : StrsAre (its.toArray.toList.reverse).toArray.toList L.reverse := by
  show StrsAre its.reverse L.reverse
  induction h with
  | nil => exact .nil
  | cons y t _ ih =>
    rw [List.reverse_cons, List.reverse_cons]
    exact StrsAre.append' ih (.cons y t .nil)
theorem rev_ok {D : List Int} (h : D.length ≤ 1101) : (((D.map figS).reverse).map (·.length)).sum + ((D.map figS).reverse).length * (Str.ofString "").length ≤ 16777216 := by
  have h2 := figs_sum D
  have : (Str.ofString "").length = 0 := by decide
  rw [this, List.map_reverse, List.sum_reverse]
  omega
end

section
open PySem.Builtin.Int (intBits)
variable {w : World} {mean : ExcName → Option Value} {mg mb : Str → Option Value}
set_option maxHeartbeats 4000000 in
theorem ct_whole_figures (n r : Int) (t u : Tok) (h0 : 0 ≤ n) (h1 : n < 2 ^ 1101) (h2 : 2 ≤ r) (h3 : r ≤ 36) : Ct w mean mg mb 154 5 [.int n t, .int r u] P0 (OS (wfS n r)) := by
  k_with_none
  k_with "call type:str" => (k_here; (with_reducible show wpAny _ _ (call (Value.type "str") [Value.int _ _]) _ _ _); (refine' str_of_bits (by omega) (by bits_by_make) (by decide) ?_; k_whole; intro hL'))
  k_with "binaryOp FloorDiv int int" => (k_here; (refine' fdiv_bits (by first | assumption | omega | decide | exact two_pow_pos _) (by bits_by_make) (by decide) ?_; k_whole))
  k_with "binaryOp Mod int int" => (k_here; (refine' mod_bits (by first | assumption | omega | decide | exact two_pow_pos _) ?_; k_whole))
  k_with "binaryOp RShift int int" => (k_here; first | (with_reducible refine rsh52 ?_) | (with_reducible refine rsh63 ?_))
  k_with "binaryOp Pow int int" => (k_here; first | (with_reducible refine pow2_52 ?_) | (with_reducible refine pow2_63 ?_) | (with_reducible refine pow2_45 ?_))
  k_with "exec While" => (k_here; refine of_held ?_)
  k_with "k_all" => exact fun p hp => Nat.ne_of_lt (ktn_ltOf (by first | assumption | exact allLt_of (by assumption) | exact And.right (by assumption) | exact And.right (And.right (by assumption)) | exact And.right (And.right (And.right (by assumption))) | exact And.right (And.right (And.right (And.right (by assumption)))) | exact And.right (And.right (And.right (And.right (And.right (by assumption)))))) p hp)
  k_with "compareOp Eq ref ref" => (k_here; (refine eq_strs_nil (by is_list) (by is_list) (by assumption) (figs_ok _) (by ktr_units) ?_))
  k_with "call builtin:list.reverse" => (k_here; (with_reducible show wpAny _ _ (call (Value.builtin _) [Value.ref _]) _ _ _); k_dflt (refine' kl_reverse (by k_asm) (by k_asm) rfl (by k_upd) (by size_fits) ?_); intro h' F' N')
  k_with "call builtin:str.join" => (k_here; (refine join_list (by is_list) (strsAre_rev (by assumption)) (rev_ok (by omega)) ?_); intro tJ' kJ')
  k_with "subscriptTail" => (k_here; (with_reducible show wpAny _ _ (subscriptTail _ _ (Value.str _ _) (Value.int _ _)) _ _ _); (focus ((with_reducible refine fig_item ?_ ?_ ?_); (next => omega); (next => omega))))
  unfold Ct
  k_fill
  intro dp un gd cn cs a ccd cl outer A₀ base h₀ L m news s Q E B F X N T hk hP hd hu hret
  refine wpAny_call ?_
  w_top off
  k_dflt cell_enter
  k_steps
  unfold Held
  have hst : ∀ t, WfP n r ⟨n, t, [], 0, [], 1101⟩ := fun t => wfP_start h0 h1
  have hS : wfS n r = wfS n r := rfl
  conv at hS => lhs; unfold wfS
  generalize wfS n r = RS at *
  rename Fr _ _ _ _ => lF'
  rename News _ _ _ _ => lN'
  clear h1
  refine' ksw_while (σ := WfSt) (fun c => (_, W.listOf c.its.toArray c.v) :: _) (fun c => [(Str.ofString "number", .int c.n c.tn)]) (fun c => StrsAre c.its (c.D.map figS)) [] (WfP n r) (fun c => c.k) ⟨n, _, [], 0, [], 1101⟩ lF' lN' .nil ?kk ?kp ?turn
  case kk => kst_all
  case kp => exact hst _
  case turn =>
    clear lF' lN' hst
    rintro ⟨n1, tn, its, v, D, k⟩ u1 h1' tk1 hStrs hInv F1 N1
    dsimp only [kstB] at *
    have hm0 := Int.emod_nonneg n1 (show r ≠ 0 by omega)
    have hm1 := Int.emod_lt_of_pos n1 (show 0 < r by omega)
    have hz := strsAre_length hStrs
    rw [List.length_map] at hz
    have hD := hInv.2.2.2.2.2
    dsimp only at hD
    have hz2 : its.length ≤ 1101 := by omega
    have hz3 : its.toArray.toList.length ≤ 1101 := hz2
    try k_fold
    k_steps
    all_goals first
      | (refine retS hret (by assumption) (cb_drop (by assumption) (by kcj_all)) ?_; rw [wf_end' hInv (by assumption) (by assumption), hS])
      | ((have hor : 0 < n1 ∨ D = [] := by first | exact .inl (by assumption) | exact .inr (List.map_eq_nil_iff.mp (by assumption))); (rename News _ _ _ _ => nE'); (simp only [List.push_toArray] at nE'); (refine ksw_end ⟨_, _, _, _, D ++ [n1 % r], k - 1⟩ (by assumption) nE' (by kst_in) (by rw [List.map_append]; exact StrsAre.append' hStrs (.cons _ _ .nil)) (by kst_all) (by ksw_same) ?_ ?_); (exact (wfP_next h2 hInv hor).1); (exact (wfP_next (t' := 0) (its' := []) (v' := 0) h2 hInv hor).2))

end

section
open PySem.Builtin.Int (intBits)
def carrRev (r : Int) : List Int → List Int × Int
  | [] => ([], 1)
  | d :: t => if d = r - 1 then carrRev r t else ((d + 1) :: t, 0)
@[irreducible] def carr (r : Int) (ns : List Int) : List Int × Int := ((carrRev r ns.reverse).1.reverse, (carrRev r ns.reverse).2)
@[irreducible] def upB (y u q : Int) : Bool := decide (u < 2 * y) || ((2 * y == u) && (q % 2 == 1))
def rfGo (u r : Int) : Nat → Int → Int → List Int × Bool
  | 0, _, _ => ([], false)
  | k + 1, x, g =>
    if x < g then ([], false)
    else if upB (x * r % u) u (x * r / u) = true ∧ u < x * r % u + g * r then ([x * r / u], true)
    else (x * r / u :: (rfGo u r k (x * r % u) (g * r)).1, (rfGo u r k (x * r % u) (g * r)).2)
@[irreducible] def rfR (x u r : Int) : List Int × Int := if (rfGo u r 1100 x 1).2 = true then carr r (rfGo u r 1100 x 1).1 else ((rfGo u r 1100 x 1).1, 0)
abbrev OTL (ns : List Int) (c : Int) (news ex : List (Addr × Obj)) (v : Value) : Prop :=
  ∃ D l its n t, v = .ref D ∧ ex = [(D, ({ cls := .type "tuple", data := .seq #[.ref l, .int c t] } : Obj)), (l, W.listOf its.toArray n)] ∧ IntsAre its ns ∧ AllLt D news ∧ AllLt l news ∧ @LT.lt Nat _ l D
structure RfSt where
  x : Int
  g : Int
  tx : Tok
  tg : Tok
  its : List Value
  v : Nat
  D : List Int
  k : Nat
def RfP (u r : Int) (R : List Int × Bool) (c : RfSt) : Prop :=
  0 ≤ c.x ∧ c.x < u ∧ 1 ≤ c.g ∧ u ≤ c.g * 2 ^ c.k ∧ (c.D ++ (rfGo u r c.k c.x c.g).1, (rfGo u r c.k c.x c.g).2) = R ∧ c.D.length ≤ 1100 - c.k ∧ c.k ≤ 1100
structure CaSt where
  its : List Value
  v : Nat
  ns : List Int
def CaP (r : Int) (R : List Int × Int) (m : Nat) (c : CaSt) : Prop := carr r c.ns = R ∧ c.ns.length ≤ m

section
variable {prog : Program} {w : World} {A : Around} {E : Value → Shared → Prop} {s : Shared} {h₀ : Heap} {L D : Addr} {m : Str → Option Value} {news news' : List (Addr × Obj)} {its : List Value} {ns : List Int} {n : Nat} {t u : Tok}
theorem lst_getLast {Q : Value → Shared → Prop} (hl : s.heap.IsList D its.toArray) (hi : IntsAre its ns) (hne : 0 < its.length) (h : ∀ t, Q (.int (ns.getLastD 0) t) s) : wpAny (model prog w) A (getItem (.ref D) (.int (-1) u)) Q E s := by
  obtain ⟨y, t, h1, h2, h3⟩ := kpa_ints hi hne
  have hlen : its.length = its.dropLast.length + 1 := by rw [h1]; simp
  refine kde_getNeg (j := its.dropLast.length) hl (by decide) (by decide) ?_ ?_ (h t)
  · rw [seqIndex_neg (by decide) (by omega)]
    congr 1
    omega
  · rw [h1, h2]; simp
theorem lst_last {value slice : PySem.Expr} {Q : Value → Shared → Prop} (hl : s.heap.IsList D its.toArray) (hi : IntsAre its ns) (hne : 0 < its.length) (h : ∀ t, Q (.int (ns.getLastD 0) t) s)
    (hs : subscripted slice false (.ref D) (.int (-1) u) = operate [.ref D, .int (-1) u] (getItem (.ref D) (.int (-1) u)) := by with_unfolding_all rfl) :
    wpAny (model prog w) A (subscriptTail value slice (.ref D) (.int (-1) u)) Q E s :=
  tail_any hl.typeIs slot_list_getitem.lookup (lst_getLast hl hi hne h) hs
theorem lst_setLast {x : Int} {Q : Unit → Shared → Prop} (F : Fr h₀ L s.heap m) (N : News h₀ L s.heap news) (U : Upd D (W.listOf its.toArray n) (W.listOf (its.dropLast ++ [Value.int x u]).toArray n) news news') (hne : 0 < its.length)
    (h : ∀ h', Fr h₀ L h' m → News h₀ L h' news' → Q () { s with heap := h' }) : wpAny (model prog w) A (setItem (.ref D) (.int (-1) t) (.int x u)) Q E s := by
  obtain ⟨pre, post, rfl, rfl, a, b⟩ := U.split
  have z := N (D, W.listOf its.toArray n) (List.mem_append.mpr (.inr (.head _)))
  refine ki_setBack z.1 (by decide) (by rw [List.size_toArray]; omega) (by decide) (h _ (F.change (Heap.SameBut.update ..) z.2.1 z.2.2) (ki_turn _ N a b ?_ ?_))
  · apply Array.toList_inj.mp
    rw [Array.toList_setIfInBounds, List.size_toArray]
    show its.set (-1 + (its.length : Int)).toNat (Value.int x u) = its.dropLast ++ [Value.int x u]
    have e : (-1 + (its.length : Int)).toNat = its.dropLast.length := by rw [List.length_dropLast]; omega
    rw [e]
    have hne' : its ≠ [] := fun e => by rw [e] at hne; exact absurd hne (by decide)
    conv => lhs; rw [← List.dropLast_concat_getLast hne']
    rw [List.set_append_right _ _ (by simp)]
    simp
  · simp
    omega
end
theorem carr_pop {r : Int} {ns : List Int} (hne : 0 < ns.length) (h : ns.getLastD 0 = r - 1) : carr r ns.dropLast = carr r ns := by
  have hne' : ns ≠ [] := fun e => by rw [e] at hne; exact absurd hne (by decide)
  have e := List.dropLast_concat_getLast hne'
  have e2 : ns.getLast hne' = r - 1 := by rw [← h, List.getLastD_eq_getLast?, List.getLast?_eq_some_getLast hne']; rfl
  unfold carr
  conv => rhs; rw [← e]
  rw [List.reverse_append, e2]
  show _ = ((carrRev r ((r - 1) :: ns.dropLast.reverse)).1.reverse, (carrRev r ((r - 1) :: ns.dropLast.reverse)).2)
  have e3 : carrRev r ((r - 1) :: ns.dropLast.reverse) = carrRev r ns.dropLast.reverse := by
    show (if r - 1 = r - 1 then _ else _) = _
    rw [if_pos rfl]
  rw [e3]
theorem carr_last {r : Int} {ns : List Int} (hne : 0 < ns.length) (h : ns.getLastD 0 ≠ r - 1) : carr r ns = (ns.dropLast ++ [ns.getLastD 0 + 1], 0) := by
  have hne' : ns ≠ [] := fun e => by rw [e] at hne; exact absurd hne (by decide)
  have e := List.dropLast_concat_getLast hne'
  have e2 : ns.getLast hne' = ns.getLastD 0 := by rw [List.getLastD_eq_getLast?, List.getLast?_eq_some_getLast hne']; rfl
  unfold carr
  generalize hd : ns.getLastD 0 = d at *
  rw [e2] at e
  rw [← e, List.reverse_append]
  show ((carrRev r (d :: ns.dropLast.reverse)).1.reverse, (carrRev r (d :: ns.dropLast.reverse)).2) = _
  have e3 : carrRev r (d :: ns.dropLast.reverse) = ((d + 1) :: ns.dropLast.reverse, 0) := by
    show (if d = r - 1 then _ else _) = _
    rw [if_neg h]
  rw [e3]
  simp
theorem carr_nil {r : Int} : carr r [] = ([], 1) := by unfold carr; rfl

theorem rfP_start {x u r : Int} {t1 t2 : Tok} (h0 : 0 ≤ x) (h1 : x < u) (hu : u < 2 ^ 1100) : RfP u r (rfGo u r 1100 x 1) ⟨x, 1, t1, t2, [], 0, [], 1100⟩ :=
  ⟨h0, h1, Int.le_refl 1, (by show u ≤ 1 * 2 ^ 1100; rw [Int.one_mul]; exact Int.le_of_lt hu), rfl, Nat.zero_le _, Nat.le_refl _⟩
theorem rf_xb {x u : Int} (h0 : 0 ≤ x) (h1 : x < u) (hu : intBits u ≤ 1100) : intBits x ≤ 1100 := intBits_le_of_natAbs (y := u) (by omega) hu
/-- a gap is asked for its size only where the loop goes on -/
theorem rf_gb {x u g : Int} (h0 : 0 ≤ x) (h1 : x < u) (h2 : 1 ≤ g) (hu : intBits u ≤ 1100) : g ≤ x → intBits g ≤ 1100 := fun h => intBits_le_of_natAbs (y := u) (by omega) hu
theorem upB_1 {y u q : Int} (h : u < 2 * y) : decide (u < 2 * y) = upB y u q := by unfold upB; simp [h]
theorem upB_2 {y u q : Int} (h : ¬ u < 2 * y) (h2 : 2 * y = u) : (q % 2 == 1) = upB y u q := by unfold upB; simp [h, h2]
theorem upB_3 {y u q : Int} (h : ¬ u < 2 * y) (h2 : 2 * y ≠ u) : (2 * y == u) = upB y u q := by unfold upB; simp [h, h2]

section
variable {h₀ h' : Heap} {L : Addr} {m : Str → Option Value} {news news' : List (Addr × Obj)} {s : Shared} {Q : Value → Shared → Prop} {tk' : Nat} {D l : Addr}
theorem retL {ns : List Int} {c c' : Int} {its : List Value} {n : Nat} {t : Tok}
    (hret : ∀ (ex : List (Addr × Obj)) (v : Value) (h' : Heap) (tk' : Nat), Fr h₀ L h' m → News h₀ L h' (ex ++ news) → OTL ns c news ex v → Q v { s with heap := h', toks := tk' }) (F : Fr h₀ L h' m) (N : News h₀ L h' news')
    (hp : (D, ({ cls := .type "tuple", data := .seq #[.ref l, .int c' t] } : Obj)) ∈ news') (hq : (l, W.listOf its.toArray n) ∈ news') (hs : ∀ q ∈ news, q ∈ news') (hi : IntsAre its ns) (h1 : AllLt D news) (h2 : AllLt l news) (h3 : @LT.lt Nat _ l D) (e : c' = c) : Q (.ref D) { s with heap := h', toks := tk' } := by
  subst e
  refine hret _ _ h' tk' F (fun q hq' => ?_) ⟨D, l, its, n, t, rfl, rfl, hi, h1, h2, h3⟩
  rcases List.mem_append.mp hq' with hq' | hq'
  · rcases List.mem_cons.mp hq' with rfl | hq'
    · exact N _ hp
    · rw [List.mem_singleton.mp hq']
      exact N _ hq
  · exact N q (hs q hq')
end
theorem getD_last {ns : List Int} (h : 0 < ns.length) : ns.getD (-1 + (ns.length : Int)).toNat 0 = ns.getLastD 0 := by
  have e : (-1 + (ns.length : Int)).toNat = ns.length - 1 := by omega
  rw [e, List.getD_eq_getElem?_getD, List.getLastD_eq_getLast?, List.getLast?_eq_getElem?]
theorem caP_next {r : Int} {R : List Int × Int} {m : Nat} {its its' : List Value} {v v' : Nat} {ns : List Int} (hP : CaP r R m ⟨its, v, ns⟩) (h0 : 0 < ((ns.length : Nat) : Int)) (h : ns.getD (-1 + (ns.length : Int)).toNat 0 = r - 1) :
    CaP r R m ⟨its', v', ns.dropLast⟩ ∧ ns.dropLast.length < ns.length := by
  have h0' : 0 < ns.length := by omega
  rw [getD_last h0'] at h
  obtain ⟨a, b⟩ := hP
  dsimp only at *
  exact ⟨⟨(carr_pop h0' h).trans a, by show ns.dropLast.length ≤ m; rw [List.length_dropLast]; omega⟩, by rw [List.length_dropLast]; omega⟩
theorem ca_nil {r : Int} {R : List Int × Int} {m : Nat} {its : List Value} {v : Nat} {ns : List Int} (hP : CaP r R m ⟨its, v, ns⟩) (h0 : ((ns.length : Nat) : Int) = 0) : R = ([], 1) := by
  have e : ns = [] := List.length_eq_zero_iff.mp (by omega)
  have a := hP.1
  dsimp only at a
  rw [← a, e, carr_nil]
theorem ca_last {r : Int} {R : List Int × Int} {m : Nat} {its : List Value} {v : Nat} {ns : List Int} (hP : CaP r R m ⟨its, v, ns⟩) (h0 : 0 < ((ns.length : Nat) : Int)) (h : ns.getD (-1 + (ns.length : Int)).toNat 0 ≠ r - 1) : R = (ns.dropLast ++ [ns.getLastD 0 + 1], 0) := by
  have h0' : 0 < ns.length := by omega
  rw [getD_last h0'] at h
  have a := hP.1
  dsimp only at a
  rw [← a, carr_last h0' h]
theorem ca_ints {its : List Value} {ns : List Int} {d : Int} {t : Tok} (h : IntsAre its.dropLast ns.dropLast) : IntsAre (its.dropLast ++ [.int d t]) (ns.dropLast ++ [d]) := IntsAre.append h (.cons d t .nil)
theorem ints_dropLast {its : List Value} {ns : List Int} (h : IntsAre its ns) : IntsAre its.dropLast ns.dropLast := by
  by_cases h0 : 0 < its.length
  · exact (kpa_ints h h0).choose_spec.choose_spec.2.2
  · have e : its = [] := List.length_eq_zero_iff.mp (by omega)
    subst e
    cases h
    exact .nil
theorem rfGo_stop {u r : Int} {k : Nat} {x g : Int} (h : ¬ g ≤ x) : rfGo u r k x g = ([], false) := by
  cases k with
  | zero => rfl
  | succ k => show (if x < g then _ else _) = _; rw [if_pos (by omega)]
theorem rf_k {u r : Int} {R : List Int × Bool} {x g : Int} {tx tg : Tok} {its : List Value} {v : Nat} {D : List Int} {k : Nat} (hP : RfP u r R ⟨x, g, tx, tg, its, v, D, k⟩) (h : g ≤ x) : 1 ≤ k := by
  obtain ⟨a, b, c, d, e, f, i⟩ := hP
  dsimp only at *
  rcases Nat.eq_zero_or_pos k with hk | hk
  · rw [hk, Int.pow_zero] at d; omega
  · exact hk
theorem rf_up {u r : Int} {R : List Int × Bool} {x g : Int} {tx tg : Tok} {its : List Value} {v : Nat} {D : List Int} {k : Nat} (hP : RfP u r R ⟨x, g, tx, tg, its, v, D, k⟩) (h : g ≤ x)
    (h1 : upB (x * r % u) u (x * r / u) = true) (h2 : u < x * r % u + g * r) : R = (D ++ [x * r / u], true) ∧ D.length ≤ 1099 := by
  have hk := rf_k hP h
  obtain ⟨a, b, c, d, e, f, i⟩ := hP
  dsimp only at *
  obtain ⟨j, rfl⟩ : ∃ j, k = j + 1 := ⟨k - 1, by omega⟩
  have e2 : rfGo u r (j + 1) x g = ([x * r / u], true) := by
    show (if x < g then _ else _) = _
    rw [if_neg (by omega), if_pos ⟨h1, h2⟩]
  rw [e2] at e
  exact ⟨e.symm, by omega⟩
theorem rf_end {u r : Int} {R : List Int × Bool} {x g : Int} {tx tg : Tok} {its : List Value} {v : Nat} {D : List Int} {k : Nat} (hP : RfP u r R ⟨x, g, tx, tg, its, v, D, k⟩) (h : ¬ g ≤ x) : R = (D, false) := by
  obtain ⟨a, b, c, d, e, f, i⟩ := hP
  dsimp only at *
  rw [rfGo_stop h, List.append_nil] at e
  exact e.symm
theorem rfP_next {u r : Int} {R : List Int × Bool} {x g : Int} {tx tg tx' tg' : Tok} {its its' : List Value} {v v' : Nat} {D : List Int} {k : Nat} (hr : 2 ≤ r) (hP : RfP u r R ⟨x, g, tx, tg, its, v, D, k⟩) (h : g ≤ x)
    (h1 : ¬ (upB (x * r % u) u (x * r / u) = true ∧ u < x * r % u + g * r)) : RfP u r R ⟨x * r % u, g * r, tx', tg', its', v', D ++ [x * r / u], k - 1⟩ ∧ k - 1 < k := by
  have hk := rf_k hP h
  obtain ⟨a, b, c, d, e, f, i⟩ := hP
  dsimp only at *
  have hu : 0 < u := by omega
  obtain ⟨j, rfl⟩ : ∃ j, k = j + 1 := ⟨k - 1, by omega⟩
  have hg : g * 2 ≤ g * r := Int.mul_le_mul_of_nonneg_left hr (by omega)
  refine ⟨⟨Int.emod_nonneg _ (by omega), Int.emod_lt_of_pos _ hu, (by show 1 ≤ g * r; omega), ?_, ?_, ?_, ?_⟩, by omega⟩
  · show u ≤ g * r * 2 ^ j
    rw [Int.pow_succ] at d
    have h3 : g * 2 * 2 ^ j ≤ g * r * 2 ^ j := Int.mul_le_mul_of_nonneg_right hg (Int.le_of_lt (two_pow_pos j))
    have h4 : g * (2 ^ j * 2) = g * 2 * 2 ^ j := by rw [Int.mul_comm (2 ^ j) 2, Int.mul_assoc]
    omega
  · have e2 : rfGo u r (j + 1) x g = (x * r / u :: (rfGo u r j (x * r % u) (g * r)).1, (rfGo u r j (x * r % u) (g * r)).2) := by
      show (if x < g then _ else _) = _
      rw [if_neg (by omega), if_neg h1]
    rw [e2] at e
    rw [← e]
    show (D ++ [x * r / u] ++ (rfGo u r j (x * r % u) (g * r)).1, (rfGo u r j (x * r % u) (g * r)).2) = _
    rw [List.append_assoc]
    rfl
  · show (D ++ [x * r / u]).length ≤ 1100 - j
    rw [List.length_append]; show D.length + 1 ≤ _; omega
  · show j ≤ 1100; omega
theorem rfR_end {x u r : Int} {D : List Int} (h : rfGo u r 1100 x 1 = (D, false)) : rfR x u r = (D, 0) := by unfold rfR; rw [h]; rfl
theorem rfR_up {x u r : Int} {D : List Int} (h : rfGo u r 1100 x 1 = (D, true)) : rfR x u r = carr r D := by unfold rfR; rw [h]; rfl
section
variable {w : World} {mean : ExcName → Option Value} {mg mb : Str → Option Value} {f : Addr} {lv : Nat} {vs : List Value} {Pre : List (Addr × Obj) → Prop} {dp un : Nat} {gd : Option (List Code)} {cn : Str} {cs : Scope} {a : Addr} {ccd : Value} {cl : List (Str × Addr)} {outer : List Env} {A₀ : Around} {base h₀ : Heap} {L : Addr} {m : Str → Option Value} {news : List (Addr × Obj)} {s : Shared} {Q E : Value → Shared → Prop}
theorem ct_useL {ns : List Int} {c : Int} (C : Ct w mean mg mb f lv vs Pre (OTL ns c)) (B : Below A₀ base outer h₀) (F : Fr h₀ L s.heap m) (X : (hd.heap_39 w.params).In h₀) (N : News h₀ L s.heap news) (T : Top hd.view_39 (looseW hd.view_39 [Str.ofString "SIGN_BIT", Str.ofString "FRACTION_MASK", Str.ofString "HIDDEN_BIT_dbits", Str.ofString "INF", Str.ofString "HIDDEN_BIT_numshow"]) mean mg mb h₀) (hk : cs.kind = .function)
    (hP : Pre news) (hd : dp + lv < recursionLimit) (hu : un + 16 * lv < cLine)
    (ret : ∀ D l its n t h' tk', Fr h₀ L h' m → News h₀ L h' ((D, ({ cls := .type "tuple", data := .seq #[.ref l, .int c t] } : Obj)) :: (l, W.listOf its.toArray n) :: news) → IntsAre its ns → AllLt D news → AllLt l news → @LT.lt Nat _ l D → Q (.ref D) { s with heap := h', toks := tk' }) :
    wpAny (model PySem.Challenge.rw_nt0350_01.row.prog w) (ktrTop dp un gd cn cs L a ccd cl outer) (call (.ref f) vs) Q E s :=
  C dp un gd cn cs a ccd cl outer A₀ base h₀ L m news s Q E B F X N T hk hP hd hu fun ex v h' tk' F' N' hO => by
    obtain ⟨D, l, its, n, t, rfl, rfl, hi, h1, h2, h3⟩ := hO
    exact ret D l its n t h' tk' F' N' hi h1 h2 h3
end
end

section
open PySem.Builtin.Int (intBits)
variable {w : World} {mean : ExcName → Option Value} {mg mb : Str → Option Value}
set_option maxHeartbeats 4000000 in
theorem ct_carried (its : List Value) (ns : List Int) (v : Nat) (r : Int) (t3 : Tok) (l : Addr) (h2 : 2 ≤ r) (h3 : r ≤ 36) (hi : IntsAre its ns) (hlen : ns.length ≤ 2000) : Ct w mean mg mb 168 1 [.ref l, .int r t3] (fun news => (l, W.listOf its.toArray v) ∈ news) (OTL (carr r ns).1 (carr r ns).2) := by
  k_with_none
  k_with "call type:str" => (k_here; (with_reducible show wpAny _ _ (call (Value.type "str") [Value.int _ _]) _ _ _); (refine' str_of_bits (by omega) (by bits_by_make) (by decide) ?_; k_whole; intro hL'))
  k_with "binaryOp FloorDiv int int" => (k_here; (refine' fdiv_bits (by first | assumption | omega | decide | exact two_pow_pos _) (by bits_by_make) (by decide) ?_; k_whole))
  k_with "binaryOp Mod int int" => (k_here; (refine' mod_bits (by first | assumption | omega | decide | exact two_pow_pos _) ?_; k_whole))
  k_with "binaryOp RShift int int" => (k_here; first | (with_reducible refine rsh52 ?_) | (with_reducible refine rsh63 ?_))
  k_with "binaryOp Pow int int" => (k_here; first | (with_reducible refine pow2_52 ?_) | (with_reducible refine pow2_63 ?_) | (with_reducible refine pow2_45 ?_))
  k_with "exec While" => (k_here; refine of_held ?_)
  k_with "k_all" => exact fun p hp => Nat.ne_of_lt (ktn_ltOf (by first | assumption | exact allLt_of (by assumption) | exact And.right (by assumption) | exact And.right (And.right (by assumption)) | exact And.right (And.right (And.right (by assumption))) | exact And.right (And.right (And.right (And.right (by assumption)))) | exact And.right (And.right (And.right (And.right (And.right (by assumption)))))) p hp)
  k_with "call type:list" => (k_here; (with_reducible show wpAny _ _ (call (Value.type _) [Value.ref _]) _ _ _); k_dflt (refine' list_copyK (by k_asm) (by k_asm) (by exact News.isList (by k_asm) (by k_mem)) ?_ (by size_fits); k_whole); intro D' c' h' F' N' l1; (try k_lt l1); (try k_sweep))
  k_with "subscriptTail" => (k_here; (with_reducible show wpAny _ _ (subscriptTail _ _ (Value.ref _) (Value.int _ _)) _ _ _); k_dflt (refine' lst_last (by is_list) (by assumption) (by omega) ?_; k_whole); intro tL')
  k_with "getItem ref int" => (k_here; k_dflt (refine' lst_getLast (by is_list) (by assumption) (by omega) ?_; k_whole); intro tL')
  k_with "call builtin:list.pop" => (k_here; (with_reducible show wpAny _ _ (call (Value.builtin _) [Value.ref _]) _ _ _); k_dflt (refine' kpa_pop (by k_asm) (by k_asm) (by k_upd) (by assumption) (by omega) (by size_fits) ?_); (intro h' t' F' N' hI'; (try dsimp only [List.nil_append, List.cons_append] at N')))
  k_with "setItem ref int" => (k_here; k_dflt (refine' lst_setLast (by k_asm) (by k_asm) (by k_upd) (by omega) ?_); (intro h' F' N'; (try k_sweep)))
  unfold Ct
  k_fill
  intro dp un gd cn cs a ccd cl outer A₀ base h₀ L m news s Q E B F X N T hk hP hd hu hret
  have hz := hi.length
  have hz2 : its.toArray.toList.length ≤ 2000 := by show its.length ≤ 2000; omega
  have hz4 : its.length ≤ 2000 := hz2
  skip
  refine wpAny_call ?_
  w_top off
  k_dflt cell_enter
  k_steps
  unfold Held
  rename Fr _ _ _ _ => lF'
  rename News _ _ _ _ => lN'
  have hst : CaP r (carr r ns) 2000 ⟨its, 0, ns⟩ := ⟨rfl, hlen⟩
  generalize carr r ns = R at *
  refine' ksw_while (σ := CaSt) (fun c => (_, W.listOf c.its.toArray c.v) :: _) (fun c => []) (fun c => IntsAre c.its c.ns) [] (CaP r R 2000) (fun c => c.ns.length) ⟨its, _, ns⟩ lF' lN' hi ?kk ?kp ?turn
  case kk => kst_all
  case kp => exact hst
  case turn =>
    clear lF' lN' hst
    rintro ⟨its, v, ns⟩ u1 h1' tk1 hIts hInv F1 N1
    dsimp only [kstB] at *
    clear hz hz2 hz4 hi hlen
    have hlen := hInv.2
    dsimp only at hlen
    have hz := hIts.length
    have hz2 : its.toArray.toList.length ≤ 2000 := by show its.length ≤ 2000; omega
    have hz4 : its.length ≤ 2000 := hz2
    try k_fold
    k_steps
    all_goals first
      | (have hR := ca_nil hInv (by omega); subst hR; (refine retL hret (by assumption) (by assumption) (by k_mem) (by k_mem) (by kcj_all) (its := []) .nil (by first | assumption | exact allLt_of (by assumption) | exact And.right (by assumption) | exact And.right (And.right (by assumption)) | exact And.right (And.right (And.right (by assumption))) | exact And.right (And.right (And.right (And.right (by assumption)))) | exact And.right (And.right (And.right (And.right (And.right (by assumption)))))) (by first | assumption | exact allLt_of (by assumption) | exact And.right (by assumption) | exact And.right (And.right (by assumption)) | exact And.right (And.right (And.right (by assumption))) | exact And.right (And.right (And.right (And.right (by assumption)))) | exact And.right (And.right (And.right (And.right (And.right (by assumption)))))) (by omega) rfl); done)
      | (have hR := ca_last hInv (by omega) (by assumption); subst hR; (refine retL hret (by assumption) (by assumption) (by k_mem) (by k_mem) (by kcj_all) (ca_ints (ints_dropLast hIts)) (by first | assumption | exact allLt_of (by assumption) | exact And.right (by assumption) | exact And.right (And.right (by assumption)) | exact And.right (And.right (And.right (by assumption))) | exact And.right (And.right (And.right (And.right (by assumption)))) | exact And.right (And.right (And.right (And.right (And.right (by assumption)))))) (by first | assumption | exact allLt_of (by assumption) | exact And.right (by assumption) | exact And.right (And.right (by assumption)) | exact And.right (And.right (And.right (by assumption))) | exact And.right (And.right (And.right (And.right (by assumption)))) | exact And.right (And.right (And.right (And.right (And.right (by assumption)))))) (by omega) rfl); done)
      | ((rename IntsAre (List.dropLast _) (List.dropLast _) => hI9); (rename News _ _ _ _ => nE'); (refine ksw_end ⟨_, _, ns.dropLast⟩ (by assumption) nE' (by kst_in) hI9 (by kst_all) (by ksw_same) ?_ ?_); (exact (caP_next hInv (by assumption) (by assumption)).1); (exact (caP_next (its' := []) (v' := 0) hInv (by assumption) (by assumption)).2))
      | (exfalso; omega)

end

section
open PySem.Builtin.Int (intBits)
variable {w : World} {mean : ExcName → Option Value} {mg mb : Str → Option Value}
local macro_rules | `(tactic| walk_at "call ref") => `(tactic| (k_here; (rename News _ _ _ _ => nP'); (try simp only [List.push_toArray] at nP'); k_dflt (refine' ct_useL (ct_carried _ _ _ _ _ _ ?p0 ?p1 ?p2 ?p3) ?k1 ?k2 ?k3 ?k4 ?k5 ?kK ?kP ?kd ?ku ?_; (case k1 => k_asm); (case k2 => k_asm); (case k3 => k_asm); (case k4 => k_asm); (case k5 => k_asm); (case kK => first | exact rfl | assumption); (case kP => k_mem); (case p0 => omega); (case p1 => omega); (case p2 => exact IntsAre.append (by assumption) (.cons _ _ .nil)); (case p3 => (rw [List.length_append]; simp only [List.length_cons, List.length_nil]; omega)); (case kd => ktr_room); (case ku => ktr_units); k_whole; intro D' l' its' n' t' h' tk' F' N' hI' l1' l2' l3'; (try dsimp only); (try simp only [AllLt, and_true] at l1'); (try simp only [AllLt, and_true] at l2'); (try k_fold); (try k_sweep))))
set_option maxHeartbeats 4000000 in
theorem ct_rest_figures (x u r : Int) (t1 t2 t3 : Tok) (h0 : 0 ≤ x) (h1 : x < u) (huu : u < 2 ^ 1100) (h2 : 2 ≤ r) (h3 : r ≤ 36) : Ct w mean mg mb 161 2 [.int x t1, .int u t2, .int r t3] P0 (OTL (rfR x u r).1 (rfR x u r).2) := by
  k_with_none
  k_with "call type:str" => (k_here; (with_reducible show wpAny _ _ (call (Value.type "str") [Value.int _ _]) _ _ _); (refine' str_of_bits (by omega) (by bits_by_make) (by decide) ?_; k_whole; intro hL'))
  k_with "binaryOp FloorDiv int int" => (k_here; (refine' fdiv_bits (by first | assumption | omega | decide | exact two_pow_pos _) (by bits_by_make) (by decide) ?_; k_whole))
  k_with "binaryOp Mod int int" => (k_here; (refine' mod_bits (by first | assumption | omega | decide | exact two_pow_pos _) ?_; k_whole))
  k_with "binaryOp RShift int int" => (k_here; first | (with_reducible refine rsh52 ?_) | (with_reducible refine rsh63 ?_))
  k_with "binaryOp Pow int int" => (k_here; first | (with_reducible refine pow2_52 ?_) | (with_reducible refine pow2_63 ?_) | (with_reducible refine pow2_45 ?_))
  k_with "exec While" => (k_here; refine of_held ?_)
  k_with "k_all" => exact fun p hp => Nat.ne_of_lt (ktn_ltOf (by first | assumption | exact allLt_of (by assumption) | exact And.right (by assumption) | exact And.right (And.right (by assumption)) | exact And.right (And.right (And.right (by assumption))) | exact And.right (And.right (And.right (And.right (by assumption)))) | exact And.right (And.right (And.right (And.right (And.right (by assumption)))))) p hp)
  k_with "eval BoolOp" => (k_here; (fail_if_success (rename KPfMark => hNoMark')); (with_reducible show wpAny _ _ (eval (PySem.Expr.BoolOp PySem.BoolOp.Or _ _) _) _ _ _); refine of_held ?_)
  k_with "KCj" => ((refine kcj_end (t := (0 : Nat)) ?_ (by with_unfolding_all rfl) rfl (by assumption) (by assumption) (by kcj_all)); (next => first | exact (upB_1 (by assumption)).symm | exact (upB_2 (by assumption) (by assumption)).symm | exact (upB_3 (by assumption) (by assumption)).symm))
  unfold Ct
  k_fill
  intro dp un gd cn cs a ccd cl outer A₀ base h₀ L m news s Q E B F X N T hk hP hd hu hret
  refine wpAny_call ?_
  w_top off
  k_dflt cell_enter
  k_steps
  unfold Held
  rename Fr _ _ _ _ => lF'
  rename News _ _ _ _ => lN'
  have hu0 : 0 < u := by omega
  have hub : intBits u ≤ 1100 := bits_of_lt (by omega) huu
  have hst : ∀ t1 t2, RfP u r (rfGo u r 1100 x 1) ⟨x, 1, t1, t2, [], 0, [], 1100⟩ := fun t1 t2 => rfP_start h0 h1 huu
  clear huu
  refine' ksw_while (σ := RfSt) (fun c => _ :: (_, W.listOf c.its.toArray c.v) :: _) (fun c => [(Str.ofString "rest", .int c.x c.tx), (Str.ofString "gap", .int c.g c.tg)]) (fun c => IntsAre c.its c.D) [Str.ofString "figure", Str.ofString "is_up"] (RfP u r (rfGo u r 1100 x 1)) (fun c => c.k) ⟨x, 1, _, _, [], 0, [], 1100⟩ lF' lN' .nil ?kk ?kp ?turn
  case kk => kst_all
  case kp => exact hst _ _
  case turn =>
    clear lF' lN' hst
    have hF0 : ∀ D, rfGo u r 1100 x 1 = (D, false) → rfR x u r = (D, 0) := fun D h => rfR_end h
    have hF1 : ∀ D, rfGo u r 1100 x 1 = (D, true) → rfR x u r = carr r D := fun D h => rfR_up h
    generalize rfGo u r 1100 x 1 = R at *
    generalize rfR x u r = RR at *
    rintro ⟨x1, g1, tx, tg, its, v, D, k⟩ u1 h1' tk1 hIts hInv F1 N1
    dsimp only [kstB] at *
    have hInv' := hInv
    unfold RfP at hInv'
    dsimp only at hInv'
    obtain ⟨hI1, hI2, hI3, hI4, hI5, hI6, hI7⟩ := hInv'
    have hz := hIts.length
    have hz2 : its.length ≤ 1100 := by omega
    have hg := rf_gb hI1 hI2 hI3 hub
    have hxb := rf_xb hI1 hI2 hub
    clear hI4 hI5
    try k_fold
    k_steps
    unfold Held
    rename Fr _ _ _ _ => cF1
    rename News _ _ _ _ => cN1
    refine' kcj (fun (b : Bool) (_ : Tok) => Value.bool b) (fun _ => upB (x1 * r % u) u (x1 * r / u)) cF1 cN1 (fun u' hMark' => ?hc1) ?hk1
    case hc1 =>
      try k_fold
      k_steps
    try k_fold
    k_steps
    all_goals first
      | (have hR := hF0 _ (rf_end hInv (by assumption)); subst hR; (refine retL hret (by assumption) (by assumption) (by k_mem) (by k_mem) (by kcj_all) hIts (by first | assumption | exact allLt_of (by assumption) | exact And.right (by assumption) | exact And.right (And.right (by assumption)) | exact And.right (And.right (And.right (by assumption))) | exact And.right (And.right (And.right (And.right (by assumption)))) | exact And.right (And.right (And.right (And.right (And.right (by assumption)))))) (by first | assumption | exact allLt_of (by assumption) | exact And.right (by assumption) | exact And.right (And.right (by assumption)) | exact And.right (And.right (And.right (by assumption))) | exact And.right (And.right (And.right (And.right (by assumption)))) | exact And.right (And.right (And.right (And.right (And.right (by assumption)))))) (by omega) rfl); done)
      | (have hR := hF1 _ (rf_up hInv (by assumption) (by assumption) (by assumption)).1; subst hR; (refine retL hret (by assumption) (by assumption) (by k_mem) (by k_mem) (by kcj_all) (by assumption) (by first | assumption | exact allLt_of (by assumption) | exact And.right (by assumption) | exact And.right (And.right (by assumption)) | exact And.right (And.right (And.right (by assumption))) | exact And.right (And.right (And.right (And.right (by assumption)))) | exact And.right (And.right (And.right (And.right (And.right (by assumption)))))) (by first | assumption | exact allLt_of (by assumption) | exact And.right (by assumption) | exact And.right (And.right (by assumption)) | exact And.right (And.right (And.right (by assumption))) | exact And.right (And.right (And.right (And.right (by assumption)))) | exact And.right (And.right (And.right (And.right (And.right (by assumption)))))) (by omega) rfl); done)
      | ((have hn : ¬ (upB (x1 * r % u) u (x1 * r / u) = true ∧ u < x1 * r % u + g1 * r) := by first | exact fun x => absurd x.2 (by assumption) | exact fun x => absurd (x.1.symm.trans (by assumption)) (by decide)); (rename News _ _ _ _ => nE'); (simp only [List.push_toArray] at nE'); (refine ksw_end ⟨_, _, _, _, _, _, _, k - 1⟩ (by assumption) nE' (by kst_in) (IntsAre.append hIts (.cons _ _ .nil)) (by kst_all) (by ksw_same) ?_ ?_); (exact (rfP_next h2 hInv (by assumption) hn).1); (exact (rfP_next (tx' := 0) (tg' := 0) (its' := []) (v' := 0) h2 hInv (by assumption) hn).2))
      | skip

end

section
open PySem.Builtin.Int (intBits)
@[irreducible] def valC (c : Int) : Int := if 48 ≤ c ∧ c ≤ 57 then c - 48 else if 97 ≤ c ∧ c ≤ 122 then c - 87 else -1
@[irreducible] def worth (r : Int) (cs : List Int) : Int := cs.foldl (fun a c => a * r + valC c) 0
structure LwSt where
  f : Int
  t : Tok
theorem find_fig (n : Nat) (h : 0 ≤ valC n) : Txt.find (Str.ofString "0123456789abcdefghijklmnopqrstuvwxyz") ⟨#[n]⟩ = valC n := by
  have hn : n < 123 := by
    unfold valC at h
    (repeat' split at h) <;> omega
  have e : ∀ k : _root_.Fin 123, 0 ≤ valC (k.val : Nat) → Txt.find (Str.ofString "0123456789abcdefghijklmnopqrstuvwxyz") ⟨#[k.val]⟩ = valC (k.val : Nat) := by
    unfold valC
    decide +kernel
  exact e ⟨n, hn⟩ h
theorem worth_nil (r : Int) : worth r [] = 0 := by unfold worth; rfl
theorem worth_snoc (r : Int) (cs : List Int) (c : Int) : worth r (cs ++ [c]) = worth r cs * r + valC c := by unfold worth; rw [List.foldl_append]; rfl
end

section
open PySem.Builtin.Int (intBits)
variable {w : World} {mean : ExcName → Option Value} {mg mb : Str → Option Value}
set_option maxHeartbeats 4000000 in
theorem ct_law_worth (x : Str) (r : Int) (t1 t2 : Tok) (h2 : 2 ≤ r) (h3 : r ≤ 36) (hv : ∀ c ∈ KStt.codes x, 0 ≤ valC c ∧ valC c < r) : Ct w mean mg mb 227 1 [.str x t1, .int r t2] P0 (OI (worth r (KStt.codes x))) := by
  k_with_none
  k_with "call type:str" => (k_here; (with_reducible show wpAny _ _ (call (Value.type "str") [Value.int _ _]) _ _ _); (refine' str_of_bits (by omega) (by bits_by_make) (by decide) ?_; k_whole; intro hL'))
  k_with "binaryOp FloorDiv int int" => (k_here; (refine' fdiv_bits (by first | assumption | omega | decide | exact two_pow_pos _) (by bits_by_make) (by decide) ?_; k_whole))
  k_with "binaryOp Mod int int" => (k_here; (refine' mod_bits (by first | assumption | omega | decide | exact two_pow_pos _) ?_; k_whole))
  k_with "binaryOp RShift int int" => (k_here; first | (with_reducible refine rsh52 ?_) | (with_reducible refine rsh63 ?_))
  k_with "binaryOp Pow int int" => (k_here; first | (with_reducible refine pow2_52 ?_) | (with_reducible refine pow2_63 ?_) | (with_reducible refine pow2_45 ?_))
  k_with "exec While" => (k_here; refine of_held ?_)
  k_with "pyIter ref" => (k_here; refine of_held ?_)
  k_with "pyIter str" => (k_here; refine of_held ?_)
  k_with "exec For Name Name cons nil" => (k_here; (rename Fr _ _ _ _ => lF'); (with_unfolding_all refine' For_invVF lF' (by exact rfl) (by exact rfl) ?_; k_whole))
  k_with "k_all" => exact fun p hp => Nat.ne_of_lt (ktn_ltOf (by first | assumption | exact allLt_of (by assumption) | exact And.right (by assumption) | exact And.right (And.right (by assumption)) | exact And.right (And.right (And.right (by assumption))) | exact And.right (And.right (And.right (And.right (by assumption)))) | exact And.right (And.right (And.right (And.right (And.right (by assumption)))))) p hp)
  k_with "call builtin:str.find" => (k_here; (refine SC.find ?_); (rw [find_fig _ (by assumption)]))
  unfold Ct
  k_fill
  intro dp un gd cn cs a ccd cl outer A₀ base h₀ L m news s Q E B F X N T hk hP hd hu hret
  refine wpAny_call ?_
  w_top off
  k_dflt cell_enter
  k_steps
  unfold Held
  rename Fr _ _ _ _ => lF'
  rename News _ _ _ _ => lN'
  with_unfolding_all refine' KStt.kst_text (σ := LwSt) (fun c => _) (fun c => [(Str.ofString "found", .int c.f c.t)]) (fun _ => True) [Str.ofString "value"] (fun pre c => c.f = worth r pre) ⟨0, _⟩ (by rfl) lF' lN' True.intro ?kk ?kp ?turn ?done
  case kk => kst_all
  case kp => exact (worth_nil r).symm
  case turn =>
    clear lF' lN'
    rintro ⟨f, t⟩ pre post n tn u1 h1' tk1 own hcs hoff hT hP F1 N1
    dsimp only [kstB] at *
    obtain ⟨hv0, hv1⟩ := hv (n : Int) (by rw [hcs]; simp)
    try k_fold
    k_steps
    all_goals ((rename News _ _ _ _ => nE'); (refine kst_end ⟨_, _⟩ (by assumption) nE' (fun p hp => List.mem_append.mpr (.inl hp)) (fun p hp => List.mem_append.mpr (.inr hp)) rfl True.intro (by kst_all) (by kst_same) ?_); (show f * r + valC (n : Int) = worth r (pre ++ [(n : Int)])); rw [worth_snoc, ← hP])
  case done =>
    clear lF' lN'
    rintro ⟨f, t⟩ u1 h1' tk1 hT hP F1 N1
    dsimp only [kstB] at *
    try k_fold
    k_steps
    all_goals exact retI hret (by assumption) (by assumption) hP

end

section
open PySem.Builtin.Int (intBits)
def CutB (h₀ : Heap) (L : Addr) (m : Str → Option Value) (news : List (Addr × Obj)) (s : Shared) (r b : Bool) (s₂ : Shared) : Prop :=
  b = r ∧ ∃ (h : Heap) (tk : Nat), s₂ = { s with heap := h, toks := tk } ∧ Fr h₀ L h m ∧ News h₀ L h news
theorem cutB {M : Model} {A : Around} {E : Value → Shared → Prop} {Q : Bool → Shared → Prop} {s : Shared} {h₀ : Heap} {L : Addr} {m : Str → Option Value} {news : List (Addr × Obj)} {c : Sem Bool} (r : Bool)
    (F : Fr h₀ L s.heap m) (N : News h₀ L s.heap news) (hc : KPfMark → wpAny M A c (fun b s₂ => CutB h₀ L m news s r b s₂) E s)
    (hk : ∀ (h : Heap) (tk : Nat), Fr h₀ L h m → News h₀ L h news → Q r { s with heap := h, toks := tk }) : wpAny M A c Q E s := by
  refine wpAny_mono (hc True.intro) (fun b s₂ hq => ?_) fun _ _ h => h
  obtain ⟨rfl, h, tk, rfl, F', N'⟩ := hq
  exact hk h tk F' N'
theorem cutB_end {h₀ h : Heap} {L : Addr} {m : Str → Option Value} {news news' : List (Addr × Obj)} {s : Shared} {r b : Bool} {tk : Nat} (e : b = r) (F : Fr h₀ L h m) (N : News h₀ L h news') (hs : ∀ p ∈ news, p ∈ news') : CutB h₀ L m news s r b { s with heap := h, toks := tk } :=
  ⟨e, h, tk, rfl, F, fun p hp => N p (hs p hp)⟩
theorem fx_c1 {a b : Bool} (h : a = b) (h2 : (a != b) = true) : true = false := by subst h; simp at h2
theorem fx_c2 {i : Bool} {W Z : Str} (h : i = false ∨ (W == Z) = true) (h1 : i = true) (h2 : (W != Z) = true) : true = false := by
  rcases h with h | h
  · rw [h1] at h; exact h
  · rw [bne, h] at h2; exact absurd h2 (by decide)
theorem fx_c3 {i : Bool} {W Z : Str} (h : (W == Z) = true ∨ i = false) (h1 : i = true) (h2 : (W != Z) = true) : true = false := by
  rcases h with h | h
  · rw [bne, h] at h2; exact absurd h2 (by decide)
  · rw [h1] at h; exact h
section
variable {prog : Program} {w : World} {A : Around} {E : Value → Shared → Prop} {s : Shared} {a b : Addr} {ys : List Value} {ds : List PyData} {Q : Value → Shared → Prop}
theorem ne_nil_nil (ha : s.heap.IsList a ys.toArray) (hc : CarriedAll ys ds) (hds : ds = []) (hb : s.heap.IsList b ([] : List Value).toArray) (hu : A.units + 64 < cLine) (h : Q (.bool false) s) :
    wpAny (model prog w) A (compareOp .NotEq (.ref a) (.ref b)) Q E s := by
  subst hds
  refine ne_dataH (reads_newData ha hc) (reads_newData hb .nil) (by rfl) (by rfl) hu ?_
  exact h
end
end

section
open PySem.Builtin.Int (intBits)
variable {w : World} {mean : ExcName → Option Value} {mg mb : Str → Option Value}
















set_option maxHeartbeats 4000000 in
theorem ct_law_is_fixed (x W P R : Str) (b pl q : Int) (t1 t2 t3 : Tok) (h0 : 0 ≤ b) (h1 : b < 2 ^ 63) (hp0 : 0 ≤ pl) (hp : pl ≤ 20) (hx : x.length ≤ 640) (hsm : ¬ bot b * 10 ^ Int.toNat 21 ≤ top b)
    (e1 : (Txt.partition x (Str.ofString ".")).1 = W) (e2 : (Txt.partition x (Str.ofString ".")).2.1 = P) (e3 : (Txt.partition x (Str.ofString ".")).2.2 = R) (hR : (R.length : Int) = pl) (hPP : (P == Str.ofString "") = (pl == 0)) (hW1 : (W == Str.ofString "") = false) (hWl : 1 ≤ W.length ∧ W.length ≤ 600)
    (hW0 : (Txt.item W 0 == Str.ofString "0") = false ∨ (W == Str.ofString "0") = true)
    (hfil : List.filter (fun a => !!(Builtin.Str.occurrences (Str.ofString "0123456789") a 0 (Str.ofString "0123456789").length 1).isEmpty) (signs (W ++ R)) = [])
    (hq : PySem.intText? (W ++ R) = some q) (hqb : intBits q ≤ 2000) (hlo : 0 - bot b < 2 * q * bot b - 2 * top b * 10 ^ pl.toNat) (hhi : 2 * q * bot b - 2 * top b * 10 ^ pl.toNat ≤ bot b) : Ct w mean mg mb 220 7 [.str x t1, .int b t2, .int pl t3] P0 (OB true) := by
  k_with_none
  k_with "call type:str" => (k_here; (with_reducible show wpAny _ _ (call (Value.type "str") [Value.int _ _]) _ _ _); (refine' str_of_bits (by omega) (by bits_by_make) (by decide) ?_; k_whole; intro hL'))
  k_with "binaryOp FloorDiv int int" => (k_here; (refine' fdiv_bits (by first | assumption | omega | decide | exact two_pow_pos _) (by bits_by_make) (by decide) ?_; k_whole))
  k_with "binaryOp Mod int int" => (k_here; (refine' mod_bits (by first | assumption | omega | decide | exact two_pow_pos _) ?_; k_whole))
  k_with "binaryOp RShift int int" => (k_here; first | (with_reducible refine rsh52 ?_) | (with_reducible refine rsh63 ?_))
  k_with "binaryOp Pow int int" => (k_here; first | (with_reducible refine pow2_52 ?_) | (with_reducible refine pow2_63 ?_) | (with_reducible refine pow2_45 ?_))
  k_with "call ref" => (k_here; k_dflt (refine' ct_useB (ct_is_negative _ _ ?_ ?_) (by k_asm) (by k_asm) (by k_asm) (by k_asm) (by k_asm) (by first | exact rfl | assumption) (by trivial) (by ktr_room) (by ktr_units) ?_; (next => omega); (next => omega); k_whole; intro h' tk' F' N'; (try dsimp only); (try k_fold); (try k_sweep)))
  k_with "call ref" => (k_here; k_dflt (refine' ct_useB (ct_is_nan _ _ ?_ ?_) (by k_asm) (by k_asm) (by k_asm) (by k_asm) (by k_asm) (by first | exact rfl | assumption) (by trivial) (by ktr_room) (by ktr_units) ?_; (next => omega); (next => omega); k_whole; intro h' tk' F' N'; (try dsimp only); (try k_fold); (try k_sweep)))
  k_with "call ref" => (k_here; k_dflt (refine' ct_useB (ct_is_inf _ _ ?_ ?_) (by k_asm) (by k_asm) (by k_asm) (by k_asm) (by k_asm) (by first | exact rfl | assumption) (by trivial) (by ktr_room) (by ktr_units) ?_; (next => omega); (next => omega); k_whole; intro h' tk' F' N'; (try dsimp only); (try k_fold); (try k_sweep)))
  k_with "call ref" => (k_here; k_dflt (refine' ct_useB (ct_is_zero _ _ ?_ ?_) (by k_asm) (by k_asm) (by k_asm) (by k_asm) (by k_asm) (by first | exact rfl | assumption) (by trivial) (by ktr_room) (by ktr_units) ?_; (next => omega); (next => omega); k_whole; intro h' tk' F' N'; (try dsimp only); (try k_fold); (try k_sweep)))
  k_with "call ref" => (k_here; k_dflt (refine' ct_useT3 (ct_parts _ _ ?_ ?_) (by k_asm) (by k_asm) (by k_asm) (by k_asm) (by k_asm) (by first | exact rfl | assumption) (by trivial) (by ktr_room) (by ktr_units) ?_; (next => omega); (next => omega); k_whole; intro D' t1' t2' t3' h' tk' F' N' l1'; (try dsimp only); (try simp only [AllLt, and_true] at l1'); (try k_fold); (try k_sweep)))
  k_with "call ref" => (k_here; k_dflt (refine' ct_useT2 (ct_exact _ _ ?_ ?_) (by k_asm) (by k_asm) (by k_asm) (by k_asm) (by k_asm) (by first | exact rfl | assumption) (by trivial) (by ktr_room) (by ktr_units) ?_; (next => omega); (next => omega); k_whole; intro D' t1' t2' h' tk' F' N' l1'; (try dsimp only); (try simp only [AllLt, and_true] at l1'); (try k_fold); (try k_sweep)))
  k_with "call ref" => (k_here; k_dflt (refine' ct_useI (ct_half_up _ _ _ _ ?_ ?_) (by k_asm) (by k_asm) (by k_asm) (by k_asm) (by k_asm) (by first | exact rfl | assumption) (by trivial) (by ktr_room) (by ktr_units) ?_; (next => exact Nat.le_trans (by bits_by_make) (by decide)); (next => omega); k_whole; intro t' h' tk' F' N'; (try dsimp only); (try k_fold); (try k_sweep)))
  k_with "call ref" => (k_here; k_dflt (refine' ct_useI (ct_decimal_place _ _ _ _ ?_ ?_ ?_ ?_) (by k_asm) (by k_asm) (by k_asm) (by k_asm) (by k_asm) (by first | exact rfl | assumption) (by trivial) (by ktr_room) (by ktr_units) ?_; (next => omega); (next => exact Nat.le_trans (by bits_by_make) (by decide)); (next => omega); (next => exact Nat.le_trans (by bits_by_make) (by decide)); k_whole; intro t' h' tk' F' N'; (try dsimp only); (try k_fold); (try k_sweep)))
  k_with "call ref" => (k_here; k_dflt (refine' ct_useI (ct_last_figure _ _ _ _ _ _ _ _ ) (by k_asm) (by k_asm) (by k_asm) (by k_asm) (by k_asm) (by first | exact rfl | assumption) (by trivial) (by ktr_room) (by ktr_units) ?_; k_whole; intro t' h' tk' F' N'; (try dsimp only); (try k_fold); (try k_sweep)))
  k_with "call ref" => (k_here; k_dflt (refine' ct_useS (ct_signed_exponent _ _ ?_ ?_) (by k_asm) (by k_asm) (by k_asm) (by k_asm) (by k_asm) (by first | exact rfl | assumption) (by trivial) (by ktr_room) (by ktr_units) ?_; (next => omega); (next => omega); k_whole; intro t' h' tk' F' N'; (try dsimp only); (try k_fold); (try k_sweep)))
  k_with "call ref" => (k_here; k_dflt (refine' ct_useN (ct_without_figures _ _ ?_ ?_ ?_) (by k_asm) (by k_asm) (by k_asm) (by k_asm) (by k_asm) (by first | exact rfl | assumption) (by trivial) (by ktr_room) (by ktr_units) ?_; (next => omega); (next => omega); (next => omega); k_whole; intro h' tk' F' N'; (try dsimp only); (try k_fold); (try k_sweep)))
  k_with "call ref" => (k_here; k_dflt (refine' ct_useT3 (ct_sign_and_ratio _ _ ?_ ?_ ?_) (by k_asm) (by k_asm) (by k_asm) (by k_asm) (by k_asm) (by first | exact rfl | assumption) (by trivial) (by ktr_room) (by ktr_units) ?_; (next => omega); (next => omega); (next => omega); k_whole; intro D' t1' t2' t3' h' tk' F' N' l1'; (try dsimp only); (try simp only [AllLt, and_true] at l1'); (try k_fold); (try k_sweep)))
  k_with "call ref" => (k_here; k_dflt (refine' ct_useI (ct_first_place _ _ _ _ _ _ _ ?_ ?_ ?_ ?_ ?_) (by k_asm) (by k_asm) (by k_asm) (by k_asm) (by k_asm) (by first | exact rfl | assumption) (by trivial) (by ktr_room) (by ktr_units) ?_; (next => omega); (next => exact Nat.le_trans (by bits_by_make) (by decide)); (next => omega); (next => exact Nat.le_trans (by bits_by_make) (by decide)); (next => exact Nat.le_trans (by bits_by_make) (by decide)); k_whole; intro t' h' tk' F' N'; (try dsimp only); (try k_fold); (try k_sweep)))
  k_with "call ref" => (k_here; k_dflt (refine' ct_useS (ct_with_exponent _ _ _ _ ?_ ?_ ?_) (by k_asm) (by k_asm) (by k_asm) (by k_asm) (by k_asm) (by first | exact rfl | assumption) (by trivial) (by ktr_room) (by ktr_units) ?_; (next => omega); (next => omega); (next => omega); k_whole; intro t' h' tk' F' N'; (try dsimp only); (try k_fold); (try k_sweep)))
  k_with "call ref" => (k_here; k_dflt (refine' ct_useS (ct_laid_out _ _ _ _ ?_ ?_ ?_) (by k_asm) (by k_asm) (by k_asm) (by k_asm) (by k_asm) (by first | exact rfl | assumption) (by trivial) (by ktr_room) (by ktr_units) ?_; (next => omega); (next => omega); (next => omega); k_whole; intro t' h' tk' F' N'; (try dsimp only); (try k_fold); (try k_sweep)))
  k_with "call ref" => (k_here; k_dflt (refine' ct_useT2 (ct_law_ratio _ _ ?_ ?_) (by k_asm) (by k_asm) (by k_asm) (by k_asm) (by k_asm) (by first | exact rfl | assumption) (by trivial) (by ktr_room) (by ktr_units) ?_; (next => omega); (next => omega); k_whole; intro D' t1' t2' h' tk' F' N' l1'; (try dsimp only); (try simp only [AllLt, and_true] at l1'); (try k_fold); (try k_sweep)))
  k_with "exec While" => (k_here; refine of_held ?_)
  k_with "k_all" => exact fun p hp => Nat.ne_of_lt (ktn_ltOf (by first | assumption | exact allLt_of (by assumption) | exact And.right (by assumption) | exact And.right (And.right (by assumption)) | exact And.right (And.right (And.right (by assumption))) | exact And.right (And.right (And.right (And.right (by assumption)))) | exact And.right (And.right (And.right (And.right (And.right (by assumption)))))) p hp)
  k_with "binaryOp Mult int int" => (k_here; (focus ((with_reducible refine mul_int ?_ ?_); rotate_left; (next => first | exact PySem.IntMulOk.of_right (by decide) | exact PySem.IntMulOk.of_left (by decide) | exact mulOk_of_bits (by bits_by_make) (by bits_by_make) (by decide)))))
  k_with "binaryOp Pow int int" => (k_here; (focus ((with_reducible refine pow_int_small ?_ ?_ ?_ ?_); (next => omega); (next => omega); (next => decide))))
  k_with "execs cons" => (k_here; dsimp only; k_gentoks)
  k_with "execs nil" => (k_here; dsimp only; k_gentoks)
  k_with "eval Compare" => (k_here; (fail_if_success (rename KPfMark => hNoMark')); (with_reducible show wpAny _ _ (eval (PySem.Expr.Compare _ [_, _] _ _) _) _ _ _); refine of_held ?_)
  k_with "call builtin:str.partition" => (k_here; (refine KXpa.partition (by k_asm) (by k_asm) (by decide) (by assumption) (by assumption) (by assumption) (by size_fits) ?_); intro D' ta' tb' tc' h' k' F' N' l1; (try k_lt l1))
  k_with "isTrue BoolOp" => (k_here; (fail_if_success (rename KPfMark => hNoMark')); refine of_held ?_)
  k_with "compareOp NotEq ref ref" => (k_here; (refine ne_nil_nil (by is_list) (by assumption) (congrArg (List.map _) (by assumption)) (by is_list) (by ktr_units) ?_))
  k_with "call type:int" => (k_here; (with_reducible show wpAny _ _ (call (Value.type "int") [Value.str _ _]) _ _ _); (refine KIN.call_text (by assumption) (by omega) ?_))
  unfold Ct
  k_fill
  intro dp un gd cn cs a ccd cl outer A₀ base h₀ L m news s Q E B F X N T hk hP hd hu hret
  have hb1 := bot_pos b
  have hb2 := bot_bits b
  have ht1 := top_nonneg b
  have ht2 := top_bits b
  refine wpAny_call ?_
  w_top off
  k_dflt cell_enter
  k_steps
  unfold Held
  rename Fr _ _ _ _ => cF1
  rename News _ _ _ _ => cN1
  refine cutB false cF1 cN1 (fun hMark' => ?_) ?_
  · clear hlo hhi hqb
    try k_fold
    k_steps
    all_goals (refine cutB_end ?_ (by assumption) (by assumption) (fun _ h => h))
    all_goals first | rfl | (exfalso; omega) | exact fx_c1 hPP (by assumption) | exact fx_c2 hW0 (by assumption) (by assumption)
  · intro h9 tk9 F9 N9
    clear cF1 cN1
    try dsimp only
    try k_fold
    k_steps
  
    unfold Held
    have hMark9 : KPfMark := True.intro
    generalize 2 * q * bot b - 2 * top b * 10 ^ pl.toNat = off at *
    k_steps
    all_goals exact retB hret (by assumption) (cb_drop (by assumption) (by kcj_all)) (decide_eq_true (by assumption))

end

section
open PySem.Builtin.Int (intBits)
theorem rfGo_len (u r : Int) : ∀ (k : Nat) (x g : Int), (rfGo u r k x g).1.length ≤ k
  | 0, _, _ => Nat.le_refl _
  | k + 1, x, g => by
    have ih := rfGo_len u r k (x * r % u) (g * r)
    show (if x < g then _ else _ : List Int × Bool).1.length ≤ k + 1
    (repeat' split) <;> simp <;> omega
theorem carrRev_len (r : Int) : ∀ ns : List Int, (carrRev r ns).1.length ≤ ns.length
  | [] => Nat.le_refl _
  | d :: t => by
    have ih := carrRev_len r t
    show (if d = r - 1 then _ else _ : List Int × Int).1.length ≤ t.length + 1
    split
    · exact Nat.le_trans ih (Nat.le_succ _)
    · exact Nat.le_refl _
theorem carrRev_c (r : Int) : ∀ ns : List Int, (carrRev r ns).2 = 0 ∨ (carrRev r ns).2 = 1
  | [] => .inr rfl
  | d :: t => by
    have ih := carrRev_c r t
    show (if d = r - 1 then _ else _ : List Int × Int).2 = 0 ∨ (if d = r - 1 then _ else _ : List Int × Int).2 = 1
    split
    · exact ih
    · exact .inl rfl
theorem rfR_len (x u r : Int) : (rfR x u r).1.length ≤ 1100 := by
  have h := rfGo_len u r 1100 x 1
  unfold rfR
  split
  · unfold carr
    have h2 := carrRev_len r (rfGo u r 1100 x 1).1.reverse
    simp only [List.length_reverse] at *
    omega
  · exact h
theorem rfR_c (x u r : Int) : 0 ≤ (rfR x u r).2 ∧ (rfR x u r).2 ≤ 1 := by
  unfold rfR
  split
  · unfold carr
    have h2 := carrRev_c r (rfGo u r 1100 x 1).1.reverse
    dsimp only
    omega
  · exact ⟨Int.le_refl 0, (show (0 : Int) ≤ 1 by decide)⟩
theorem rfGo_dig {u r : Int} (hu : 0 < u) (hr : 0 < r) : ∀ (k : Nat) (x g : Int), 0 ≤ x → x < u → ∀ d ∈ (rfGo u r k x g).1, 0 ≤ d ∧ d < r
  | 0, _, _, _, _ => fun d hd => nomatch hd
  | k + 1, x, g, h0, h1 => by
    have hq : 0 ≤ x * r / u ∧ x * r / u < r := by
      refine ⟨Int.ediv_nonneg (Int.mul_nonneg h0 (by omega)) (by omega), Int.ediv_lt_of_lt_mul hu ?_⟩
      rw [Int.mul_comm r u]
      exact Int.mul_lt_mul_of_pos_right h1 hr
    have ih := rfGo_dig hu hr k (x * r % u) (g * r) (Int.emod_nonneg _ (by omega)) (Int.emod_lt_of_pos _ hu)
    intro d hd
    have e : (rfGo u r (k + 1) x g).1 = (if x < g then ([], false) else if upB (x * r % u) u (x * r / u) = true ∧ u < x * r % u + g * r then ([x * r / u], true) else (x * r / u :: (rfGo u r k (x * r % u) (g * r)).1, (rfGo u r k (x * r % u) (g * r)).2) : List Int × Bool).1 := rfl
    rw [e] at hd
    split at hd
    · exact nomatch hd
    · split at hd
      · rw [List.mem_singleton.mp hd]; exact hq
      · rcases List.mem_cons.mp hd with rfl | hd
        · exact hq
        · exact ih d hd
theorem carrRev_dig {r : Int} (hr : 0 < r) : ∀ ns : List Int, (∀ d ∈ ns, 0 ≤ d ∧ d < r) → ∀ d ∈ (carrRev r ns).1, 0 ≤ d ∧ d < r
  | [], _ => fun d hd => nomatch hd
  | c :: t, h => by
    have ih := carrRev_dig hr t (fun d hd => h d (.tail _ hd))
    have hc := h c (.head _)
    intro d hd
    have e : (carrRev r (c :: t)).1 = (if c = r - 1 then carrRev r t else ((c + 1) :: t, 0) : List Int × Int).1 := rfl
    rw [e] at hd
    split at hd
    · exact ih d hd
    · rcases List.mem_cons.mp hd with rfl | hd
      · omega
      · exact h d (.tail _ hd)
theorem rfR_dig {x u r : Int} (h0 : 0 ≤ x) (h1 : x < u) (hr : 0 < r) : ∀ d ∈ (rfR x u r).1, 0 ≤ d ∧ d < r := by
  have h := rfGo_dig (u := u) (by omega) hr 1100 x 1 h0 h1
  unfold rfR
  split
  · unfold carr
    intro d hd
    exact carrRev_dig hr _ (fun d hd => h d (List.mem_reverse.mp hd)) d (List.mem_reverse.mp hd)
  · exact h
theorem wfD_len {n r : Int} : (wfD n r).length ≤ 1101 := by
  have k : ∀ (j : Nat) (m : Int), (digs r j m).length ≤ j := by
    intro j
    induction j with
    | zero => intro m; exact Nat.le_refl _
    | succ j ih =>
      intro m
      show (if m ≤ 0 then [] else m % r :: digs r j (m / r)).length ≤ j + 1
      split
      · exact Nat.zero_le _
      · have := ih (m / r)
        simp only [List.length_cons]
        omega
  unfold wfD
  split
  · decide
  · exact k 1101 n
theorem wfS_len {n r : Int} : (wfS n r).length ≤ 1101 := by
  unfold wfS
  rw [join_nil_len, List.map_reverse, List.sum_reverse]
  exact Nat.le_trans (figs_sum _) wfD_len
@[irreducible] def uB (b : Int) : Int := 2 ^ (0 - pw b).toNat
@[irreducible] def rrB (b r : Int) : List Int × Int := rfR (2 * (mant b % uB b)) (2 * uB b) r
@[irreducible] def trS (b r : Int) : Str :=
  if 0 ≤ pw b then sgS b ++ wfS (top b) r
  else if (rrB b r).1.length = 0 then sgS b ++ wfS (mant b / uB b + (rrB b r).2) r
  else sgS b ++ wfS (mant b / uB b + (rrB b r).2) r ++ Str.ofString "." ++ Txt.join (Str.ofString "") ((rrB b r).1.map figS)
theorem uB_pos (b : Int) : 0 < uB b := by unfold uB; exact two_pow_pos _
theorem uB_lt {b : Int} (h : -130 ≤ pw b) : uB b < 2 ^ 140 := by
  have h2 : (0 - pw b).toNat ≤ 130 := by omega
  have := Nat.pow_le_pow_right (n := 2) (by decide) h2
  have e : (2 : Int) ^ (0 - pw b).toNat ≤ 2 ^ 130 := by exact_mod_cast this
  unfold uB
  exact Int.lt_of_le_of_lt e (by decide)

section
variable {prog : Program} {w : World} {A : Around} {E : Value → Shared → Prop} {s : Shared} {b : Int} {t u : Tok} {Q : Value → Shared → Prop}
theorem lsh_uB (h1 : -1100 ≤ pw b) (h2 : pw b ≤ 0) (h : Q (.int (uB b) s.toks) { s with toks := s.toks + 1 }) : wpAny (model prog w) A (binaryOp .LShift (.int 1 t) (.int (0 - pw b) u)) Q E s := by
  refine lshift_int_small (by omega) (by omega) (by decide) ?_
  have e : (1 : Int) * 2 ^ (0 - pw b).toNat = uB b := by unfold uB; rw [Int.one_mul]
  rw [e]
  exact h
theorem lsh_top (h1 : 0 ≤ pw b) (h : Q (.int (top b) s.toks) { s with toks := s.toks + 1 }) : wpAny (model prog w) A (binaryOp .LShift (.int (mant b) t) (.int (pw b) u)) Q E s := by
  have hm := mant_bd b
  have hp := pw_bd b
  refine lshift_int_small h1 (by omega) (by omega) ?_
  have e : mant b * 2 ^ (pw b).toNat = top b := by unfold top; rw [if_pos h1]
  rw [e]
  exact h
end
theorem int_lt_of_bits {x : Int} {n k : Nat} (h : intBits x ≤ n) (hn : n ≤ k) : x < 2 ^ k := by
  have h1 := lt_pow_of_bits h hn
  have e : (2 : Int) ^ k = ((2 ^ k : Nat) : Int) := (kbt_cast k).symm
  rw [e]
  omega
theorem top_lt (b : Int) : top b < 2 ^ 1101 := int_lt_of_bits (top_bits b) (by decide)
theorem whole_nn {b r : Int} : 0 ≤ mant b / uB b + (rrB b r).2 := by
  have h1 := Int.ediv_nonneg (mant_bd b).1 (Int.le_of_lt (uB_pos b))
  have h2 : 0 ≤ (rrB b r).2 := by unfold rrB; exact (rfR_c _ _ _).1
  omega
theorem whole_lt {b r : Int} : mant b / uB b + (rrB b r).2 < 2 ^ 1101 := by
  have h1 : mant b / uB b ≤ mant b := Int.ediv_le_self _ (mant_bd b).1
  have h2 : (rrB b r).2 ≤ 1 := by unfold rrB; exact (rfR_c _ _ _).2
  have h3 := (mant_bd b).2
  have h4 : mant b / uB b + (rrB b r).2 < 2 ^ 54 := by omega
  exact Int.lt_of_lt_of_le h4 (by decide +kernel)
theorem rest_nn {b : Int} : 0 ≤ 2 * (mant b % uB b) := by
  have := Int.emod_nonneg (mant b) (show uB b ≠ 0 by have := uB_pos b; omega)
  omega
theorem rest_lt {b : Int} : 2 * (mant b % uB b) < 2 * uB b := by
  have := Int.emod_lt_of_pos (mant b) (uB_pos b)
  omega
theorem unit2_lt {b : Int} (h : -130 ≤ pw b) : 2 * uB b < 2 ^ 1100 := by
  have h1 := uB_lt h
  have h4 : 2 * uB b < 2 ^ 141 := by omega
  exact Int.lt_of_lt_of_le h4 (by decide +kernel)
theorem sg_1 {b : Int} (h : b / 2 ^ 63 = 1) : sgS b = Str.ofString "-" := by unfold sgS; rw [if_pos h]
theorem sg_2 {b : Int} (h : ¬ b / 2 ^ 63 = 1) : sgS b = Str.ofString "" := by unfold sgS; rw [if_neg h]
theorem uB_bits {b : Int} (h : -130 ≤ pw b) : intBits (uB b) ≤ 140 := bits_of_lt (Int.le_of_lt (uB_pos b)) (uB_lt h)

theorem ct_rest2 {w : World} {mean : ExcName → Option Value} {mg mb : Str → Option Value} (b r : Int) (t1 t2 t3 : Tok) (h2 : 2 ≤ r) (h3 : r ≤ 36) (hp : -130 ≤ pw b) :
    Ct w mean mg mb 161 2 [.int (2 * (mant b % uB b)) t1, .int (2 * uB b) t2, .int r t3] P0 (OTL (rrB b r).1 (rrB b r).2) := by
  have h := ct_rest_figures (w := w) (mean := mean) (mg := mg) (mb := mb) (2 * (mant b % uB b)) (2 * uB b) r t1 t2 t3 rest_nn rest_lt (unit2_lt hp) h2 h3
  unfold rrB
  exact h
end

section
open PySem.Builtin.Int (intBits)
variable {w : World} {mean : ExcName → Option Value} {mg mb : Str → Option Value}

















set_option maxHeartbeats 4000000 in
theorem ct_to_radix (b r : Int) (t u : Tok) (h0 : 0 ≤ b) (h1 : b < 2 ^ 64) (hf : b % 2 ^ 63 < 2047 * 2 ^ 52) (hz : b % 2 ^ 63 ≠ 0) (hr0 : 2 ≤ r) (hr1 : r ≤ 36) (hp0 : -130 ≤ pw b) (hp1 : pw b ≤ 50) : Ct w mean mg mb 173 6 [.int b t, .int r u] P0 (OS (trS b r)) := by
  k_with_none
  k_with "call type:str" => (k_here; (with_reducible show wpAny _ _ (call (Value.type "str") [Value.int _ _]) _ _ _); (refine' str_of_bits (by omega) (by bits_by_make) (by decide) ?_; k_whole; intro hL'))
  k_with "binaryOp FloorDiv int int" => (k_here; (refine' fdiv_bits (by first | assumption | omega | decide | exact two_pow_pos _) (by bits_by_make) (by decide) ?_; k_whole))
  k_with "binaryOp Mod int int" => (k_here; (refine' mod_bits (by first | assumption | omega | decide | exact two_pow_pos _) ?_; k_whole))
  k_with "binaryOp RShift int int" => (k_here; first | (with_reducible refine rsh52 ?_) | (with_reducible refine rsh63 ?_))
  k_with "binaryOp Pow int int" => (k_here; first | (with_reducible refine pow2_52 ?_) | (with_reducible refine pow2_63 ?_) | (with_reducible refine pow2_45 ?_))
  k_with "call ref" => (k_here; k_dflt (refine' ct_useB (ct_is_negative _ _ ?_ ?_) (by k_asm) (by k_asm) (by k_asm) (by k_asm) (by k_asm) (by first | exact rfl | assumption) (by trivial) (by ktr_room) (by ktr_units) ?_; (next => omega); (next => omega); k_whole; intro h' tk' F' N'; (try dsimp only); (try k_fold); (try k_sweep)))
  k_with "call ref" => (k_here; k_dflt (refine' ct_useB (ct_is_nan _ _ ?_ ?_) (by k_asm) (by k_asm) (by k_asm) (by k_asm) (by k_asm) (by first | exact rfl | assumption) (by trivial) (by ktr_room) (by ktr_units) ?_; (next => omega); (next => omega); k_whole; intro h' tk' F' N'; (try dsimp only); (try k_fold); (try k_sweep)))
  k_with "call ref" => (k_here; k_dflt (refine' ct_useB (ct_is_inf _ _ ?_ ?_) (by k_asm) (by k_asm) (by k_asm) (by k_asm) (by k_asm) (by first | exact rfl | assumption) (by trivial) (by ktr_room) (by ktr_units) ?_; (next => omega); (next => omega); k_whole; intro h' tk' F' N'; (try dsimp only); (try k_fold); (try k_sweep)))
  k_with "call ref" => (k_here; k_dflt (refine' ct_useB (ct_is_zero _ _ ?_ ?_) (by k_asm) (by k_asm) (by k_asm) (by k_asm) (by k_asm) (by first | exact rfl | assumption) (by trivial) (by ktr_room) (by ktr_units) ?_; (next => omega); (next => omega); k_whole; intro h' tk' F' N'; (try dsimp only); (try k_fold); (try k_sweep)))
  k_with "call ref" => (k_here; k_dflt (refine' ct_useT3 (ct_parts _ _ ?_ ?_) (by k_asm) (by k_asm) (by k_asm) (by k_asm) (by k_asm) (by first | exact rfl | assumption) (by trivial) (by ktr_room) (by ktr_units) ?_; (next => omega); (next => omega); k_whole; intro D' t1' t2' t3' h' tk' F' N' l1'; (try dsimp only); (try simp only [AllLt, and_true] at l1'); (try k_fold); (try k_sweep)))
  k_with "call ref" => (k_here; k_dflt (refine' ct_useT2 (ct_exact _ _ ?_ ?_) (by k_asm) (by k_asm) (by k_asm) (by k_asm) (by k_asm) (by first | exact rfl | assumption) (by trivial) (by ktr_room) (by ktr_units) ?_; (next => omega); (next => omega); k_whole; intro D' t1' t2' h' tk' F' N' l1'; (try dsimp only); (try simp only [AllLt, and_true] at l1'); (try k_fold); (try k_sweep)))
  k_with "call ref" => (k_here; k_dflt (refine' ct_useI (ct_half_up _ _ _ _ ?_ ?_) (by k_asm) (by k_asm) (by k_asm) (by k_asm) (by k_asm) (by first | exact rfl | assumption) (by trivial) (by ktr_room) (by ktr_units) ?_; (next => exact Nat.le_trans (by bits_by_make) (by decide)); (next => omega); k_whole; intro t' h' tk' F' N'; (try dsimp only); (try k_fold); (try k_sweep)))
  k_with "call ref" => (k_here; k_dflt (refine' ct_useI (ct_decimal_place _ _ _ _ ?_ ?_ ?_ ?_) (by k_asm) (by k_asm) (by k_asm) (by k_asm) (by k_asm) (by first | exact rfl | assumption) (by trivial) (by ktr_room) (by ktr_units) ?_; (next => omega); (next => exact Nat.le_trans (by bits_by_make) (by decide)); (next => omega); (next => exact Nat.le_trans (by bits_by_make) (by decide)); k_whole; intro t' h' tk' F' N'; (try dsimp only); (try k_fold); (try k_sweep)))
  k_with "call ref" => (k_here; k_dflt (refine' ct_useI (ct_last_figure _ _ _ _ _ _ _ _ ) (by k_asm) (by k_asm) (by k_asm) (by k_asm) (by k_asm) (by first | exact rfl | assumption) (by trivial) (by ktr_room) (by ktr_units) ?_; k_whole; intro t' h' tk' F' N'; (try dsimp only); (try k_fold); (try k_sweep)))
  k_with "call ref" => (k_here; k_dflt (refine' ct_useS (ct_signed_exponent _ _ ?_ ?_) (by k_asm) (by k_asm) (by k_asm) (by k_asm) (by k_asm) (by first | exact rfl | assumption) (by trivial) (by ktr_room) (by ktr_units) ?_; (next => omega); (next => omega); k_whole; intro t' h' tk' F' N'; (try dsimp only); (try k_fold); (try k_sweep)))
  k_with "call ref" => (k_here; k_dflt (refine' ct_useN (ct_without_figures _ _ ?_ ?_ ?_) (by k_asm) (by k_asm) (by k_asm) (by k_asm) (by k_asm) (by first | exact rfl | assumption) (by trivial) (by ktr_room) (by ktr_units) ?_; (next => omega); (next => omega); (next => omega); k_whole; intro h' tk' F' N'; (try dsimp only); (try k_fold); (try k_sweep)))
  k_with "call ref" => (k_here; k_dflt (refine' ct_useT3 (ct_sign_and_ratio _ _ ?_ ?_ ?_) (by k_asm) (by k_asm) (by k_asm) (by k_asm) (by k_asm) (by first | exact rfl | assumption) (by trivial) (by ktr_room) (by ktr_units) ?_; (next => omega); (next => omega); (next => omega); k_whole; intro D' t1' t2' t3' h' tk' F' N' l1'; (try dsimp only); (try simp only [AllLt, and_true] at l1'); (try k_fold); (try k_sweep)))
  k_with "call ref" => (k_here; k_dflt (refine' ct_useI (ct_first_place _ _ _ _ _ _ _ ?_ ?_ ?_ ?_ ?_) (by k_asm) (by k_asm) (by k_asm) (by k_asm) (by k_asm) (by first | exact rfl | assumption) (by trivial) (by ktr_room) (by ktr_units) ?_; (next => omega); (next => exact Nat.le_trans (by bits_by_make) (by decide)); (next => omega); (next => exact Nat.le_trans (by bits_by_make) (by decide)); (next => exact Nat.le_trans (by bits_by_make) (by decide)); k_whole; intro t' h' tk' F' N'; (try dsimp only); (try k_fold); (try k_sweep)))
  k_with "call ref" => (k_here; k_dflt (refine' ct_useS (ct_with_exponent _ _ _ _ ?_ ?_ ?_) (by k_asm) (by k_asm) (by k_asm) (by k_asm) (by k_asm) (by first | exact rfl | assumption) (by trivial) (by ktr_room) (by ktr_units) ?_; (next => omega); (next => omega); (next => omega); k_whole; intro t' h' tk' F' N'; (try dsimp only); (try k_fold); (try k_sweep)))
  k_with "call ref" => (k_here; k_dflt (refine' ct_useS (ct_laid_out _ _ _ _ ?_ ?_ ?_) (by k_asm) (by k_asm) (by k_asm) (by k_asm) (by k_asm) (by first | exact rfl | assumption) (by trivial) (by ktr_room) (by ktr_units) ?_; (next => omega); (next => omega); (next => omega); k_whole; intro t' h' tk' F' N'; (try dsimp only); (try k_fold); (try k_sweep)))
  k_with "call ref" => (k_here; k_dflt (refine' ct_useT2 (ct_law_ratio _ _ ?_ ?_) (by k_asm) (by k_asm) (by k_asm) (by k_asm) (by k_asm) (by first | exact rfl | assumption) (by trivial) (by ktr_room) (by ktr_units) ?_; (next => omega); (next => omega); k_whole; intro D' t1' t2' h' tk' F' N' l1'; (try dsimp only); (try simp only [AllLt, and_true] at l1'); (try k_fold); (try k_sweep)))
  k_with "binaryOp Mult int int" => (k_here; (focus ((with_reducible refine mul_int ?_ ?_); rotate_left; (next => first | exact PySem.IntMulOk.of_right (by decide) | exact PySem.IntMulOk.of_left (by decide) | exact mulOk_of_bits (by bits_by_make) (by bits_by_make) (by decide)))))
  k_with "binaryOp Pow int int" => (k_here; (focus ((with_reducible refine pow_int_small ?_ ?_ ?_ ?_); (next => omega); (next => omega); (next => decide))))
  k_with "execs cons" => (k_here; dsimp only; k_gentoks)
  k_with "execs nil" => (k_here; dsimp only; k_gentoks)
  k_with "subscriptTail Name Name str int" => (k_here; (focus ((with_reducible refine fig_item ?_ ?_ ?_); (next => omega); (next => omega))))
  k_with "subscriptTail" => (k_here; (with_reducible show wpAny _ _ (subscriptTail _ _ (Value.str _ _) (Value.int _ _)) _ _ _); (focus ((with_reducible refine fig_item ?_ ?_ ?_); (next => omega); (next => omega))))
  k_with "binaryOp LShift int int" => (k_here; first | (refine lsh_uB (by omega) (by omega) ?_) | (refine lsh_top (by omega) ?_))
  k_with "eval IfExp" => (k_here; (fail_if_success (rename KPfMark => hNoMark')); refine of_held ?_)
  k_with "KCj" => ((refine kcj_end ?_ (by with_unfolding_all rfl) rfl (by assumption) (by assumption) (by kcj_all)); (next => first | exact sg_1 (by assumption) | exact sg_2 (by assumption)))
  k_with "eval ListComp" => (k_here; refine of_held ?_)
  k_with "CompSrc" => (k_here; refine of_held ?_)
  k_with "KCtEl" => (refine kct_el rfl (by with_unfolding_all rfl) (by with_unfolding_all rfl))
  k_with "call builtin:str.join" => (k_here; (refine KT.join_B (g := figS) 1 (by is_list) (by assumption) (fun _ _ => figS_len) (by omega) (by decide) ?_); intro tJ' kJ')
  k_with "call ref" => (k_here; k_dflt (refine' ct_useL (ct_rest2 _ _ _ _ _ ?_ ?_ ?_) (by k_asm) (by k_asm) (by k_asm) (by k_asm) (by k_asm) (by first | exact rfl | assumption) (by trivial) (by ktr_room) (by ktr_units) ?_; (next => omega); (next => omega); (next => assumption); k_whole; intro D' l' its' n' t' h' tk' F' N' hI' l1' l2' l3'; (try dsimp only); (try simp only [AllLt, and_true] at l1'); (try simp only [AllLt, and_true] at l2'); (try k_fold); (try k_sweep)))
  k_with "call ref" => (k_here; k_dflt (refine' ct_useS (ct_whole_figures _ _ _ _ ?_ ?_ ?_ ?_) (by k_asm) (by k_asm) (by k_asm) (by k_asm) (by k_asm) (by first | exact rfl | assumption) (by trivial) (by ktr_room) (by ktr_units) ?_; (next => first | assumption | omega); (next => first | assumption | omega); (next => omega); (next => omega); k_whole; intro t' h' tk' F' N'; (try dsimp only); (try k_fold); (try k_sweep)))
  unfold Ct
  k_fill
  intro dp un gd cn cs a ccd cl outer A₀ base h₀ L m news s Q E B F X N T hk hP hd hu hret
  have hm0 := mant_bd b
  have hm2 := mant_bits b
  have z1 := uB_pos b
  have z2 := uB_bits hp0
  have z3 := top_nonneg b
  have z4 := top_lt b
  have z5 := whole_nn (b := b) (r := r)
  have z6 := whole_lt (b := b) (r := r)
  have z7 := rest_nn (b := b)
  have z8 := rest_lt (b := b)
  have z9 := unit2_lt hp0
  have hRR : rfR (2 * (mant b % uB b)) (2 * uB b) r = rrB b r := by unfold rrB; rfl
  have z10 : (rrB b r).1.length ≤ 1100 := by rw [← hRR]; exact rfR_len _ _ _
  have z11 := sgS_len (b := b)
  have z12 := wfS_len (n := top b) (r := r)
  have z13 := wfS_len (n := mant b / uB b + (rrB b r).2) (r := r)
  have hdig : ∀ d ∈ (rrB b r).1, 0 ≤ d ∧ d < r := by rw [← hRR]; exact rfR_dig z7 z8 (by omega)
  clear hRR
  have z14 : (Txt.join (Str.ofString "") ((rrB b r).1.map figS)).length ≤ 1100 := by rw [join_nil_len]; exact Nat.le_trans (figs_sum _) z10
  refine wpAny_call ?_
  w_top off
  k_dflt cell_enter
  k_steps
  unfold Held
  rename Fr _ _ _ _ => cF1
  rename News _ _ _ _ => cN1
  refine' kcj (fun (x : Str) (t : Tok) => Value.str x t) (fun _ => sgS b) cF1 cN1 (fun u' hMark' => ?hc1) ?hk1
  case hc1 =>
    try k_fold
    k_steps
  unfold KCjDone
  intro t9 h9 tk9 F9 N9
  try dsimp only
  have hMark9 : KPfMark := True.intro
  try k_fold
  k_steps
  rotate_left 2
  · unfold Held
    refine LCg.ListComp_U (F₀ := by k_asm) (by with_unfolding_all rfl) (by decide) (by rfl) (by decide) (by rfl) ?_
    k_steps
    unfold Held
    rename Fr _ _ _ _ => cF5
    rename News _ _ _ _ => cN5
    rename IntsAre _ _ => cI5
    have hlen := cI5.length
    refine LCg.CompSrc.ledger (by rfl) cF5 cN5 (by k_mem) (by size_fits) ?_
    intro g5
    refine' kct_list figS cI5 (fun k5 t5 I5 oI5 C5 oC5 D5 m5 ys5 h5 tk5 E5 hk5 hC5 hx5 F5 N5 off5 ne5 => ?_) ?_
    · intro hM5
      have offc := off5
      simp only [LCg.Off3, and_true] at off5
      obtain ⟨hd0, hd1⟩ := hdig k5 hk5
      k_steps
      refine LCg.CompEnd.intro (by assumption) (by assumption) _ (fun p hp => hp) offc (.inr ⟨_, by k_mem, rfl, _, rfl⟩) ⟨rfl, _, rfl⟩
    · k_steps
      all_goals (refine retS hret (by assumption) (cb_drop (by assumption) (by kcj_all)) ?_; unfold trS; rw [if_neg (by assumption), if_neg (by omega)])
  all_goals (refine retS hret (by assumption) (cb_drop (by assumption) (by kcj_all)) ?_; unfold trS; first | rw [if_pos (by assumption)] | rw [if_neg (by assumption), if_pos (by omega)])

end

section
open PySem.Builtin.Int (intBits)
/-- a whole double: told exactly; another: nearer than half a gap -/
@[irreducible] def RdA (b q r : Int) (n : Nat) : Prop := q * bot b - top b * r ^ ((n : Nat) : Int).toNat = 0
@[irreducible] def RdB (b q r : Int) (n : Nat) : Prop :=
  (if q * bot b - top b * r ^ ((n : Nat) : Int).toNat < 0 then -(q * bot b - top b * r ^ ((n : Nat) : Int).toNat) else q * bot b - top b * r ^ ((n : Nat) : Int).toNat) * (2 * bot (b + 1) * bot b) - (top (b + 1) * bot b + (0 - top b) * bot (b + 1)) * (r ^ ((n : Nat) : Int).toNat * bot b) < 0
theorem rdA_beq {b q r : Int} {n : Nat} (h : RdA b q r n) : (q * bot b - top b * r ^ ((n : Nat) : Int).toNat == 0) = true := by
  unfold RdA at h; rw [h]; rfl
theorem rdB_lt {b q r : Int} {n : Nat} (h : RdB b q r n) : (if q * bot b - top b * r ^ ((n : Nat) : Int).toNat < 0 then -(q * bot b - top b * r ^ ((n : Nat) : Int).toNat) else q * bot b - top b * r ^ ((n : Nat) : Int).toNat) * (2 * bot (b + 1) * bot b) - (top (b + 1) * bot b + (0 - top b) * bot (b + 1)) * (r ^ ((n : Nat) : Int).toNat * bot b) < 0 := by
  unfold RdB at h; exact h
theorem rd_pow {r : Int} {n : Nat} (h0 : 0 ≤ r) (h1 : r ≤ 36) (h : n ≤ 1200) : intBits (r ^ ((n : Nat) : Int).toNat) ≤ 8401 :=
  Nat.le_trans (intBits_pow_le (m := 7) (intBits_le_iff.mpr (by show r.natAbs < 128; omega)) _) (by omega)
end

section
open PySem.Builtin.Int (intBits)
variable {w : World} {mean : ExcName → Option Value} {mg mb : Str → Option Value}



















set_option maxHeartbeats 4000000 in
theorem ct_law_is_by_radix (x W P R : Str) (b r : Int) (t1 t2 t3 : Tok) (h0 : 0 ≤ b) (h1 : b + 1 < 2 ^ 63) (hr0 : 2 ≤ r) (hr1 : r ≤ 36) (hx : x.length ≤ 5000)
    (e1 : (Txt.partition x (Str.ofString ".")).1 = W) (e2 : (Txt.partition x (Str.ofString ".")).2.1 = P) (e3 : (Txt.partition x (Str.ofString ".")).2.2 = R) (hWl : 1 ≤ W.length ∧ W.length ≤ 1200) (hRl : R.length ≤ 1200) (hPP : (P == Str.ofString "") = (R == Str.ofString ""))
    (hW1 : (W == Str.ofString "") = false) (hW0 : (Txt.item W 0 == Str.ofString "0") = false ∨ (W == Str.ofString "0") = true) (hR0 : (R == Str.ofString "") = true ∨ (Txt.item R (-1) == Str.ofString "0") = false)
    (hv : ∀ c ∈ KStt.codes (W ++ R), 0 ≤ valC c ∧ valC c < r) (hqb : intBits (worth r (KStt.codes (W ++ R))) ≤ 15000)
    (hA : top b % bot b = 0 → (R == Str.ofString "") = true ∧ RdA b (worth r (KStt.codes (W ++ R))) r R.length) (hB : top b % bot b ≠ 0 → RdB b (worth r (KStt.codes (W ++ R))) r R.length) : Ct w mean mg mb 234 4 [.str x t1, .int b t2, .int r t3] P0 (OB true) := by
  k_with_none
  k_with "call type:str" => (k_here; (with_reducible show wpAny _ _ (call (Value.type "str") [Value.int _ _]) _ _ _); (refine' str_of_bits (by omega) (by bits_by_make) (by decide) ?_; k_whole; intro hL'))
  k_with "binaryOp FloorDiv int int" => (k_here; (refine' fdiv_bits (by first | assumption | omega | decide | exact two_pow_pos _) (by bits_by_make) (by decide) ?_; k_whole))
  k_with "binaryOp Mod int int" => (k_here; (refine' mod_bits (by first | assumption | omega | decide | exact two_pow_pos _) ?_; k_whole))
  k_with "binaryOp RShift int int" => (k_here; first | (with_reducible refine rsh52 ?_) | (with_reducible refine rsh63 ?_))
  k_with "binaryOp Pow int int" => (k_here; first | (with_reducible refine pow2_52 ?_) | (with_reducible refine pow2_63 ?_) | (with_reducible refine pow2_45 ?_))
  k_with "call ref" => (k_here; k_dflt (refine' ct_useB (ct_is_negative _ _ ?_ ?_) (by k_asm) (by k_asm) (by k_asm) (by k_asm) (by k_asm) (by first | exact rfl | assumption) (by trivial) (by ktr_room) (by ktr_units) ?_; (next => omega); (next => omega); k_whole; intro h' tk' F' N'; (try dsimp only); (try k_fold); (try k_sweep)))
  k_with "call ref" => (k_here; k_dflt (refine' ct_useB (ct_is_nan _ _ ?_ ?_) (by k_asm) (by k_asm) (by k_asm) (by k_asm) (by k_asm) (by first | exact rfl | assumption) (by trivial) (by ktr_room) (by ktr_units) ?_; (next => omega); (next => omega); k_whole; intro h' tk' F' N'; (try dsimp only); (try k_fold); (try k_sweep)))
  k_with "call ref" => (k_here; k_dflt (refine' ct_useB (ct_is_inf _ _ ?_ ?_) (by k_asm) (by k_asm) (by k_asm) (by k_asm) (by k_asm) (by first | exact rfl | assumption) (by trivial) (by ktr_room) (by ktr_units) ?_; (next => omega); (next => omega); k_whole; intro h' tk' F' N'; (try dsimp only); (try k_fold); (try k_sweep)))
  k_with "call ref" => (k_here; k_dflt (refine' ct_useB (ct_is_zero _ _ ?_ ?_) (by k_asm) (by k_asm) (by k_asm) (by k_asm) (by k_asm) (by first | exact rfl | assumption) (by trivial) (by ktr_room) (by ktr_units) ?_; (next => omega); (next => omega); k_whole; intro h' tk' F' N'; (try dsimp only); (try k_fold); (try k_sweep)))
  k_with "call ref" => (k_here; k_dflt (refine' ct_useT3 (ct_parts _ _ ?_ ?_) (by k_asm) (by k_asm) (by k_asm) (by k_asm) (by k_asm) (by first | exact rfl | assumption) (by trivial) (by ktr_room) (by ktr_units) ?_; (next => omega); (next => omega); k_whole; intro D' t1' t2' t3' h' tk' F' N' l1'; (try dsimp only); (try simp only [AllLt, and_true] at l1'); (try k_fold); (try k_sweep)))
  k_with "call ref" => (k_here; k_dflt (refine' ct_useT2 (ct_exact _ _ ?_ ?_) (by k_asm) (by k_asm) (by k_asm) (by k_asm) (by k_asm) (by first | exact rfl | assumption) (by trivial) (by ktr_room) (by ktr_units) ?_; (next => omega); (next => omega); k_whole; intro D' t1' t2' h' tk' F' N' l1'; (try dsimp only); (try simp only [AllLt, and_true] at l1'); (try k_fold); (try k_sweep)))
  k_with "call ref" => (k_here; k_dflt (refine' ct_useI (ct_half_up _ _ _ _ ?_ ?_) (by k_asm) (by k_asm) (by k_asm) (by k_asm) (by k_asm) (by first | exact rfl | assumption) (by trivial) (by ktr_room) (by ktr_units) ?_; (next => exact Nat.le_trans (by bits_by_make) (by decide)); (next => omega); k_whole; intro t' h' tk' F' N'; (try dsimp only); (try k_fold); (try k_sweep)))
  k_with "call ref" => (k_here; k_dflt (refine' ct_useI (ct_decimal_place _ _ _ _ ?_ ?_ ?_ ?_) (by k_asm) (by k_asm) (by k_asm) (by k_asm) (by k_asm) (by first | exact rfl | assumption) (by trivial) (by ktr_room) (by ktr_units) ?_; (next => omega); (next => exact Nat.le_trans (by bits_by_make) (by decide)); (next => omega); (next => exact Nat.le_trans (by bits_by_make) (by decide)); k_whole; intro t' h' tk' F' N'; (try dsimp only); (try k_fold); (try k_sweep)))
  k_with "call ref" => (k_here; k_dflt (refine' ct_useI (ct_last_figure _ _ _ _ _ _ _ _ ) (by k_asm) (by k_asm) (by k_asm) (by k_asm) (by k_asm) (by first | exact rfl | assumption) (by trivial) (by ktr_room) (by ktr_units) ?_; k_whole; intro t' h' tk' F' N'; (try dsimp only); (try k_fold); (try k_sweep)))
  k_with "call ref" => (k_here; k_dflt (refine' ct_useS (ct_signed_exponent _ _ ?_ ?_) (by k_asm) (by k_asm) (by k_asm) (by k_asm) (by k_asm) (by first | exact rfl | assumption) (by trivial) (by ktr_room) (by ktr_units) ?_; (next => omega); (next => omega); k_whole; intro t' h' tk' F' N'; (try dsimp only); (try k_fold); (try k_sweep)))
  k_with "call ref" => (k_here; k_dflt (refine' ct_useN (ct_without_figures _ _ ?_ ?_ ?_) (by k_asm) (by k_asm) (by k_asm) (by k_asm) (by k_asm) (by first | exact rfl | assumption) (by trivial) (by ktr_room) (by ktr_units) ?_; (next => omega); (next => omega); (next => omega); k_whole; intro h' tk' F' N'; (try dsimp only); (try k_fold); (try k_sweep)))
  k_with "call ref" => (k_here; k_dflt (refine' ct_useT3 (ct_sign_and_ratio _ _ ?_ ?_ ?_) (by k_asm) (by k_asm) (by k_asm) (by k_asm) (by k_asm) (by first | exact rfl | assumption) (by trivial) (by ktr_room) (by ktr_units) ?_; (next => omega); (next => omega); (next => omega); k_whole; intro D' t1' t2' t3' h' tk' F' N' l1'; (try dsimp only); (try simp only [AllLt, and_true] at l1'); (try k_fold); (try k_sweep)))
  k_with "call ref" => (k_here; k_dflt (refine' ct_useI (ct_first_place _ _ _ _ _ _ _ ?_ ?_ ?_ ?_ ?_) (by k_asm) (by k_asm) (by k_asm) (by k_asm) (by k_asm) (by first | exact rfl | assumption) (by trivial) (by ktr_room) (by ktr_units) ?_; (next => omega); (next => exact Nat.le_trans (by bits_by_make) (by decide)); (next => omega); (next => exact Nat.le_trans (by bits_by_make) (by decide)); (next => exact Nat.le_trans (by bits_by_make) (by decide)); k_whole; intro t' h' tk' F' N'; (try dsimp only); (try k_fold); (try k_sweep)))
  k_with "call ref" => (k_here; k_dflt (refine' ct_useS (ct_with_exponent _ _ _ _ ?_ ?_ ?_) (by k_asm) (by k_asm) (by k_asm) (by k_asm) (by k_asm) (by first | exact rfl | assumption) (by trivial) (by ktr_room) (by ktr_units) ?_; (next => omega); (next => omega); (next => omega); k_whole; intro t' h' tk' F' N'; (try dsimp only); (try k_fold); (try k_sweep)))
  k_with "call ref" => (k_here; k_dflt (refine' ct_useS (ct_laid_out _ _ _ _ ?_ ?_ ?_) (by k_asm) (by k_asm) (by k_asm) (by k_asm) (by k_asm) (by first | exact rfl | assumption) (by trivial) (by ktr_room) (by ktr_units) ?_; (next => omega); (next => omega); (next => omega); k_whole; intro t' h' tk' F' N'; (try dsimp only); (try k_fold); (try k_sweep)))
  k_with "call ref" => (k_here; k_dflt (refine' ct_useT2 (ct_law_ratio _ _ ?_ ?_) (by k_asm) (by k_asm) (by k_asm) (by k_asm) (by k_asm) (by first | exact rfl | assumption) (by trivial) (by ktr_room) (by ktr_units) ?_; (next => omega); (next => omega); k_whole; intro D' t1' t2' h' tk' F' N' l1'; (try dsimp only); (try simp only [AllLt, and_true] at l1'); (try k_fold); (try k_sweep)))
  k_with "call ref" => (k_here; k_dflt (refine' ct_useI (ct_law_worth _ _ _ _ ?_ ?_ ?_) (by k_asm) (by k_asm) (by k_asm) (by k_asm) (by k_asm) (by first | exact rfl | assumption) (by trivial) (by ktr_room) (by ktr_units) ?_; (next => omega); (next => omega); (next => assumption); k_whole; intro t' h' tk' F' N'; (try dsimp only); (try k_fold); (try k_sweep)))
  k_with "call ref" => (k_here; k_dflt (refine' ct_useT2 (ct_law_between _ _ _ _ _ _ _ _ _ _ ?_ ?_ ?_ ?_) (by k_asm) (by k_asm) (by k_asm) (by k_asm) (by k_asm) (by first | exact rfl | assumption) (by exact ⟨by k_mem, by k_mem⟩) (by ktr_room) (by ktr_units) ?_; (next => exact Nat.le_trans (by bits_by_make) (by decide)); (next => exact Nat.le_trans (by bits_by_make) (by decide)); (next => exact Nat.le_trans (by bits_by_make) (by decide)); (next => exact Nat.le_trans (by bits_by_make) (by decide)); k_whole; intro D' t1' t2' h' tk' F' N' l1'; (try dsimp only); (try simp only [AllLt, and_true] at l1'); (try k_fold); (try k_sweep)))
  k_with "call ref" => (k_here; k_dflt (refine' ct_useI (ct_law_order _ _ _ _ _ _ _ _ _ _ ?_ ?_ ?_ ?_) (by k_asm) (by k_asm) (by k_asm) (by k_asm) (by k_asm) (by first | exact rfl | assumption) (by exact ⟨by k_mem, by k_mem⟩) (by ktr_room) (by ktr_units) ?_; (next => exact Nat.le_trans (by bits_by_make) (by decide)); (next => exact Nat.le_trans (by bits_by_make) (by decide)); (next => exact Nat.le_trans (by bits_by_make) (by decide)); (next => exact Nat.le_trans (by bits_by_make) (by decide)); k_whole; intro t' h' tk' F' N'; (try dsimp only); (try k_fold); (try k_sweep)))
  k_with "exec While" => (k_here; refine of_held ?_)
  k_with "k_all" => exact fun p hp => Nat.ne_of_lt (ktn_ltOf (by first | assumption | exact allLt_of (by assumption) | exact And.right (by assumption) | exact And.right (And.right (by assumption)) | exact And.right (And.right (And.right (by assumption))) | exact And.right (And.right (And.right (And.right (by assumption)))) | exact And.right (And.right (And.right (And.right (And.right (by assumption)))))) p hp)
  k_with "binaryOp Mult int int" => (k_here; (focus ((with_reducible refine mul_int ?_ ?_); rotate_left; (next => first | exact PySem.IntMulOk.of_right (by decide) | exact PySem.IntMulOk.of_left (by decide) | exact mulOk_of_bits (by bits_by_make) (by bits_by_make) (by decide)))))
  k_with "binaryOp Pow int int" => (k_here; (focus ((with_reducible refine pow_int_small ?_ ?_ ?_ ?_); (next => omega); (next => omega); (next => decide))))
  k_with "execs cons" => (k_here; dsimp only; k_gentoks)
  k_with "execs nil" => (k_here; dsimp only; k_gentoks)
  k_with "call builtin:str.partition" => (k_here; (refine KXpa.partition (by k_asm) (by k_asm) (by decide) (by assumption) (by assumption) (by assumption) (by size_fits) ?_); intro D' ta' tb' tc' h' k' F' N' l1; (try k_lt l1))
  k_with "isTrue BoolOp" => (k_here; (fail_if_success (rename KPfMark => hNoMark')); refine of_held ?_)
  unfold Ct
  k_fill
  intro dp un gd cn cs a ccd cl outer A₀ base h₀ L m news s Q E B F X N T hk hP hd hu hret
  have hb1 := bot_pos b
  have hb2 := bot_bits b
  have ht2 := top_bits b
  have hb3 := bot_bits (b + 1)
  have ht3 := top_bits (b + 1)
  have hpb := rd_pow (r := r) (n := R.length) (by omega) hr1 hRl
  refine wpAny_call ?_
  w_top off
  k_dflt cell_enter
  k_steps
  unfold Held
  rename Fr _ _ _ _ => cF1
  rename News _ _ _ _ => cN1
  refine cutB false cF1 cN1 (fun hMark' => ?_) ?_
  · clear hqb hb2 ht2 hb3 ht3 hpb
    try k_fold
    k_steps
    all_goals (refine cutB_end ?_ (by assumption) (by assumption) (fun _ h => h))
    all_goals first | rfl | (exfalso; omega) | exact fx_c1 hPP (by assumption) | exact fx_c2 hW0 (by assumption) (by assumption)
  · intro h9 tk9 F9 N9
    clear cF1 cN1
    try dsimp only
    try k_fold
    k_steps
    unfold Held
    rename Fr _ _ _ _ => cF1
    rename News _ _ _ _ => cN1
    refine cutB false cF1 cN1 (fun hMark' => ?_) ?_
    · clear hqb hb2 ht2 hb3 ht3 hpb
      try k_fold
      k_steps
      all_goals (refine cutB_end ?_ (by assumption) (by assumption) (fun _ h => h))
      all_goals first | rfl | (exfalso; omega) | exact fx_c3 hR0 (by assumption) (by assumption)
    · intro h8 tk8 F8 N8
      clear cF1 cN1
      try dsimp only
      try k_fold
      k_steps
      · exact retB hret (by assumption) (cb_drop (by assumption) (by kcj_all)) (rdA_beq (hA (by assumption)).2)
      · exact absurd ((hA (by assumption)).1.symm.trans (by assumption)) (by decide)
      · exact retB hret (by assumption) (cb_drop (by assumption) (by kcj_all)) (decide_eq_true (rdB_lt (hB (by assumption))))

end

section
open PySem.Builtin.Int (intBits)
variable {w : World} {mean : ExcName → Option Value} {mg mb : Str → Option Value}

















set_option maxHeartbeats 4000000 in
theorem ct_law_is_fixedB (b pl : Int) (t1 t2 t3 : Tok) (h0 : 0 ≤ b) (h1 : b < 2 ^ 63) (hf : b % 2 ^ 63 < 2047 * 2 ^ 52) (hz : b % 2 ^ 63 ≠ 0) (hp0 : 0 ≤ pl) (hp : pl ≤ 20) (hbg : bot b * 10 ^ Int.toNat 21 ≤ top b) (hpw : 0 ≤ pw b) (hpl : 0 ≤ shPl b) : Ct w mean mg mb 220 7 [.str (swS b) t1, .int b t2, .int pl t3] P0 (OB true) := by
  k_with_none
  k_with "call type:str" => (k_here; (with_reducible show wpAny _ _ (call (Value.type "str") [Value.int _ _]) _ _ _); (refine' str_of_bits (by omega) (by bits_by_make) (by decide) ?_; k_whole; intro hL'))
  k_with "binaryOp FloorDiv int int" => (k_here; (refine' fdiv_bits (by first | assumption | omega | decide | exact two_pow_pos _) (by bits_by_make) (by decide) ?_; k_whole))
  k_with "binaryOp Mod int int" => (k_here; (refine' mod_bits (by first | assumption | omega | decide | exact two_pow_pos _) ?_; k_whole))
  k_with "binaryOp RShift int int" => (k_here; first | (with_reducible refine rsh52 ?_) | (with_reducible refine rsh63 ?_))
  k_with "binaryOp Pow int int" => (k_here; first | (with_reducible refine pow2_52 ?_) | (with_reducible refine pow2_63 ?_) | (with_reducible refine pow2_45 ?_))
  k_with "call ref" => (k_here; k_dflt (refine' ct_useB (ct_is_negative _ _ ?_ ?_) (by k_asm) (by k_asm) (by k_asm) (by k_asm) (by k_asm) (by first | exact rfl | assumption) (by trivial) (by ktr_room) (by ktr_units) ?_; (next => omega); (next => omega); k_whole; intro h' tk' F' N'; (try dsimp only); (try k_fold); (try k_sweep)))
  k_with "call ref" => (k_here; k_dflt (refine' ct_useB (ct_is_nan _ _ ?_ ?_) (by k_asm) (by k_asm) (by k_asm) (by k_asm) (by k_asm) (by first | exact rfl | assumption) (by trivial) (by ktr_room) (by ktr_units) ?_; (next => omega); (next => omega); k_whole; intro h' tk' F' N'; (try dsimp only); (try k_fold); (try k_sweep)))
  k_with "call ref" => (k_here; k_dflt (refine' ct_useB (ct_is_inf _ _ ?_ ?_) (by k_asm) (by k_asm) (by k_asm) (by k_asm) (by k_asm) (by first | exact rfl | assumption) (by trivial) (by ktr_room) (by ktr_units) ?_; (next => omega); (next => omega); k_whole; intro h' tk' F' N'; (try dsimp only); (try k_fold); (try k_sweep)))
  k_with "call ref" => (k_here; k_dflt (refine' ct_useB (ct_is_zero _ _ ?_ ?_) (by k_asm) (by k_asm) (by k_asm) (by k_asm) (by k_asm) (by first | exact rfl | assumption) (by trivial) (by ktr_room) (by ktr_units) ?_; (next => omega); (next => omega); k_whole; intro h' tk' F' N'; (try dsimp only); (try k_fold); (try k_sweep)))
  k_with "call ref" => (k_here; k_dflt (refine' ct_useT3 (ct_parts _ _ ?_ ?_) (by k_asm) (by k_asm) (by k_asm) (by k_asm) (by k_asm) (by first | exact rfl | assumption) (by trivial) (by ktr_room) (by ktr_units) ?_; (next => omega); (next => omega); k_whole; intro D' t1' t2' t3' h' tk' F' N' l1'; (try dsimp only); (try simp only [AllLt, and_true] at l1'); (try k_fold); (try k_sweep)))
  k_with "call ref" => (k_here; k_dflt (refine' ct_useT2 (ct_exact _ _ ?_ ?_) (by k_asm) (by k_asm) (by k_asm) (by k_asm) (by k_asm) (by first | exact rfl | assumption) (by trivial) (by ktr_room) (by ktr_units) ?_; (next => omega); (next => omega); k_whole; intro D' t1' t2' h' tk' F' N' l1'; (try dsimp only); (try simp only [AllLt, and_true] at l1'); (try k_fold); (try k_sweep)))
  k_with "call ref" => (k_here; k_dflt (refine' ct_useI (ct_half_up _ _ _ _ ?_ ?_) (by k_asm) (by k_asm) (by k_asm) (by k_asm) (by k_asm) (by first | exact rfl | assumption) (by trivial) (by ktr_room) (by ktr_units) ?_; (next => exact Nat.le_trans (by bits_by_make) (by decide)); (next => omega); k_whole; intro t' h' tk' F' N'; (try dsimp only); (try k_fold); (try k_sweep)))
  k_with "call ref" => (k_here; k_dflt (refine' ct_useI (ct_decimal_place _ _ _ _ ?_ ?_ ?_ ?_) (by k_asm) (by k_asm) (by k_asm) (by k_asm) (by k_asm) (by first | exact rfl | assumption) (by trivial) (by ktr_room) (by ktr_units) ?_; (next => omega); (next => exact Nat.le_trans (by bits_by_make) (by decide)); (next => omega); (next => exact Nat.le_trans (by bits_by_make) (by decide)); k_whole; intro t' h' tk' F' N'; (try dsimp only); (try k_fold); (try k_sweep)))
  k_with "call ref" => (k_here; k_dflt (refine' ct_useI (ct_last_figure _ _ _ _ _ _ _ _ ) (by k_asm) (by k_asm) (by k_asm) (by k_asm) (by k_asm) (by first | exact rfl | assumption) (by trivial) (by ktr_room) (by ktr_units) ?_; k_whole; intro t' h' tk' F' N'; (try dsimp only); (try k_fold); (try k_sweep)))
  k_with "call ref" => (k_here; k_dflt (refine' ct_useS (ct_signed_exponent _ _ ?_ ?_) (by k_asm) (by k_asm) (by k_asm) (by k_asm) (by k_asm) (by first | exact rfl | assumption) (by trivial) (by ktr_room) (by ktr_units) ?_; (next => omega); (next => omega); k_whole; intro t' h' tk' F' N'; (try dsimp only); (try k_fold); (try k_sweep)))
  k_with "call ref" => (k_here; k_dflt (refine' ct_useN (ct_without_figures _ _ ?_ ?_ ?_) (by k_asm) (by k_asm) (by k_asm) (by k_asm) (by k_asm) (by first | exact rfl | assumption) (by trivial) (by ktr_room) (by ktr_units) ?_; (next => omega); (next => omega); (next => omega); k_whole; intro h' tk' F' N'; (try dsimp only); (try k_fold); (try k_sweep)))
  k_with "call ref" => (k_here; k_dflt (refine' ct_useT3 (ct_sign_and_ratio _ _ ?_ ?_ ?_) (by k_asm) (by k_asm) (by k_asm) (by k_asm) (by k_asm) (by first | exact rfl | assumption) (by trivial) (by ktr_room) (by ktr_units) ?_; (next => omega); (next => omega); (next => omega); k_whole; intro D' t1' t2' t3' h' tk' F' N' l1'; (try dsimp only); (try simp only [AllLt, and_true] at l1'); (try k_fold); (try k_sweep)))
  k_with "call ref" => (k_here; k_dflt (refine' ct_useI (ct_first_place _ _ _ _ _ _ _ ?_ ?_ ?_ ?_ ?_) (by k_asm) (by k_asm) (by k_asm) (by k_asm) (by k_asm) (by first | exact rfl | assumption) (by trivial) (by ktr_room) (by ktr_units) ?_; (next => omega); (next => exact Nat.le_trans (by bits_by_make) (by decide)); (next => omega); (next => exact Nat.le_trans (by bits_by_make) (by decide)); (next => exact Nat.le_trans (by bits_by_make) (by decide)); k_whole; intro t' h' tk' F' N'; (try dsimp only); (try k_fold); (try k_sweep)))
  k_with "call ref" => (k_here; k_dflt (refine' ct_useS (ct_with_exponent _ _ _ _ ?_ ?_ ?_) (by k_asm) (by k_asm) (by k_asm) (by k_asm) (by k_asm) (by first | exact rfl | assumption) (by trivial) (by ktr_room) (by ktr_units) ?_; (next => omega); (next => omega); (next => omega); k_whole; intro t' h' tk' F' N'; (try dsimp only); (try k_fold); (try k_sweep)))
  k_with "call ref" => (k_here; k_dflt (refine' ct_useS (ct_laid_out _ _ _ _ ?_ ?_ ?_) (by k_asm) (by k_asm) (by k_asm) (by k_asm) (by k_asm) (by first | exact rfl | assumption) (by trivial) (by ktr_room) (by ktr_units) ?_; (next => omega); (next => omega); (next => omega); k_whole; intro t' h' tk' F' N'; (try dsimp only); (try k_fold); (try k_sweep)))
  k_with "call ref" => (k_here; k_dflt (refine' ct_useT2 (ct_law_ratio _ _ ?_ ?_) (by k_asm) (by k_asm) (by k_asm) (by k_asm) (by k_asm) (by first | exact rfl | assumption) (by trivial) (by ktr_room) (by ktr_units) ?_; (next => omega); (next => omega); k_whole; intro D' t1' t2' h' tk' F' N' l1'; (try dsimp only); (try simp only [AllLt, and_true] at l1'); (try k_fold); (try k_sweep)))
  k_with "k_all" => exact fun p hp => Nat.ne_of_lt (ktn_ltOf (by first | assumption | exact allLt_of (by assumption) | exact And.right (by assumption) | exact And.right (And.right (by assumption)) | exact And.right (And.right (And.right (by assumption))) | exact And.right (And.right (And.right (And.right (by assumption)))) | exact And.right (And.right (And.right (And.right (And.right (by assumption)))))) p hp)
  k_with "binaryOp Mult int int" => (k_here; (focus ((with_reducible refine mul_int ?_ ?_); rotate_left; (next => first | exact PySem.IntMulOk.of_right (by decide) | exact PySem.IntMulOk.of_left (by decide) | exact mulOk_of_bits (by bits_by_make) (by bits_by_make) (by decide)))))
  k_with "binaryOp Pow int int" => (k_here; (focus ((with_reducible refine pow_int_small ?_ ?_ ?_ ?_); (next => omega); (next => omega); (next => decide))))
  k_with "execs cons" => (k_here; dsimp only; k_gentoks)
  k_with "execs nil" => (k_here; dsimp only; k_gentoks)
  k_with "call ref" => (k_here; k_dflt (refine' ct_useS (ct_show _ _ ?_ ?_ ?_ ?_ ?_ ?_) (by k_asm) (by k_asm) (by k_asm) (by k_asm) (by k_asm) (by first | exact rfl | assumption) (by trivial) (by ktr_room) (by ktr_units) ?_; (next => omega); (next => omega); (next => assumption); (next => assumption); (next => assumption); (next => assumption); k_whole; intro t' h' tk' F' N'; (try dsimp only); (try k_fold); (try k_sweep)))
  unfold Ct
  k_fill
  intro dp un gd cn cs a ccd cl outer A₀ base h₀ L m news s Q E B F X N T hk hP hd hu hret
  have hb1 := bot_pos b
  have hb2 := bot_bits b
  have ht1 := top_nonneg b
  have ht2 := top_bits b
  refine wpAny_call ?_
  w_top off
  k_dflt cell_enter
  k_steps
  all_goals exact retB hret (by assumption) (by first | assumption | exact cb_drop (by assumption) (by kcj_all)) (beq_self_eq_true _)

end

section
open PySem.Builtin.Int (intBits)
theorem str_ext {x y : Str} (h : x.cps.toList = y.cps.toList) : x = y := by
  cases x; cases y
  exact congrArg Str.mk (Array.toList_inj.mp h)
theorem cl_app (x y : Str) : (x ++ y).cps.toList = x.cps.toList ++ y.cps.toList := by
  show (x.cps ++ y.cps).toList = _
  exact Array.toList_append
theorem len_cl (x : Str) : x.length = x.cps.toList.length := by rw [Array.length_toList]; rfl
theorem dot_eq : Str.ofString "." = ⟨#[46]⟩ := by decide
theorem zero_eq : Str.ofString "0" = ⟨#[48]⟩ := by decide
theorem nil_eq : Str.ofString "" = ⟨#[]⟩ := by decide
theorem nil_app (x : Str) : Str.ofString "" ++ x = x := str_ext (by rw [cl_app, nil_eq]; rfl)
theorem app_nil (x : Str) : x ++ Str.ofString "" = x := str_ext (by rw [cl_app, nil_eq]; simp)
theorem app_assoc (x y z : Str) : x ++ y ++ z = x ++ (y ++ z) := str_ext (by simp only [cl_app, List.append_assoc])
theorem part_dot {W R : Str} (h : 46 ∉ W.cps.toList) : Txt.partition (W ++ Str.ofString "." ++ R) (Str.ofString ".") = (W, Str.ofString ".", R) := by
  rw [dot_eq]
  have hx : (W ++ ⟨#[46]⟩ ++ R).cps.toList = W.cps.toList ++ 46 :: R.cps.toList := by
    rw [cl_app, cl_app, List.append_assoc]; rfl
  have hl : (W ++ ⟨#[46]⟩ ++ R).length = W.cps.toList.length + 1 + R.cps.toList.length := by
    rw [len_cl, hx, List.length_append, List.length_cons]; omega
  rcases partition_whole (W ++ ⟨#[46]⟩ ++ R) ⟨#[46]⟩ with ⟨_, hn⟩ | ⟨i, hp, hi, hn⟩
  · have hm : 46 ∈ (W ++ ⟨#[46]⟩ ++ R).cps.toList := by rw [hx]; simp
    obtain ⟨i, hi⟩ := (mem_iff_at _ 46).mp hm
    exact absurd hi (hn i)
  · have h1 := (StrLaws.subAt_one _ 46 i).mp hi
    rw [hx] at h1
    have e : i = W.cps.toList.length := by
      rcases Nat.lt_trichotomy i W.cps.toList.length with h2 | h2 | h2
      · rw [List.getElem?_append_left h2] at h1
        exact absurd (List.mem_of_getElem? h1) h
      · exact h2
      · refine absurd ((StrLaws.subAt_one _ 46 W.cps.toList.length).mpr ?_) (hn _ h2)
        rw [hx]; simp
    rw [hp]
    refine Prod.ext ?_ (Prod.ext rfl ?_)
    · refine str_ext ?_
      show (Builtin.Str.strSub _ 0 i).cps.toList = _
      rw [StrLaws.strSub_toList, hx, e]
      simp
    · refine str_ext ?_
      show (Builtin.Str.strSub _ (i + (⟨#[46]⟩ : Str).length) _).cps.toList = _
      have e1 : (⟨#[46]⟩ : Str).length = 1 := rfl
      rw [StrLaws.strSub_toList, hx, hl, e, e1]
      have e2 : (W.cps.toList ++ 46 :: R.cps.toList).drop (W.cps.toList.length + 1) = R.cps.toList := by
        rw [← List.drop_drop, List.drop_left]; rfl
      rw [e2, List.take_of_length_le (by omega)]
theorem part_none {W : Str} (h : 46 ∉ W.cps.toList) : Txt.partition W (Str.ofString ".") = (W, Str.ofString "", Str.ofString "") := by
  rw [dot_eq]
  rcases partition_whole W ⟨#[46]⟩ with ⟨hp, _⟩ | ⟨i, hp, hi, hn⟩
  · rw [hp, nil_eq]; rfl
  · have h1 := (StrLaws.subAt_one _ 46 i).mp hi
    exact absurd (List.mem_of_getElem? h1) h
theorem item_head {x : Str} {c : Nat} {l : List Nat} (h : x.cps.toList = c :: l) : Txt.item x 0 = ⟨#[c]⟩ := by
  have hl : x.length = l.length + 1 := by rw [len_cl, h]; rfl
  have hc : x.cps[(0 : Int).toNat]? = some c := by
    rw [← Array.getElem?_toList, h]; rfl
  unfold Txt.item Txt.charAt
  rw [seqIndex_of (by decide) (by omega)]
  show (⟨#[(x.cps[(0 : Int).toNat]?).getD 0]⟩ : Str) = _
  rw [hc]; rfl
theorem item_last {x : Str} {c : Nat} {l : List Nat} (h : x.cps.toList = l ++ [c]) : Txt.item x (-1) = ⟨#[c]⟩ := by
  have hl : x.length = l.length + 1 := by rw [len_cl, h]; simp
  have hi : (-1 + (x.length : Int)).toNat = l.length := by omega
  have hc : x.cps[(-1 + (x.length : Int)).toNat]? = some c := by
    rw [hi, ← Array.getElem?_toList, h]; simp
  unfold Txt.item Txt.charAt
  rw [seqIndex_back (by decide) (by omega)]
  show (⟨#[(x.cps[(-1 + (x.length : Int)).toNat]?).getD 0]⟩ : Str) = _
  rw [hc]; rfl
theorem one_beq {c d : Nat} (h : c ≠ d) : ((⟨#[c]⟩ : Str) == ⟨#[d]⟩) = false := by
  rw [beq_eq_false_iff_ne]
  intro e
  injection e with e
  have := congrArg (fun a : Array Nat => a.toList) e
  simp at this
  exact h this
theorem signs_digits {x : Str} (h : ∀ c ∈ x.cps.toList, 48 ≤ c ∧ c ≤ 57) : List.filter (fun a => !!(Builtin.Str.occurrences (Str.ofString "0123456789") a 0 (Str.ofString "0123456789").length 1).isEmpty) (signs x) = [] := by
  rw [List.filter_eq_nil_iff]
  intro a ha
  unfold signs at ha
  obtain ⟨c, hc, rfl⟩ := List.mem_map.mp ha
  have hh := h c hc
  have k : ∀ j : _root_.Fin 10, ¬ (!!(Builtin.Str.occurrences (Str.ofString "0123456789") ⟨#[48 + j.val]⟩ 0 (Str.ofString "0123456789").length 1).isEmpty) = true := by decide +kernel
  have e : c = 48 + (⟨c - 48, by omega⟩ : _root_.Fin 10).val := by show c = 48 + (c - 48); omega
  rw [e]
  exact k _
theorem slice_to {x : Str} {j : Int} (h0 : 0 ≤ j) (h2 : j ≤ x.length) : (Txt.slice x none (some j)).cps.toList = x.cps.toList.take j.toNat := by
  rw [beq_iff_eq.mp (slice_closes_toL h0 h2)]
  simp
theorem slice_from {x : Str} {j : Int} (h0 : 0 ≤ j) (h2 : j ≤ x.length) : (Txt.slice x (some j) none).cps.toList = x.cps.toList.drop j.toNat := by
  rw [slice_from_eq (b := (x.length : Int)) h0 h2 rfl]
  show List.take _ _ = _
  rw [List.take_of_length_le]
  rw [List.length_drop, ← len_cl]; omega
end

section
open PySem.Builtin.Int (intBits)
theorem dt_all (n : Nat) : ∀ c ∈ (Str.ofString (toString ((n : Nat) : Int))).cps.toList, 48 ≤ c ∧ c ≤ 57 := by
  intro c hc
  rw [KIN.signs_num] at hc
  obtain ⟨ch, hch, e⟩ := List.mem_map.mp hc
  have r := digit_range (Nat.isDigit_of_mem_toDigits (by decide) (by decide) hch)
  rw [← e]
  exact r
theorem dt_head0 (n : Nat) : ∃ c l, Nat.toDigits 10 n = c :: l ∧ (c = '0' → n = 0 ∧ l = []) := by
  induction n using Nat.strongRecOn with
  | _ n ih =>
    by_cases h : n < 10
    · rw [Nat.toDigits_of_lt_base h]
      refine ⟨_, _, rfl, fun e => ⟨?_, rfl⟩⟩
      have k : ∀ j : _root_.Fin 10, Nat.digitChar j.val = '0' → j.val = 0 := by decide
      exact k ⟨n, h⟩ e
    · have hm : n % 10 < 10 := Nat.mod_lt n (by decide)
      have t : Nat.toDigits 10 (n / 10) ++ Nat.toDigits 10 (n % 10) = Nat.toDigits 10 (10 * (n / 10) + n % 10) := Nat.toDigits_append_toDigits (by decide) (by omega) hm
      rw [Nat.div_add_mod] at t
      obtain ⟨c, l, e, hc⟩ := ih (n / 10) (by omega)
      refine ⟨c, l ++ Nat.toDigits 10 (n % 10), by rw [← t, e]; rfl, fun e2 => ?_⟩
      have := (hc e2).1
      omega
theorem dt_head (n : Nat) : ∃ c l, (Str.ofString (toString ((n : Nat) : Int))).cps.toList = c :: l ∧ (c = 48 → n = 0 ∧ l = []) := by
  obtain ⟨c, l, e, h⟩ := dt_head0 n
  refine ⟨c.toNat, l.map Char.toNat, by rw [KIN.signs_num, e]; rfl, fun e2 => ?_⟩
  have e3 : c = '0' := Char.ext (UInt32.toNat_inj.mp e2)
  obtain ⟨a, b⟩ := h e3
  exact ⟨a, by rw [b]; rfl⟩
theorem dt_zeros (cs : List Nat) : ∀ k : Nat, PySem.NumText.digitsVal (List.replicate k 48 ++ cs) = PySem.NumText.digitsVal cs
  | 0 => rfl
  | k + 1 => (PySem.NumText.digitsVal_zero (cs := List.replicate k 48 ++ cs)).trans (dt_zeros cs k)
/-- the text without a point -/
theorem fxp_0 {T : Str} {v : Nat} (hT : T = Str.ofString (toString ((v : Nat) : Int))) :
    46 ∉ T.cps.toList ∧ (T == Str.ofString "") = false ∧ 1 ≤ T.length ∧ ((Txt.item T 0 == Str.ofString "0") = false ∨ (T == Str.ofString "0") = true) := by
  subst hT
  obtain ⟨c, l, e, h⟩ := dt_head v
  have hl : (Str.ofString (toString ((v : Nat) : Int))).length = l.length + 1 := by rw [len_cl, e]; rfl
  refine ⟨fun hm => ?_, ?_, by omega, ?_⟩
  · have := dt_all v 46 hm; omega
  · rw [beq_eq_false_iff_ne]
    intro e2
    rw [e2] at hl
    have : (Str.ofString "").length = 0 := by decide
    omega
  · by_cases hc : c = 48
    · refine .inr ?_
      rw [beq_iff_eq]
      refine str_ext ?_
      rw [e, hc, (h hc).2, zero_eq]
    · refine .inl ?_
      rw [item_head e, zero_eq]
      exact one_beq hc
structure FxW (T p W R : Str) (v : Nat) (pl : Int) : Prop where
  dot : 46 ∉ W.cps.toList
  ne : (W == Str.ofString "") = false
  lw : 1 ≤ W.length
  lr : (R.length : Int) = pl
  lp : p.length = W.length + R.length
  l2 : p.length ≤ T.length ∨ (p.length : Int) ≤ pl + 1
  hd : (Txt.item W 0 == Str.ofString "0") = false ∨ (W == Str.ofString "0") = true
  cat : W ++ R = p
  dig : ∀ c ∈ p.cps.toList, 48 ≤ c ∧ c ≤ 57
  val : PySem.NumText.digitsVal p.cps.toList = v
theorem fxp_1 {T p W R : Str} {v : Nat} {pl : Int} (hT : T = Str.ofString (toString ((v : Nat) : Int))) (h0 : 0 < pl) (hp : p = Txt.mul (Str.ofString "0") (pl + 1 - T.length) ++ T)
    (hW : W = Txt.slice p none (some (p.length - pl))) (hR : R = Txt.slice p (some (p.length - pl)) none) : FxW T p W R v pl := by
  obtain ⟨c, l, e, h⟩ := dt_head v
  have hall := dt_all v
  have hval := KIN.val_back v
  rw [← KIN.signs_num] at hval
  rw [← hT] at e hall hval
  have hTl : T.length = l.length + 1 := by rw [len_cl, e]; rfl
  have ep : p.cps.toList = List.replicate (pl + 1 - T.length).toNat 48 ++ T.cps.toList := by rw [hp, cl_app, zero_eq, mul_one_list]
  have hpl : p.length = (pl + 1 - T.length).toNat + T.length := by rw [len_cl, ep, List.length_append, List.length_replicate, ← len_cl]
  have hj0 : 0 ≤ (p.length : Int) - pl := by omega
  have hj1 : (p.length : Int) - pl ≤ p.length := by omega
  have eW : W.cps.toList = p.cps.toList.take ((p.length : Int) - pl).toNat := by rw [hW, slice_to hj0 hj1]
  have eR : R.cps.toList = p.cps.toList.drop ((p.length : Int) - pl).toNat := by rw [hR, slice_from hj0 hj1]
  have hdig : ∀ c ∈ p.cps.toList, 48 ≤ c ∧ c ≤ 57 := by
    intro c hc
    rw [ep] at hc
    rcases List.mem_append.mp hc with hc | hc
    · rw [(List.mem_replicate.mp hc).2]; omega
    · exact hall c hc
  have lw : W.length = ((p.length : Int) - pl).toNat := by rw [len_cl, eW, List.length_take, ← len_cl]; omega
  have lr : R.length = p.length - ((p.length : Int) - pl).toNat := by rw [len_cl, eR, List.length_drop, ← len_cl]
  refine ⟨fun hm => ?_, ?_, by omega, by omega, by omega, by omega, ?_, ?_, hdig, by rw [ep, dt_zeros, hval]⟩
  · rw [eW] at hm
    have := hdig 46 (List.mem_of_mem_take hm)
    omega
  · rw [beq_eq_false_iff_ne]
    intro e2
    rw [e2] at lw
    have : (Str.ofString "").length = 0 := by decide
    omega
  · by_cases hz : (pl + 1 - T.length).toNat = 0
    · by_cases hc : c = 48
      · have := (h hc).2
        rw [this] at hTl
        simp only [List.length_nil] at hTl
        omega
      · refine .inl ?_
        have e2 : W.cps.toList = c :: l.take (((p.length : Int) - pl).toNat - 1) := by
          rw [eW, ep, hz, e]
          obtain ⟨k, hk⟩ : ∃ k, ((p.length : Int) - pl).toNat = k + 1 := ⟨((p.length : Int) - pl).toNat - 1, by omega⟩
          rw [hk]; rfl
        rw [item_head e2, zero_eq]
        exact one_beq hc
    · refine .inr ?_
      rw [beq_iff_eq]
      refine str_ext ?_
      have e1 : ((p.length : Int) - pl).toNat = 1 := by omega
      obtain ⟨k, hk⟩ : ∃ k, (pl + 1 - T.length).toNat = k + 1 := ⟨(pl + 1 - T.length).toNat - 1, by omega⟩
      rw [eW, e1, ep, hk, zero_eq]; rfl
  · refine str_ext ?_
    rw [cl_app, eW, eR, List.take_append_drop]
end

section
open PySem.Builtin.Int (intBits)
abbrev Dbl (b : Int) : Prop := 0 < b ∧ b < 2047 * 2 ^ 52
theorem mant_sh (b : Int) : mant (b + 2 ^ 63) = mant b := by
  have e1 : (b + 2 ^ 63) / 2 ^ 52 % 2048 = b / 2 ^ 52 % 2048 := by omega
  have e2 : (b + 2 ^ 63) % 2 ^ 52 = b % 2 ^ 52 := by omega
  unfold mant; rw [e1, e2]
theorem pw_sh (b : Int) : pw (b + 2 ^ 63) = pw b := by
  have e1 : (b + 2 ^ 63) / 2 ^ 52 % 2048 = b / 2 ^ 52 % 2048 := by omega
  unfold pw; rw [e1]
theorem top_sh (b : Int) : top (b + 2 ^ 63) = top b := by unfold top; rw [mant_sh, pw_sh]
theorem bot_sh (b : Int) : bot (b + 2 ^ 63) = bot b := by unfold bot; rw [pw_sh]
theorem shPl_sh (b : Int) : shPl (b + 2 ^ 63) = shPl b := by unfold shPl; rw [mant_sh, pw_sh]
theorem shS_sh (b : Int) : shS (b + 2 ^ 63) = shS b := by unfold shS; rw [mant_sh, pw_sh, shPl_sh]
theorem hupV_sh (b pl : Int) : hupV (b + 2 ^ 63) pl = hupV b pl := by unfold hupV; rw [top_sh, bot_sh]
theorem hupS_sh (b pl : Int) : hupS (b + 2 ^ 63) pl = hupS b pl := by unfold hupS; rw [hupV_sh]
theorem padS_sh (b pl : Int) : padS (b + 2 ^ 63) pl = padS b pl := by unfold padS; rw [hupS_sh]
theorem uB_sh (b : Int) : uB (b + 2 ^ 63) = uB b := by unfold uB; rw [pw_sh]
theorem rrB_sh (b r : Int) : rrB (b + 2 ^ 63) r = rrB b r := by unfold rrB; rw [mant_sh, uB_sh]
theorem sgS_p {b : Int} (h : Dbl b) : sgS b = Str.ofString "" := by
  obtain ⟨h0, h1⟩ := h
  unfold sgS; rw [if_neg (by omega)]
theorem sgS_n {b : Int} (h : Dbl b) : sgS (b + 2 ^ 63) = Str.ofString "-" := by
  obtain ⟨h0, h1⟩ := h
  unfold sgS; rw [if_pos (by omega)]
theorem swS_neg {b : Int} (h : Dbl b) : swS (b + 2 ^ 63) = Str.ofString "-" ++ swS b := by
  unfold swS; rw [shS_sh, shPl_sh, sgS_n h, sgS_p h, nil_app]
theorem tfS_neg {b : Int} (h : Dbl b) (pl : Int) : tfS (b + 2 ^ 63) pl = Str.ofString "-" ++ tfS b pl := by
  unfold tfS
  rw [top_sh, bot_sh, hupS_sh, padS_sh, swS_neg h, sgS_n h, sgS_p h]
  split
  · rfl
  · split
    · rw [nil_app]
    · simp only [nil_app, app_assoc]
theorem p_trneg {b : Int} (h : Dbl b) (r : Int) : trS (b + 2 ^ 63) r = Str.ofString "-" ++ trS b r := by
  unfold trS
  rw [top_sh, pw_sh, mant_sh, uB_sh, rrB_sh, sgS_n h, sgS_p h]
  split
  · rw [nil_app]
  · split
    · rw [nil_app]
    · simp only [nil_app, app_assoc]
theorem dlen_pos (x : Int) (h : 0 ≤ x) : 1 ≤ dlen x := by
  obtain ⟨k, rfl⟩ := Int.eq_ofNat_of_zero_le h
  have := toDigits_len_pos k
  rw [← str_len_nat] at this
  unfold dlen; omega
theorem shPl_nn (b : Int) : 0 ≤ shPl b := by
  have hu := sU_pos (m := mant b)
  have d1 : dlen (sU (mant b)) = 1 := by
    unfold sU
    split <;> decide
  have d2 := dlen_pos (sN (mant b) (pw b)) (sN_nn (mant_bd b).1)
  have d3 : 0 ≤ dpl (sN (mant b) (pw b)) (sU (mant b)) := by
    unfold dpl dplf
    rw [if_pos (by omega)]
    split <;> omega
  unfold shPl fpl
  rw [if_pos d3]
  (repeat' split) <;> omega
theorem p_big {b : Int} (hb : bot b * 10 ^ Int.toNat 21 ≤ top b) : 0 ≤ pw b ∧ 0 ≤ shPl b := by
  refine ⟨?_, shPl_nn b⟩
  by_cases h : 0 ≤ pw b
  · exact h
  · exfalso
    have e : top b = mant b := by unfold top; rw [if_neg h]
    have hm := (mant_bd b).2
    have hp := bot_pos b
    have e2 : (10 : Int) ^ Int.toNat 21 = 1000000000000000000000 := by decide
    rw [e, e2] at hb
    omega
theorem p_tfneg {b : Int} (h : Dbl b) : tfS (b + 2 ^ 63) 2 = Str.ofString "-" ++ tfS b 2 ∧ (bot (b + 2 ^ 63) * 10 ^ Int.toNat 21 ≤ top (b + 2 ^ 63) → 0 ≤ pw (b + 2 ^ 63) ∧ 0 ≤ shPl (b + 2 ^ 63)) :=
  ⟨tfS_neg h 2, p_big⟩
theorem hup_off (b pl : Int) : 0 - bot b < 2 * hupV b pl * bot b - 2 * top b * 10 ^ pl.toNat ∧ 2 * hupV b pl * bot b - 2 * top b * 10 ^ pl.toNat ≤ bot b := by
  have hb := bot_pos b
  have h1 := Int.mul_ediv_self_le (x := 2 * (top b * 10 ^ pl.toNat) + bot b) (k := 2 * bot b) (by omega)
  have h2 := Int.lt_mul_ediv_self_add (x := 2 * (top b * 10 ^ pl.toNat) + bot b) (k := 2 * bot b) (by omega)
  have e : hupV b pl = (2 * (top b * 10 ^ pl.toNat) + bot b) / (2 * bot b) := by unfold hupV; rfl
  rw [← e] at h1 h2
  have e1 : 2 * bot b * hupV b pl = 2 * hupV b pl * bot b := by rw [Int.mul_assoc, Int.mul_comm (bot b), ← Int.mul_assoc]
  have e2 : 2 * (top b * 10 ^ pl.toNat) = 2 * top b * 10 ^ pl.toNat := (Int.mul_assoc _ _ _).symm
  rw [e1, e2] at h1 h2
  omega
section
variable {w : World} {mean : ExcName → Option Value} {mg mb : Str → Option Value}
theorem p_fix (b pl : Int) (t1 t2 t3 : Tok) (h : Dbl b) (h0 : 0 ≤ pl) (h1 : pl ≤ 20) (hb : ¬ bot b * 10 ^ Int.toNat 21 ≤ top b) :
    Ct w mean mg mb 220 7 [.str (tfS b pl) t1, .int b t2, .int pl t3] P0 (OB true) := by
  have hv0 : 0 ≤ hupV b pl := by unfold hupV; exact hup_nn
  have hvb : intBits (hupV b pl) ≤ 1200 := by unfold hupV; exact hup_bits h1
  have hl := len_of_bits hv0 hvb (by decide)
  obtain ⟨v, hv⟩ := Int.eq_ofNat_of_zero_le hv0
  have hT : hupS b pl = Str.ofString (toString ((v : Nat) : Int)) := by unfold hupS; rw [hv]
  have hoff := hup_off b pl
  have hTl : (hupS b pl).length ≤ 600 := by rw [hT, ← hv]; exact hl.2
  have hbb : ¬ bot b * 10 ^ 21 ≤ top b := hb
  obtain ⟨hd0, hd1⟩ := h
  by_cases hpl : pl = 0
  · obtain ⟨f1, f2, f3, f4⟩ := fxp_0 hT
    have e : tfS b pl = hupS b pl := by
      unfold tfS
      rw [if_neg hbb, if_pos hpl, sgS_p ⟨hd0, hd1⟩, nil_app]
    have ep := part_none f1
    have hne : (hupS b pl).cps.toList ≠ [] := by
      intro e2
      rw [len_cl, e2] at f3
      exact absurd f3 (by decide)
    rw [e]
    refine ct_law_is_fixed (hupS b pl) (hupS b pl) (Str.ofString "") (Str.ofString "") b pl (hupV b pl) t1 t2 t3 (by omega) (by omega) h0 h1 (by omega) hb (by rw [ep]) (by rw [ep]) (by rw [ep]) (by rw [hpl]; decide) (by rw [hpl]; decide) f2 ⟨f3, hTl⟩ f4 ?_ ?_ (Nat.le_trans hvb (by decide)) hoff.1 hoff.2
    · rw [app_nil]; exact signs_digits (by rw [hT]; exact dt_all v)
    · rw [app_nil, hv]
      have := PySem.intText_digits (x := hupS b pl) (by rw [hT]; exact dt_all v) hne (by omega)
      rw [this, hT, KIN.signs_num, KIN.val_back]
  · have ep : padS b pl = Txt.mul (Str.ofString "0") (pl + 1 - (hupS b pl).length) ++ hupS b pl := by unfold padS; rfl
    have f := fxp_1 hT (by omega) ep rfl rfl
    have e : tfS b pl = Txt.slice (padS b pl) none (some ((padS b pl).length - pl)) ++ Str.ofString "." ++ Txt.slice (padS b pl) (some ((padS b pl).length - pl)) none := by
      unfold tfS
      rw [if_neg hbb, if_neg hpl, sgS_p ⟨hd0, hd1⟩, nil_app]
    have epart := part_dot (R := Txt.slice (padS b pl) (some ((padS b pl).length - pl)) none) f.dot
    have l1 := f.lp
    have l2 := f.l2
    have l3 := f.lr
    have l4 := f.lw
    have hne : (padS b pl).cps.toList ≠ [] := by
      intro e2
      have hz : (padS b pl).length = 0 := by rw [len_cl, e2]; rfl
      omega
    have ld : (Str.ofString ".").length = 1 := by decide
    rw [e]
    refine ct_law_is_fixed _ _ (Str.ofString ".") _ b pl (hupV b pl) t1 t2 t3 (by omega) (by omega) h0 h1 ?_ hb (by rw [epart]) (by rw [epart]) (by rw [epart]) f.lr ?_ f.ne ⟨f.lw, by omega⟩ f.hd ?_ ?_ (Nat.le_trans hvb (by decide)) hoff.1 hoff.2
    · rw [Str.length_append, Str.length_append, ld]; omega
    · have e3 : (Str.ofString "." == Str.ofString "") = false := by decide
      rw [e3]
      exact (beq_eq_false_iff_ne.mpr hpl).symm
    · rw [f.cat]; exact signs_digits f.dig
    · rw [f.cat, PySem.intText_digits f.dig hne (by omega), f.val, hv]
end
end

section
open PySem.Builtin.Int (intBits)
def hv (r : Int) (F : List Int) : Int := F.foldl (fun a d => a * r + d) 0
theorem hv_go (r : Int) : ∀ (F : List Int) (a : Int), F.foldl (fun a d => a * r + d) a = a * r ^ F.length + hv r F
  | [], a => by show a = a * r ^ 0 + 0; grind
  | d :: F, a => by
    have e1 : hv r (d :: F) = F.foldl (fun a d => a * r + d) (0 * r + d) := rfl
    have e2 : (d :: F).foldl (fun a d => a * r + d) a = F.foldl (fun a d => a * r + d) (a * r + d) := rfl
    have h1 := hv_go r F (a * r + d)
    have h2 := hv_go r F (0 * r + d)
    rw [e1, e2, h1, h2, List.length_cons, Int.pow_succ]
    grind
theorem hv_cons (r d : Int) (F : List Int) : hv r (d :: F) = d * r ^ F.length + hv r F := by
  have e1 : hv r (d :: F) = F.foldl (fun a d => a * r + d) (0 * r + d) := rfl
  rw [e1, hv_go, Int.zero_mul, Int.zero_add]
theorem hv_app (r : Int) (A B : List Int) : hv r (A ++ B) = hv r A * r ^ B.length + hv r B := by
  have e : hv r (A ++ B) = B.foldl (fun a d => a * r + d) (hv r A) := List.foldl_append ..
  rw [e, hv_go]
theorem hv_snoc (r : Int) (A : List Int) (d : Int) : hv r (A ++ [d]) = hv r A * r + d := by
  rw [hv_app, hv_cons]
  show hv r A * r ^ 1 + (d * r ^ 0 + 0) = _
  grind
theorem rpow_pos {r : Int} (h : 2 ≤ r) (n : Nat) : 0 < r ^ n := Int.pow_pos (by omega)
theorem rfGo_eq (u r : Int) (k : Nat) (x g : Int) : rfGo u r (k + 1) x g = (if x < g then ([], false) else if upB (x * r % u) u (x * r / u) = true ∧ u < x * r % u + g * r then ([x * r / u], true) else (x * r / u :: (rfGo u r k (x * r % u) (g * r)).1, (rfGo u r k (x * r % u) (g * r)).2) : List Int × Bool) := rfl
theorem rfGo_val {u r : Int} (hr : 2 ≤ r) : ∀ (k : Nat) (x g : Int), 0 ≤ x → x < u → 1 ≤ g → u ≤ g * 2 ^ k →
    ((rfGo u r k x g).2 = false → 0 ≤ x * r ^ (rfGo u r k x g).1.length - hv r (rfGo u r k x g).1 * u ∧ x * r ^ (rfGo u r k x g).1.length - hv r (rfGo u r k x g).1 * u < g * r ^ (rfGo u r k x g).1.length) ∧
    ((rfGo u r k x g).2 = true → 0 < (hv r (rfGo u r k x g).1 + 1) * u - x * r ^ (rfGo u r k x g).1.length ∧ (hv r (rfGo u r k x g).1 + 1) * u - x * r ^ (rfGo u r k x g).1.length < g * r ^ (rfGo u r k x g).1.length ∧ (rfGo u r k x g).1 ≠ [])
  | 0, x, g, h0, h1, h2, h3 => by
    have e : rfGo u r 0 x g = ([], false) := rfl
    rw [e]
    have h4 : u ≤ g := by rw [Int.pow_zero, Int.mul_one] at h3; exact h3
    refine ⟨fun _ => ?_, fun h => by cases h⟩
    show 0 ≤ x * r ^ 0 - 0 * u ∧ x * r ^ 0 - 0 * u < g * r ^ 0
    rw [Int.pow_zero]
    omega
  | k + 1, x, g, h0, h1, h2, h3 => by
    have hu : 0 < u := by omega
    have hm : x * r = u * (x * r / u) + x * r % u := (Int.mul_ediv_add_emod ..).symm
    have hy0 := Int.emod_nonneg (x * r) (show u ≠ 0 by omega)
    have hy1 := Int.emod_lt_of_pos (x * r) hu
    have hgr : 1 ≤ g * r := by
      have := Int.mul_le_mul h2 (show 1 ≤ r by omega) (by decide) (by omega)
      omega
    have hfu : u ≤ g * r * 2 ^ k := by
      rw [Int.pow_succ] at h3
      have h5 : g * 2 ≤ g * r := Int.mul_le_mul_of_nonneg_left hr (by omega)
      have h6 : g * 2 * 2 ^ k ≤ g * r * 2 ^ k := Int.mul_le_mul_of_nonneg_right h5 (Int.le_of_lt (two_pow_pos k))
      have h7 : g * (2 ^ k * 2) = g * 2 * 2 ^ k := by grind
      omega
    have ih := rfGo_val hr k (x * r % u) (g * r) hy0 hy1 hgr hfu
    rw [rfGo_eq]
    generalize x * r / u = q at *
    generalize x * r % u = y at *
    split
    · refine ⟨fun _ => ?_, fun h => by cases h⟩
      show 0 ≤ x * r ^ 0 - 0 * u ∧ x * r ^ 0 - 0 * u < g * r ^ 0
      rw [Int.pow_zero]
      omega
    · split
      · rename_i hup
        refine ⟨fun h => (by cases h), fun _ => ?_⟩
        show 0 < (0 * r + q + 1) * u - x * r ^ 1 ∧ (0 * r + q + 1) * u - x * r ^ 1 < g * r ^ 1 ∧ [q] ≠ []
        have e1 : (0 * r + q + 1) * u - x * r ^ 1 = u - y := by grind
        have e2 : g * r ^ 1 = g * r := by grind
        rw [e1, e2]
        refine ⟨by omega, by omega, by simp⟩
      · generalize (rfGo u r k y (g * r)).1 = F at *
        generalize (rfGo u r k y (g * r)).2 = up at *
        show (up = false → 0 ≤ x * r ^ (q :: F).length - hv r (q :: F) * u ∧ x * r ^ (q :: F).length - hv r (q :: F) * u < g * r ^ (q :: F).length) ∧ (up = true → 0 < (hv r (q :: F) + 1) * u - x * r ^ (q :: F).length ∧ (hv r (q :: F) + 1) * u - x * r ^ (q :: F).length < g * r ^ (q :: F).length ∧ (q :: F) ≠ [])
        rw [hv_cons, List.length_cons, Int.pow_succ]
        generalize r ^ F.length = z at *
        generalize hv r F = h at *
        have e1 : x * (z * r) - (q * z + h) * u = y * z - h * u := by grind
        have e2 : (q * z + h + 1) * u - x * (z * r) = (h + 1) * u - y * z := by grind
        have e3 : g * (z * r) = g * r * z := by grind
        rw [e1, e2, e3]
        exact ⟨ih.1, fun h => ⟨(ih.2 h).1, (ih.2 h).2.1, by simp⟩⟩
/-- no idle nought at the end -/
theorem rfGo_last {u r : Int} (hr : 2 ≤ r) : ∀ (k : Nat) (x g : Int), 0 ≤ x → x < u → 1 ≤ g → u ≤ g * 2 ^ k → (rfGo u r k x g).2 = false → (rfGo u r k x g).1 ≠ [] → (rfGo u r k x g).1.getLastD 0 ≠ 0
  | 0, x, g, h0, h1, h2, h3 => fun _ h => absurd rfl h
  | k + 1, x, g, h0, h1, h2, h3 => by
    have hu : 0 < u := by omega
    have hm : x * r = u * (x * r / u) + x * r % u := (Int.mul_ediv_add_emod ..).symm
    have hy0 := Int.emod_nonneg (x * r) (show u ≠ 0 by omega)
    have hy1 := Int.emod_lt_of_pos (x * r) hu
    have hgr : 1 ≤ g * r := by
      have := Int.mul_le_mul h2 (show 1 ≤ r by omega) (by decide) (by omega)
      omega
    have hfu : u ≤ g * r * 2 ^ k := by
      rw [Int.pow_succ] at h3
      have h5 : g * 2 ≤ g * r := Int.mul_le_mul_of_nonneg_left hr (by omega)
      have h6 : g * 2 * 2 ^ k ≤ g * r * 2 ^ k := Int.mul_le_mul_of_nonneg_right h5 (Int.le_of_lt (two_pow_pos k))
      have h7 : g * (2 ^ k * 2) = g * 2 * 2 ^ k := by grind
      omega
    have ih := rfGo_last hr k (x * r % u) (g * r) hy0 hy1 hgr hfu
    have iv := (rfGo_val hr k (x * r % u) (g * r) hy0 hy1 hgr hfu).1
    rw [rfGo_eq]
    split
    · exact fun _ h => absurd rfl h
    · rename_i hxg
      split
      · exact fun h => (by cases h)
      · intro hf _
        have hf' : (rfGo u r k (x * r % u) (g * r)).2 = false := hf
        have ih' := ih hf'
        have iv' := iv hf'
        show (x * r / u :: (rfGo u r k (x * r % u) (g * r)).1).getLastD 0 ≠ 0
        cases hF : (rfGo u r k (x * r % u) (g * r)).1 with
        | nil =>
          rw [hF] at iv'
          have h8 : x * r % u * r ^ 0 - 0 * u < g * r * r ^ 0 := iv'.2
          rw [Int.pow_zero] at h8
          show x * r / u ≠ 0
          intro h9
          have h10 : g * r ≤ x * r := Int.mul_le_mul_of_nonneg_right (by omega) (by omega)
          rw [h9] at hm
          omega
        | cons a A =>
          rw [hF] at ih'
          exact ih' (by simp)
end

section
open PySem.Builtin.Int (intBits)
theorem carrRev_val {r : Int} (hr : 2 ≤ r) : ∀ L : List Int, (∀ d ∈ L, 0 ≤ d ∧ d < r) →
    ∃ k, L.length = (carrRev r L).1.length + k ∧ ((carrRev r L).2 * r ^ (carrRev r L).1.length + hv r (carrRev r L).1.reverse) * r ^ k = hv r L.reverse + 1 ∧ ((carrRev r L).1 ≠ [] → (carrRev r L).1.headD 0 ≠ 0)
  | [], _ => ⟨0, rfl, (by show (1 * r ^ 0 + 0) * r ^ 0 = 0 + 1; rw [Int.pow_zero]; decide), fun h => absurd rfl h⟩
  | d :: t, h => by
    by_cases hd : d = r - 1
    · have e : carrRev r (d :: t) = carrRev r t := by
        show (if d = r - 1 then _ else _) = _
        rw [if_pos hd]
      obtain ⟨k, e1, e2, e3⟩ := carrRev_val hr t (fun x hx => h x (.tail _ hx))
      rw [e]
      refine ⟨k + 1, by rw [List.length_cons]; omega, ?_, e3⟩
      rw [List.reverse_cons, hv_snoc, Int.pow_succ, ← Int.mul_assoc, e2, hd]
      generalize hv r t.reverse = z
      grind
    · have e : carrRev r (d :: t) = ((d + 1) :: t, 0) := by
        show (if d = r - 1 then _ else _) = _
        rw [if_neg hd]
      rw [e]
      refine ⟨0, rfl, ?_, fun _ => ?_⟩
      · show (0 * r ^ ((d + 1) :: t).length + hv r ((d + 1) :: t).reverse) * r ^ 0 = _
        rw [List.reverse_cons, List.reverse_cons, hv_snoc, hv_snoc, Int.pow_zero, Int.zero_mul]
        omega
      · show d + 1 ≠ 0
        have := (h d (.head _)).1
        omega
theorem carr_val {r : Int} (hr : 2 ≤ r) {F : List Int} (h : ∀ d ∈ F, 0 ≤ d ∧ d < r) :
    ∃ k, F.length = (carr r F).1.length + k ∧ ((carr r F).2 * r ^ (carr r F).1.length + hv r (carr r F).1) * r ^ k = hv r F + 1 ∧ ((carr r F).1 ≠ [] → (carr r F).1.getLastD 0 ≠ 0) := by
  obtain ⟨k, e1, e2, e3⟩ := carrRev_val hr F.reverse (fun d hd => h d (List.mem_reverse.mp hd))
  unfold carr
  refine ⟨k, ?_, ?_, ?_⟩
  · rw [List.length_reverse] at e1
    rw [List.length_reverse]
    exact e1
  · rw [List.reverse_reverse] at e2
    rw [List.length_reverse]
    exact e2
  · intro hne
    cases hc : (carrRev r F.reverse).1 with
    | nil => rw [hc] at hne; exact absurd rfl hne
    | cons a t =>
      have e4 := e3 (by rw [hc]; exact List.cons_ne_nil _ _)
      rw [hc] at e4
      have e5 : a ≠ 0 := e4
      rw [List.reverse_cons, List.getLastD_concat]
      exact e5
theorem lt_of_mul_p {a b p : Int} (hp : 0 < p) (h : a * p < b * p) : a < b := Int.lt_of_mul_lt_mul_right h (Int.le_of_lt hp)
theorem rfR_val {x u r : Int} (hr : 2 ≤ r) (h0 : 0 ≤ x) (h1 : x < u) (hu : u < 2 ^ 1100) :
    -(r ^ (rfR x u r).1.length) < ((rfR x u r).2 * r ^ (rfR x u r).1.length + hv r (rfR x u r).1) * u - x * r ^ (rfR x u r).1.length ∧
    ((rfR x u r).2 * r ^ (rfR x u r).1.length + hv r (rfR x u r).1) * u - x * r ^ (rfR x u r).1.length < r ^ (rfR x u r).1.length ∧
    ((rfR x u r).1 ≠ [] → (rfR x u r).1.getLastD 0 ≠ 0) := by
  have hv0 := rfGo_val hr 1100 x 1 h0 h1 (Int.le_refl 1) (by rw [Int.one_mul]; exact Int.le_of_lt hu)
  have hl0 := rfGo_last hr 1100 x 1 h0 h1 (Int.le_refl 1) (by rw [Int.one_mul]; exact Int.le_of_lt hu)
  have hd0 : ∀ d ∈ (rfGo u r 1100 x 1).1, 0 ≤ d ∧ d < r := by
    have key : ∀ (k : Nat) (x g : Int), 0 ≤ x → x < u → ∀ d ∈ (rfGo u r k x g).1, 0 ≤ d ∧ d < r := by
      intro k
      induction k with
      | zero => intro x g _ _ d hd; exact nomatch hd
      | succ k ih =>
        intro x g a b d hd
        have hu : 0 < u := by omega
        have hq : 0 ≤ x * r / u ∧ x * r / u < r := by
          refine ⟨Int.ediv_nonneg (Int.mul_nonneg a (by omega)) (by omega), Int.ediv_lt_of_lt_mul hu ?_⟩
          rw [Int.mul_comm r u]
          exact Int.mul_lt_mul_of_pos_right b (by omega)
        rw [rfGo_eq] at hd
        split at hd
        · exact nomatch hd
        · split at hd
          · rw [List.mem_singleton.mp hd]; exact hq
          · rcases List.mem_cons.mp hd with rfl | hd
            · exact hq
            · exact ih _ _ (Int.emod_nonneg _ (by omega)) (Int.emod_lt_of_pos _ hu) d hd
    exact key 1100 x 1 h0 h1
  unfold rfR
  generalize rfGo u r 1100 x 1 = G at *
  obtain ⟨F, up⟩ := G
  dsimp only at *
  cases up with
  | false =>
    rw [if_neg (by decide)]
    dsimp only
    obtain ⟨a, b⟩ := hv0.1 rfl
    rw [Int.one_mul] at b
    have hp := rpow_pos hr F.length
    refine ⟨?_, ?_, fun h => hl0 rfl h⟩ <;> (rw [Int.zero_mul, Int.zero_add]; omega)
  | true =>
    rw [if_pos rfl]
    obtain ⟨a, b, c⟩ := hv0.2 rfl
    rw [Int.one_mul] at b
    obtain ⟨k, e1, e2, e3⟩ := carr_val hr hd0
    generalize (carr r F).1 = F' at *
    generalize (carr r F).2 = c' at *
    have hp := rpow_pos hr F'.length
    have hk := rpow_pos hr k
    rw [e1, Int.pow_add, ← e2] at a b
    generalize hz : c' * r ^ F'.length + hv r F' = z at *
    generalize r ^ F'.length = y at *
    generalize r ^ k = p at *
    have e5 : z * p * u - x * (y * p) = (z * u - x * y) * p := by grind
    rw [e5] at a b
    have a' : 0 < z * u - x * y := lt_of_mul_p hk (by rw [Int.zero_mul]; exact a)
    have b' := lt_of_mul_p hk b
    exact ⟨by omega, b', e3⟩
theorem rfR_zero {u r : Int} : rfR 0 u r = ([], 0) := by
  have e : rfGo u r 1100 0 1 = ([], false) := by
    rw [rfGo_eq, if_pos (by decide)]
  exact rfR_end e
theorem digs_succ (r : Int) (k : Nat) (n : Int) : digs r (k + 1) n = if n ≤ 0 then [] else n % r :: digs r k (n / r) := rfl
theorem digs_nil (r : Int) (k : Nat) : digs r k 0 = [] := by
  cases k with
  | zero => rfl
  | succ k => rw [digs_succ, if_pos (by decide)]
theorem digs_val {r : Int} (hr : 2 ≤ r) : ∀ (k : Nat) (n : Int), 0 ≤ n → n < 2 ^ k → hv r (digs r k n).reverse = n
  | 0, n, h0, h1 => by
    rw [Int.pow_zero] at h1
    have : n = 0 := by omega
    rw [this]; rfl
  | k + 1, n, h0, h1 => by
    rw [digs_succ]
    split
    · have : n = 0 := by omega
      rw [this]; rfl
    · rw [List.reverse_cons, hv_snoc, digs_val hr k (n / r) (Int.ediv_nonneg h0 (by omega)) (two_le_div h0 h1 hr (by omega))]
      exact Int.mul_comm (n / r) r ▸ Int.mul_ediv_add_emod n r
theorem digs_ok {r : Int} (hr : 2 ≤ r) : ∀ (k : Nat) (n : Int), ∀ d ∈ digs r k n, 0 ≤ d ∧ d < r
  | 0, n => fun d hd => nomatch hd
  | k + 1, n => by
    intro d hd
    rw [digs_succ] at hd
    split at hd
    · exact nomatch hd
    · rcases List.mem_cons.mp hd with rfl | hd
      · exact ⟨Int.emod_nonneg _ (by omega), Int.emod_lt_of_pos _ (by omega)⟩
      · exact digs_ok hr k _ d hd
theorem digs_top {r : Int} (hr : 2 ≤ r) : ∀ (k : Nat) (n : Int), 0 < n → n < 2 ^ k → ∃ l d, digs r k n = l ++ [d] ∧ d ≠ 0
  | 0, n, h0, h1 => by rw [Int.pow_zero] at h1; omega
  | k + 1, n, h0, h1 => by
    rw [digs_succ, if_neg (by omega)]
    by_cases hq : n / r = 0
    · refine ⟨[], n % r, ?_, ?_⟩
      · rw [hq, digs_nil]; rfl
      · have := Int.mul_ediv_add_emod n r
        rw [hq, Int.mul_zero] at this
        omega
    · have h2 : 0 ≤ n / r := Int.ediv_nonneg (by omega) (by omega)
      obtain ⟨l, d, e1, e2⟩ := digs_top hr k (n / r) (by omega) (two_le_div (by omega) h1 hr (by omega))
      exact ⟨n % r :: l, d, by rw [e1]; rfl, e2⟩
theorem wfD_ok {n r : Int} (hr : 2 ≤ r) : ∀ d ∈ wfD n r, 0 ≤ d ∧ d < r := by
  unfold wfD
  split
  · intro d hd
    rw [List.mem_singleton.mp hd]
    omega
  · exact digs_ok hr _ _
theorem wfD_val {n r : Int} (hr : 2 ≤ r) (h0 : 0 ≤ n) (h1 : n < 2 ^ 1101) : hv r (wfD n r).reverse = n := by
  unfold wfD
  split
  · rename_i h; rw [h]; show 0 * r + 0 = 0; rw [Int.zero_mul]; rfl
  · exact digs_val hr 1101 n h0 h1
theorem wfD_head {n r : Int} (hr : 2 ≤ r) (h0 : 0 ≤ n) (h1 : n < 2 ^ 1101) : ∃ d l, (wfD n r).reverse = d :: l ∧ (d = 0 → l = []) := by
  unfold wfD
  split
  · exact ⟨0, [], rfl, fun _ => rfl⟩
  · obtain ⟨l, d, e1, e2⟩ := digs_top hr 1101 n (by omega) h1
    exact ⟨d, l.reverse, by rw [e1, List.reverse_append]; rfl, fun h => absurd h e2⟩
-- texts
@[irreducible] def figC (d : Int) : Nat := (figS d).cps.toList.headD 0
theorem fig_tab0 : ∀ i : _root_.Fin 36, (figS (i.val : Int)).cps.toList = [figC (i.val : Int)] ∧ valC ((figC (i.val : Int) : Nat) : Int) = (i.val : Int) ∧ (figC (i.val : Int) = 48 → i.val = 0) ∧ figC (i.val : Int) ≠ 46 := by
  unfold figC figS valC
  decide +kernel
theorem fig_tab {d : Int} (h : 0 ≤ d ∧ d < 36) : (figS d).cps.toList = [figC d] ∧ valC ((figC d : Nat) : Int) = d ∧ (figC d = 48 → d = 0) ∧ figC d ≠ 46 := by
  obtain ⟨k, rfl⟩ := Int.eq_ofNat_of_zero_le h.1
  have := fig_tab0 ⟨k, by omega⟩
  dsimp only at this
  exact ⟨this.1, this.2.1, fun e => by have := this.2.2.1 e; omega, this.2.2.2⟩
theorem join_cl0 : ∀ L : List Str, (Str.join (Str.ofString "") L).cps.toList = L.flatMap (fun x => x.cps.toList)
  | [] => rfl
  | [x] => by show x.cps.toList = _; simp
  | x :: y :: r => by
    have ih := join_cl0 (y :: r)
    rw [join_cons_cons, cl_app, cl_app, ih, nil_eq]
    simp
theorem join_cl (L : List Str) : (Txt.join (Str.ofString "") L).cps.toList = L.flatMap (fun x => x.cps.toList) := by
  show (Builtin.Str.glued (Str.ofString "") L).cps.toList = _
  rw [StrLaws.glued_eq_join, join_cl0]
theorem figs_cl : ∀ D : List Int, (∀ d ∈ D, 0 ≤ d ∧ d < 36) → (Txt.join (Str.ofString "") (D.map figS)).cps.toList = D.map figC := by
  intro D h
  rw [join_cl]
  induction D with
  | nil => rfl
  | cons d t ih =>
    rw [List.map_cons, List.flatMap_cons, ih (fun x hx => h x (.tail _ hx)), (fig_tab (h d (.head _))).1]
    rfl
theorem wfS_cl {n r : Int} (hr : 2 ≤ r) (hr1 : r ≤ 36) : (wfS n r).cps.toList = (wfD n r).reverse.map figC := by
  unfold wfS
  rw [← List.map_reverse, figs_cl]
  intro d hd
  have := wfD_ok hr d (List.mem_reverse.mp hd)
  omega
theorem worth_go {r : Int} : ∀ (D : List Int) (a : Int), (∀ d ∈ D, 0 ≤ d ∧ d < 36) → ((D.map figC).map (fun (c : Nat) => (c : Int))).foldl (fun a c => a * r + valC c) a = D.foldl (fun a d => a * r + d) a
  | [], _, _ => rfl
  | d :: t, a, h => by
    show ((t.map figC).map (fun (c : Nat) => (c : Int))).foldl (fun a c => a * r + valC c) (a * r + valC ((figC d : Nat) : Int)) = t.foldl (fun a d => a * r + d) (a * r + d)
    rw [(fig_tab (h d (.head _))).2.1]
    exact worth_go t _ (fun x hx => h x (.tail _ hx))
theorem worth_cl {r : Int} {x : Str} {D : List Int} (e : x.cps.toList = D.map figC) (h : ∀ d ∈ D, 0 ≤ d ∧ d < 36) : worth r (KStt.codes x) = hv r D := by
  unfold worth hv KStt.codes
  rw [e]
  exact worth_go D 0 h
theorem codes_ok {r : Int} {x : Str} {D : List Int} (e : x.cps.toList = D.map figC) (h : ∀ d ∈ D, 0 ≤ d ∧ d < r) (hr1 : r ≤ 36) : ∀ c ∈ KStt.codes x, 0 ≤ valC c ∧ valC c < r := by
  intro c hc
  unfold KStt.codes at hc
  rw [e] at hc
  obtain ⟨k, hk, rfl⟩ := List.mem_map.mp hc
  obtain ⟨d, hd, rfl⟩ := List.mem_map.mp hk
  have h1 := h d hd
  rw [(fig_tab (d := d) (by omega)).2.1]
  exact h1
theorem hv_bd {r : Int} (hr : 2 ≤ r) : ∀ D : List Int, (∀ d ∈ D, 0 ≤ d ∧ d < r) → 0 ≤ hv r D ∧ hv r D < r ^ D.length
  | [], _ => by show (0 : Int) ≤ 0 ∧ (0 : Int) < r ^ 0; rw [Int.pow_zero]; decide
  | d :: t, h => by
    obtain ⟨a, b⟩ := hv_bd hr t (fun x hx => h x (.tail _ hx))
    obtain ⟨c, c'⟩ := h d (.head _)
    have hp := rpow_pos hr t.length
    rw [hv_cons, List.length_cons, Int.pow_succ]
    generalize r ^ t.length = p at *
    have h1 : 0 ≤ d * p := Int.mul_nonneg c (by omega)
    have h2 : (d + 1) * p ≤ r * p := Int.mul_le_mul_of_nonneg_right (by omega) (by omega)
    have h3 : (d + 1) * p = d * p + p := by grind
    have h4 : p * r = r * p := Int.mul_comm ..
    omega
theorem hv_bits {r : Int} (hr : 2 ≤ r) (hr1 : r ≤ 36) {D : List Int} (h : ∀ d ∈ D, 0 ≤ d ∧ d < r) (hl : D.length ≤ 2201) : intBits (hv r D) ≤ 15000 := by
  obtain ⟨a, b⟩ := hv_bd hr D h
  have h1 : intBits (r ^ D.length) ≤ 15000 := Nat.le_trans (intBits_pow_le (m := 6) (intBits_le_iff.mpr (by show r.natAbs < 64; omega)) D.length) (by omega)
  exact intBits_le_of_natAbs (y := r ^ D.length) (by omega) h1
end

section
open PySem.Builtin.Int (intBits)
/-- the gap to the next double, its mantissa's side below the point -/
theorem gap_neg {b : Int} (h0 : 0 < b) (h1 : b < 2047 * 2 ^ 52) (h2 : 950 ≤ b / 2 ^ 52) (h3 : b / 2 ^ 52 ≤ 1120) (hp : pw b < 0) :
    top (b + 1) * bot b + (0 - top b) * bot (b + 1) = bot (b + 1) := by
  have q0 := pw_1 (b := b) (by omega) (by omega) (by omega)
  have m0 := mant_1 (b := b) (by omega) (by omega) (by omega)
  have q1 := pw_1 (b := b + 1) (by omega) (by omega) (by omega)
  have m1 := mant_1 (b := b + 1) (by omega) (by omega) (by omega)
  have et : top b = mant b := by unfold top; rw [if_neg (by omega)]
  have eb : bot b = 2 ^ (-pw b).toNat := by unfold bot; rw [if_neg (by omega)]
  by_cases hc : (b + 1) / 2 ^ 52 = b / 2 ^ 52
  · have ep : pw (b + 1) = pw b := by omega
    have em : mant (b + 1) = mant b + 1 := by omega
    have et1 : top (b + 1) = mant (b + 1) := by unfold top; rw [if_neg (by omega)]
    have eb1 : bot (b + 1) = bot b := by unfold bot; rw [ep]
    rw [et, et1, eb1, em]
    generalize bot b = U
    generalize mant b = M
    grind
  · have ep : pw (b + 1) = pw b + 1 := by omega
    have em : mant (b + 1) = 2 ^ 52 := by omega
    have em0 : mant b = 2 ^ 53 - 1 := by omega
    by_cases hz : pw b + 1 < 0
    · have et1 : top (b + 1) = mant (b + 1) := by unfold top; rw [if_neg (by omega)]
      have eb1 : bot (b + 1) = 2 ^ (-pw (b + 1)).toNat := by unfold bot; rw [if_neg (by omega)]
      have e2 : (-pw b).toNat = (-pw (b + 1)).toNat + 1 := by omega
      have e3 : bot b = bot (b + 1) * 2 := by rw [eb, eb1, e2, Int.pow_succ]
      rw [et, et1, e3, em, em0]
      generalize bot (b + 1) = V
      omega
    · have ez : pw b = -1 := by omega
      have ez1 : pw (b + 1) = 0 := by omega
      have et1 : top (b + 1) = 2 ^ 52 := by unfold top; rw [if_pos (by omega), em, ez1]; decide
      have eb1 : bot (b + 1) = 1 := by unfold bot; rw [if_pos (by omega)]
      have eb0 : bot b = 2 := by rw [eb, ez]; decide
      rw [et, et1, eb1, eb0, em0]
      decide
theorem ab_lt {D R : Int} (h1 : -R < 2 * D) (h2 : 2 * D < R) : 2 * (if D < 0 then -D else D) < R := by split <;> omega
theorem rdB_arith {D R U V : Int} (hU : 0 < U) (hV : 0 < V) (h1 : -R < 2 * D) (h2 : 2 * D < R) : (if D < 0 then -D else D) * (2 * V * U) - V * (R * U) < 0 := by
  have h := ab_lt h1 h2
  generalize (if D < 0 then -D else D) = A at *
  have e : A * (2 * V * U) - V * (R * U) = (2 * A - R) * (V * U) := by grind
  rw [e]
  exact Int.mul_neg_of_neg_of_pos (by omega) (Int.mul_pos hV hU)
end

section
open PySem.Builtin.Int (intBits)
theorem figs_no46 {D : List Int} {r : Int} (h : ∀ d ∈ D, 0 ≤ d ∧ d < r) (hr : r ≤ 36) : 46 ∉ D.map figC := by
  intro hm
  obtain ⟨d, hd, e⟩ := List.mem_map.mp hm
  have := h d hd
  exact (fig_tab (d := d) (by omega)).2.2.2 e
theorem beq_nil_of_len {x : Str} (h : 1 ≤ x.length) : (x == Str.ofString "") = false := by
  rw [beq_eq_false_iff_ne]
  intro e
  rw [e] at h
  exact absurd h (by decide)
theorem uB_bot {b : Int} (h : pw b < 0) : uB b = bot b := by
  unfold uB bot
  rw [if_neg (by omega), Int.zero_sub]
theorem rd_eq {b r c N H : Int} {n : Nat} (e : N = mant b / uB b + c) (hp : pw b < 0) :
    2 * ((N * r ^ n + H) * bot b - top b * r ^ n) = (c * r ^ n + H) * (2 * uB b) - 2 * (mant b % uB b) * r ^ n := by
  have et : top b = mant b := by unfold top; rw [if_neg (by omega)]
  have h := Int.mul_ediv_add_emod (mant b) (uB b)
  rw [et, ← uB_bot hp, e]
  generalize mant b / uB b = k at *
  generalize mant b % uB b = y at *
  generalize uB b = U at *
  generalize mant b = M at *
  generalize r ^ n = R at *
  subst h
  grind
section
variable {w : World} {mean : ExcName → Option Value} {mg mb : Str → Option Value}
theorem rad_core (b r : Int) (t1 t2 t3 : Tok) (x W P R : Str) (D F : List Int) (h0 : 0 ≤ b) (h1 : b + 1 < 2 ^ 63) (hr0 : 2 ≤ r) (hr1 : r ≤ 36)
    (eW : W.cps.toList = D.map figC) (eR : R.cps.toList = F.map figC) (hD : ∀ d ∈ D, 0 ≤ d ∧ d < r) (hF : ∀ d ∈ F, 0 ≤ d ∧ d < r) (hDl : D.length ≤ 1101) (hFl : F.length ≤ 1100)
    (hDh : ∃ d l, D = d :: l ∧ (d = 0 → l = [])) (hFe : F ≠ [] → F.getLastD 0 ≠ 0) (hx : Txt.partition x (Str.ofString ".") = (W, P, R)) (hPP : (P == Str.ofString "") = (R == Str.ofString "")) (hxl : x.length ≤ 5000)
    (hA : top b % bot b = 0 → F = [] ∧ RdA b (hv r (D ++ F)) r F.length) (hB : top b % bot b ≠ 0 → RdB b (hv r (D ++ F)) r F.length) :
    Ct w mean mg mb 234 4 [.str x t1, .int b t2, .int r t3] P0 (OB true) := by
  have lW : W.length = D.length := by rw [len_cl, eW, List.length_map]
  have lR : R.length = F.length := by rw [len_cl, eR, List.length_map]
  have eWR : (W ++ R).cps.toList = (D ++ F).map figC := by rw [cl_app, eW, eR, List.map_append]
  have hDF : ∀ d ∈ D ++ F, 0 ≤ d ∧ d < r := fun d hd => (List.mem_append.mp hd).elim (hD d) (hF d)
  have ew : worth r (KStt.codes (W ++ R)) = hv r (D ++ F) := worth_cl eWR (fun d hd => by have := hDF d hd; omega)
  obtain ⟨d, l, eD, hd0⟩ := hDh
  have hW1 : 1 ≤ W.length := by rw [lW, eD, List.length_cons]; omega
  have hRnil : F = [] → (R == Str.ofString "") = true := by
    intro e
    rw [e] at eR
    rw [beq_iff_eq]
    refine str_ext ?_
    rw [eR, nil_eq]; rfl
  have hd1 := hD d (by rw [eD]; exact .head _)
  refine ct_law_is_by_radix x W P R b r t1 t2 t3 h0 h1 hr0 hr1 hxl (by rw [hx]) (by rw [hx]) (by rw [hx]) ⟨hW1, by omega⟩ (by omega) hPP (beq_nil_of_len hW1) ?_ ?_ (codes_ok eWR hDF hr1) ?_ ?_ ?_
  · have e2 : W.cps.toList = figC d :: l.map figC := by rw [eW, eD]; rfl
    by_cases hc : figC d = 48
    · refine .inr ?_
      have e3 := (fig_tab (d := d) (by omega)).2.2.1 hc
      rw [beq_iff_eq]
      refine str_ext ?_
      rw [e2, hc, hd0 e3, zero_eq]; rfl
    · refine .inl ?_
      rw [item_head e2, zero_eq]
      exact one_beq hc
  · by_cases hF0 : F = []
    · exact .inl (hRnil hF0)
    · refine .inr ?_
      have e4 := List.dropLast_concat_getLast hF0
      have e5 : F.getLast hF0 = F.getLastD 0 := by rw [List.getLastD_eq_getLast?, List.getLast?_eq_some_getLast hF0]; rfl
      have e6 := hFe hF0
      rw [e5] at e4
      have e7 : R.cps.toList = F.dropLast.map figC ++ [figC (F.getLastD 0)] := by
        rw [eR]
        conv => lhs; rw [← e4]
        rw [List.map_append]; rfl
      have h8 := hF (F.getLastD 0) (e5 ▸ List.getLast_mem hF0)
      rw [item_last e7, zero_eq]
      exact one_beq (fun hc => e6 ((fig_tab (d := F.getLastD 0) (by omega)).2.2.1 hc))
  · rw [ew]
    exact hv_bits hr0 hr1 hDF (by rw [List.length_append]; omega)
  · intro h
    obtain ⟨a, c⟩ := hA h
    rw [ew, lR]
    exact ⟨hRnil a, c⟩
  · intro h
    rw [ew, lR]
    exact hB h
theorem p_rad (b r : Int) (t1 t2 t3 : Tok) (h : Dbl b) (h0 : 2 ≤ r) (h1 : r ≤ 36) (h2 : 950 ≤ b / 2 ^ 52) (h3 : b / 2 ^ 52 ≤ 1120) :
    Ct w mean mg mb 234 4 [.str (trS b r) t1, .int b t2, .int r t3] P0 (OB true) := by
  have hsg := sgS_p h
  obtain ⟨hb0, hb1⟩ := h
  by_cases hp : 0 ≤ pw b
  · have e : trS b r = wfS (top b) r := by
      unfold trS
      rw [if_pos hp, hsg, nil_app]
    have ebot : bot b = 1 := by unfold bot; rw [if_pos hp]
    have eW := wfS_cl (n := top b) h0 h1
    have hD : ∀ d ∈ (wfD (top b) r).reverse, 0 ≤ d ∧ d < r := fun d hd => wfD_ok h0 d (List.mem_reverse.mp hd)
    have hno := figs_no46 hD h1
    rw [← eW] at hno
    rw [e]
    refine rad_core b r t1 t2 t3 _ _ (Str.ofString "") (Str.ofString "") _ [] (by omega) (by omega) h0 h1 eW (by rw [nil_eq]; rfl) hD (fun d hd => nomatch hd) (by rw [List.length_reverse]; exact wfD_len) (by decide) (wfD_head h0 (top_nonneg b) (top_lt b)) (fun h => absurd rfl h) (part_none hno) rfl (Nat.le_trans wfS_len (by decide)) ?_ ?_
    · intro _
      refine ⟨rfl, ?_⟩
      rw [List.append_nil, wfD_val h0 (top_nonneg b) (top_lt b)]
      unfold RdA
      rw [ebot]
      show top b * 1 - top b * r ^ 0 = 0
      rw [Int.pow_zero]
      omega
    · intro hc
      rw [ebot, Int.emod_one] at hc
      exact absurd rfl hc
  · have hp' : pw b < 0 := by omega
    have hpr : -130 ≤ pw b := by unfold pw; split <;> omega
    have hU := uB_pos b
    have hV := rfR_val h0 (rest_nn (b := b)) rest_lt (unit2_lt hpr)
    have hFd := rfR_dig (r := r) (rest_nn (b := b)) rest_lt (by omega)
    have hFl := rfR_len (2 * (mant b % uB b)) (2 * uB b) r
    have err : rrB b r = rfR (2 * (mant b % uB b)) (2 * uB b) r := by unfold rrB; rfl
    rw [← err] at hV hFd hFl
    have hn0 := whole_nn (b := b) (r := r)
    have hn1 := whole_lt (b := b) (r := r)
    have eN : mant b / uB b + (rrB b r).2 = mant b / uB b + (rrB b r).2 := rfl
    have et : top b = mant b := by unfold top; rw [if_neg hp]
    have eub := uB_bot hp'
    have hz : top b % bot b = 0 → rrB b r = ([], 0) := by
      intro hm
      rw [et, ← eub] at hm
      rw [err, hm]
      exact rfR_zero
    generalize hgN : mant b / uB b + (rrB b r).2 = N at *
    have hrd := rd_eq (b := b) (r := r) (c := (rrB b r).2) (N := N) (H := hv r (rrB b r).1) (n := (rrB b r).1.length) hgN.symm hp'
    have eW := wfS_cl (n := N) h0 h1
    have hD : ∀ d ∈ (wfD N r).reverse, 0 ≤ d ∧ d < r := fun d hd => wfD_ok h0 d (List.mem_reverse.mp hd)
    have hno := figs_no46 hD h1
    rw [← eW] at hno
    have eR : (Txt.join (Str.ofString "") ((rrB b r).1.map figS)).cps.toList = (rrB b r).1.map figC := figs_cl _ (fun d hd => by have := hFd d hd; omega)
    have hq : hv r ((wfD N r).reverse ++ (rrB b r).1) = N * r ^ (rrB b r).1.length + hv r (rrB b r).1 := by rw [hv_app, wfD_val h0 hn0 hn1]
    have hA : top b % bot b = 0 → (rrB b r).1 = [] ∧ RdA b (hv r ((wfD N r).reverse ++ (rrB b r).1)) r (rrB b r).1.length := by
      intro hm
      have hz' := hz hm
      have hm' := hm
      rw [et, ← eub] at hm'
      refine ⟨by rw [hz'], ?_⟩
      rw [hq]
      unfold RdA
      show (N * r ^ (rrB b r).1.length + hv r (rrB b r).1) * bot b - top b * r ^ (rrB b r).1.length = 0
      rw [hm', hz'] at hrd
      rw [hz']
      have e9 : (0 * r ^ ([] : List Int).length + hv r []) * (2 * uB b) - 2 * 0 * r ^ ([] : List Int).length = 0 := by
        show (0 * r ^ 0 + 0) * (2 * uB b) - 2 * 0 * r ^ 0 = 0
        rw [Int.zero_mul, Int.mul_zero, Int.zero_mul, Int.zero_add, Int.zero_mul]
        rfl
      dsimp only at hrd ⊢
      rw [e9] at hrd
      omega
    have hB : top b % bot b ≠ 0 → RdB b (hv r ((wfD N r).reverse ++ (rrB b r).1)) r (rrB b r).1.length := by
      intro _
      rw [hq]
      unfold RdB
      rw [gap_neg hb0 hb1 h2 h3 hp']
      show (if (N * r ^ (rrB b r).1.length + hv r (rrB b r).1) * bot b - top b * r ^ (rrB b r).1.length < 0 then -((N * r ^ (rrB b r).1.length + hv r (rrB b r).1) * bot b - top b * r ^ (rrB b r).1.length) else (N * r ^ (rrB b r).1.length + hv r (rrB b r).1) * bot b - top b * r ^ (rrB b r).1.length) * (2 * bot (b + 1) * bot b) - bot (b + 1) * (r ^ (rrB b r).1.length * bot b) < 0
      refine rdB_arith (bot_pos b) (bot_pos (b + 1)) ?_ ?_
      · rw [hrd]; exact hV.1
      · rw [hrd]; exact hV.2.1
    have hDl : (wfD N r).reverse.length ≤ 1101 := by rw [List.length_reverse]; exact wfD_len
    by_cases hF0 : (rrB b r).1.length = 0
    · have eF : (rrB b r).1 = [] := List.length_eq_zero_iff.mp hF0
      have e : trS b r = wfS N r := by
        unfold trS
        rw [if_neg hp, if_pos hF0, hsg, nil_app, hgN]
      rw [eF] at hA hB
      rw [e]
      exact rad_core b r t1 t2 t3 _ _ (Str.ofString "") (Str.ofString "") _ [] (by omega) (by omega) h0 h1 eW (by rw [nil_eq]; rfl) hD (fun d hd => nomatch hd) hDl (by decide) (wfD_head h0 hn0 hn1) (fun h => absurd rfl h) (part_none hno) rfl (Nat.le_trans wfS_len (by decide)) hA hB
    · have e : trS b r = wfS N r ++ Str.ofString "." ++ Txt.join (Str.ofString "") ((rrB b r).1.map figS) := by
        unfold trS
        rw [if_neg hp, if_neg hF0, hsg, nil_app, hgN]
      have lR : (Txt.join (Str.ofString "") ((rrB b r).1.map figS)).length = (rrB b r).1.length := by rw [len_cl, eR, List.length_map]
      have lW := wfS_len (n := N) (r := r)
      have ld : (Str.ofString ".").length = 1 := by decide
      rw [e]
      refine rad_core b r t1 t2 t3 _ _ (Str.ofString ".") _ _ _ (by omega) (by omega) h0 h1 eW eR hD hFd hDl hFl (wfD_head h0 hn0 hn1) hV.2.2 (part_dot hno) ?_ ?_ hA hB
      · rw [beq_nil_of_len (x := Txt.join _ _) (by rw [lR]; omega)]
        decide
      · rw [Str.length_append, Str.length_append, ld, lR]
        omega
end
end

section
open PySem.Builtin.Int (intBits)
theorem tf2_len {b : Int} : (tfS b 2).length ≤ 3000000 := by
  have a := swS_len (b := b)
  have c := sgS_len (b := b)
  have d : (Str.ofString ".").length = 1 := by decide
  have hv0 : 0 ≤ hupV b 2 := by unfold hupV; exact hup_nn
  have hvb : intBits (hupV b 2) ≤ 1200 := by unfold hupV; exact hup_bits (by decide)
  have hl : (hupS b 2).length ≤ 600 := by unfold hupS; exact (len_of_bits hv0 hvb (by decide)).2
  have hp : (padS b 2).length ≤ 1600 := by
    unfold padS
    rw [Str.length_append]
    have := mul_len (x := 2 + 1 - (hupS b 2).length) (by omega)
    omega
  have e := Txt.slice_le (padS b 2) none (some ((padS b 2).length - 2))
  have f := Txt.slice_le (padS b 2) (some ((padS b 2).length - 2)) none
  unfold tfS
  (repeat' split) <;> (try simp only [Str.length_append]) <;> omega
theorem tr_len {b r : Int} : (trS b r).length ≤ 3000000 := by
  have z11 := sgS_len (b := b)
  have z12 := wfS_len (n := top b) (r := r)
  have z13 := wfS_len (n := mant b / uB b + (rrB b r).2) (r := r)
  have d : (Str.ofString ".").length = 1 := by decide
  have z10 : (rrB b r).1.length ≤ 1100 := by unfold rrB; exact rfR_len _ _ _
  have z14 : (Txt.join (Str.ofString "") ((rrB b r).1.map figS)).length ≤ 1100 := by rw [join_nil_len]; exact Nat.le_trans (figs_sum _) z10
  unfold trS
  (repeat' split) <;> (try simp only [Str.length_append]) <;> omega
section
variable {prog : Program} {w : World} {A : Around} {E : Value → Shared → Prop} {s : Shared} {b r : Int} {t u : Tok} {Q : Value → Shared → Prop}
theorem add_tf (h : ∀ t' k, Q (.str (Str.ofString "-" ++ tfS b 2) t') { s with toks := k }) : wpAny (model prog w) A (binaryOp .Add (.str (Str.ofString "-") t) (.str (tfS b 2) u)) Q E s :=
  KXadd.add (K := 1) (L := 3000000) (by decide) tf2_len (by decide) fun t' k _ => h t' k
theorem add_tr (h : ∀ t' k, Q (.str (Str.ofString "-" ++ trS b r) t') { s with toks := k }) : wpAny (model prog w) A (binaryOp .Add (.str (Str.ofString "-") t) (.str (trS b r) u)) Q E s :=
  KXadd.add (K := 1) (L := 3000000) (by decide) tr_len (by decide) fun t' k _ => h t' k
end
end

section
open PySem.Builtin.Int (intBits)
variable {w : World} {mean : ExcName → Option Value} {mg mb : Str → Option Value}
theorem dl_1 {b : Int} (h : Dbl b) : b % 2 ^ 63 < 2047 * 2 ^ 52 ∧ b % 2 ^ 63 ≠ 0 ∧ (b + 2 ^ 63) % 2 ^ 63 < 2047 * 2 ^ 52 ∧ (b + 2 ^ 63) % 2 ^ 63 ≠ 0 ∧ 0 ≤ b ∧ b + 2 ^ 63 < 2 ^ 64 := by
  obtain ⟨h1, h2⟩ := h
  omega
theorem pw_rng {b : Int} (h : Dbl b) (h2 : 950 ≤ b / 2 ^ 52) (h3 : b / 2 ^ 52 ≤ 1120) : -130 ≤ pw b ∧ pw b ≤ 50 := by
  obtain ⟨h0, h1⟩ := h
  unfold pw
  split <;> omega
theorem pw_rng2 {b : Int} (h : Dbl b) (h2 : 950 ≤ b / 2 ^ 52) (h3 : b / 2 ^ 52 ≤ 1120) : -130 ≤ pw (b + 2 ^ 63) ∧ pw (b + 2 ^ 63) ≤ 50 := by
  obtain ⟨h0, h1⟩ := h
  unfold pw
  split <;> omega
theorem ct_tf (b many : Int) (t u : Tok) (h : Dbl b) (h0 : 0 ≤ many) (h1 : many ≤ 20) : Ct w mean mg mb 147 5 [.int b t, .int many u] P0 (OS (tfS b many)) := by
  have d := dl_1 h
  exact ct_to_fixed b many t u d.2.2.2.2.1 (by omega) d.1 d.2.1 h0 h1 (fun e => p_big e)
theorem ct_tfn (b : Int) (t u : Tok) (h : Dbl b) : Ct w mean mg mb 147 5 [.int (b + 2 ^ 63) t, .int 2 u] P0 (OS (Str.ofString "-" ++ tfS b 2)) := by
  have d := dl_1 h
  have e := p_tfneg h
  rw [← e.1]
  exact ct_to_fixed (b + 2 ^ 63) 2 t u (by omega) d.2.2.2.2.2 d.2.2.1 d.2.2.2.1 (by decide) (by decide) e.2
theorem ct_tr (b r : Int) (t u : Tok) (h : Dbl b) (h0 : 2 ≤ r) (h1 : r ≤ 36) (h2 : 950 ≤ b / 2 ^ 52) (h3 : b / 2 ^ 52 ≤ 1120) : Ct w mean mg mb 173 6 [.int b t, .int r u] P0 (OS (trS b r)) := by
  have d := dl_1 h
  have e := pw_rng h h2 h3
  exact ct_to_radix b r t u d.2.2.2.2.1 (by omega) d.1 d.2.1 h0 h1 e.1 e.2
theorem ct_trn (b r : Int) (t u : Tok) (h : Dbl b) (h0 : 2 ≤ r) (h1 : r ≤ 36) (h2 : 950 ≤ b / 2 ^ 52) (h3 : b / 2 ^ 52 ≤ 1120) : Ct w mean mg mb 173 6 [.int (b + 2 ^ 63) t, .int r u] P0 (OS (Str.ofString "-" ++ trS b r)) := by
  have d := dl_1 h
  have e := pw_rng2 h h2 h3
  rw [← p_trneg h r]
  exact ct_to_radix (b + 2 ^ 63) r t u (by omega) d.2.2.2.2.2 d.2.2.1 d.2.2.2.1 h0 h1 e.1 e.2
theorem tf_big {b pl : Int} (h : bot b * 10 ^ Int.toNat 21 ≤ top b) : tfS b pl = swS b := by
  unfold tfS
  exact if_pos h
theorem ct_fx (b pl : Int) (t1 t2 t3 : Tok) (h : Dbl b) (h0 : 0 ≤ pl) (h1 : pl ≤ 20) : Ct w mean mg mb 220 7 [.str (tfS b pl) t1, .int b t2, .int pl t3] P0 (OB true) := by
  have d := dl_1 h
  by_cases hb : bot b * 10 ^ Int.toNat 21 ≤ top b
  · have e := p_big hb
    rw [tf_big hb]
    exact ct_law_is_fixedB b pl t1 t2 t3 d.2.2.2.2.1 (by omega) d.1 d.2.1 h0 h1 hb e.1 e.2
  · exact p_fix b pl t1 t2 t3 h h0 h1 hb
def told : List Int := [4591870180066957722, 1, 9218868437227405311, 4921056587992461136, 4503599627370496, 4599676419421066581, 4845873199050653697, 4517329193108106637, 4609434218613702656, 4503599627370495]
theorem fd_t {n : Int} : Dbl (told.getD (n % 10).toNat 0) := by
  have h : n % 10 = 0 ∨ n % 10 = 1 ∨ n % 10 = 2 ∨ n % 10 = 3 ∨ n % 10 = 4 ∨ n % 10 = 5 ∨ n % 10 = 6 ∨ n % 10 = 7 ∨ n % 10 = 8 ∨ n % 10 = 9 := by omega
  unfold told
  rcases h with e | e | e | e | e | e | e | e | e | e <;> rw [e] <;> exact ⟨by decide, by decide⟩
theorem fd_1 {s : Int} : Dbl (1 + s / 3 % (2 ^ 63 - 2 ^ 52 - 1)) := ⟨by omega, by omega⟩
theorem fd_2 {s : Int} : Dbl (2 ^ 52 * (1000 + s / 3 % 47) + 2 ^ 45 * (s / 141 % 128)) := ⟨by omega, by omega⟩
abbrev Fd (pre found : List Int) : Prop := (∀ x ∈ found, Dbl x) ∧ found.length ≤ pre.length + 1
theorem fd_0 {n : Int} : Fd [] [told.getD (n % 10).toNat 0] := ⟨fun x hx => by rw [List.mem_singleton.mp hx]; exact fd_t, Nat.le_refl _⟩
theorem fd_add {pre found : List Int} {k e : Int} (h : ∀ x ∈ found, Dbl x) (hl : found.length ≤ pre.length + 1) (he : Dbl e) : Fd (pre ++ [k]) (found ++ [e]) := by
  refine ⟨fun x hx => ?_, ?_⟩
  · rcases List.mem_append.mp hx with hx | hx
    · exact h x hx
    · rw [List.mem_singleton.mp hx]; exact he
  · simp only [List.length_append, List.length_singleton]; omega







set_option maxHeartbeats 8000000 in
theorem main1 : PySem.Challenge.rw_nt0350_01.Holds := by
  k_with_none
  k_with "call type:str" => (k_here; (with_reducible show wpAny _ _ (call (Value.type "str") [Value.int _ _]) _ _ _); (refine' str_of_bits (by omega) (by bits_by_make) (by decide) ?_; k_whole; intro hL'))
  k_with "binaryOp FloorDiv int int" => (k_here; (refine' fdiv_bits (by first | assumption | omega | decide | exact two_pow_pos _) (by bits_by_make) (by decide) ?_; k_whole))
  k_with "binaryOp Mod int int" => (k_here; (refine' mod_bits (by first | assumption | omega | decide | exact two_pow_pos _) ?_; k_whole))
  k_with "binaryOp RShift int int" => (k_here; first | (with_reducible refine rsh52 ?_) | (with_reducible refine rsh63 ?_))
  k_with "binaryOp Pow int int" => (k_here; first | (with_reducible refine pow2_52 ?_) | (with_reducible refine pow2_63 ?_) | (with_reducible refine pow2_45 ?_))
  k_with "call ref" => (k_here; k_dflt (refine' ct_useB (p_rad _ _ _ _ _ ?_ ?_ ?_ ?_ ?_) (by k_asm) (by k_asm) (by k_asm) (by k_asm) (by k_asm) (by first | exact rfl | assumption) (by trivial) (by ktr_room) (by ktr_units) ?_; (next => first | assumption | exact (by assumption : ∀ x ∈ _, Dbl x) _ (by assumption)); (next => omega); (next => omega); (next => omega); (next => omega); k_whole; intro h' tk' F' N'; (try dsimp only); (try k_fold); (try k_sweep)))
  k_with "call ref" => (k_here; k_dflt (refine' ct_useS (ct_tr _ _ _ _ ?_ ?_ ?_ ?_ ?_) (by k_asm) (by k_asm) (by k_asm) (by k_asm) (by k_asm) (by first | exact rfl | assumption) (by trivial) (by ktr_room) (by ktr_units) ?_; (next => first | assumption | exact (by assumption : ∀ x ∈ _, Dbl x) _ (by assumption)); (next => omega); (next => omega); (next => omega); (next => omega); k_whole; intro t' h' tk' F' N'; (try dsimp only); (try k_fold); (try k_sweep)))
  k_with "call ref" => (k_here; k_dflt (refine' ct_useS (ct_trn _ _ _ _ ?_ ?_ ?_ ?_ ?_) (by k_asm) (by k_asm) (by k_asm) (by k_asm) (by k_asm) (by first | exact rfl | assumption) (by trivial) (by ktr_room) (by ktr_units) ?_; (next => first | assumption | exact (by assumption : ∀ x ∈ _, Dbl x) _ (by assumption)); (next => omega); (next => omega); (next => omega); (next => omega); k_whole; intro t' h' tk' F' N'; (try dsimp only); (try k_fold); (try k_sweep)))
  k_with "call ref" => (k_here; k_dflt (refine' ct_useB (ct_fx _ _ _ _ _ ?_ ?_ ?_) (by k_asm) (by k_asm) (by k_asm) (by k_asm) (by k_asm) (by first | exact rfl | assumption) (by trivial) (by ktr_room) (by ktr_units) ?_; (next => first | assumption | exact (by assumption : ∀ x ∈ _, Dbl x) _ (by assumption)); (next => omega); (next => omega); k_whole; intro h' tk' F' N'; (try dsimp only); (try k_fold); (try k_sweep)))
  k_with "call ref" => (k_here; k_dflt (refine' ct_useS (ct_tf _ _ _ _ ?_ ?_ ?_) (by k_asm) (by k_asm) (by k_asm) (by k_asm) (by k_asm) (by first | exact rfl | assumption) (by trivial) (by ktr_room) (by ktr_units) ?_; (next => first | assumption | exact (by assumption : ∀ x ∈ _, Dbl x) _ (by assumption)); (next => omega); (next => omega); k_whole; intro t' h' tk' F' N'; (try dsimp only); (try k_fold); (try k_sweep)))
  k_with "call ref" => (k_here; k_dflt (refine' ct_useS (ct_tfn _ _ _ ?_) (by k_asm) (by k_asm) (by k_asm) (by k_asm) (by k_asm) (by first | exact rfl | assumption) (by trivial) (by ktr_room) (by ktr_units) ?_; (next => first | assumption | exact (by assumption : ∀ x ∈ _, Dbl x) _ (by assumption)); k_whole; intro t' h' tk' F' N'; (try dsimp only); (try k_fold); (try k_sweep)))
  k_with "binaryOp Add str str" => (k_here; first | ((with_reducible refine add_tf ?_); intro _ _) | ((with_reducible refine add_tr ?_); intro _ _))
  k_with "pyIter ref" => (k_of "number" => k_state (fun pre found => Fd pre found) "found")
  k_with "pyIter ref" => (k_of "bits" => k_search (fun (_ : List Int) => True))
  k_with "state" => (first | exact fd_0 | exact fd_add (by assumption) (by assumption) fd_t | exact fd_add (by assumption) (by assumption) fd_1 | exact fd_add (by assumption) (by assumption) fd_2 | exact trivial)
  exact Mine.hd (by
    k_go0
    (all_goals try k_fold)
    w_top off
    k_steps)
end
end Mine


theorem PySem.Challenge.cw_nt0350_01_holds : PySem.Challenge.rw_nt0350_01.Holds :=
  Mine.main1
