import PyProof.Rows.All
import Wide.All
import OpenK.AllK
import Wide.FinOn
import PySem.Challenge.RW_nn0299_01
open PySem PySem.W PyProof.Rows
set_option Elab.async false
set_option maxRecDepth 100000
set_option maxHeartbeats 8000000
namespace Mine
open_top hd for PySem.Challenge.rw_nn0299_01
theorem primed : PySem.Challenge.rw_nn0299_01 = PySem.Challenge.rw_nn0299_01 ∧ hd.heap_39 = hd.heap_39 := by
  w_top off
  k_fill
  exact ⟨rfl, rfl⟩
end Mine
namespace Mine
noncomputable abbrev loose : List Str := looseW hd.view_39 [Str.ofString "GateloomError", Str.ofString "vec"]

/-- what holds of every call of the def at f: it comes back with a value and a ledger that Ret allows -/
def Con (w : World) (f : Addr) (d : Nat) (args : List Value) (news : List (Addr × Obj)) (Ret : Value → List (Addr × Obj) → Prop) : Prop :=
  ∀ (mean : ExcName → Option Value) (mg mb : Str → Option Value) (dp un : Nat) (gd : Option (List Code)) (cn : Str) (cs : Scope) (a : Addr) (ccd : Value) (cl : List (Str × Addr)) (outer : List Env) (A₀ : Around) (base h₀ : Heap) (L : Addr) (m : Str → Option Value) (s : Shared)
    (Q E : Value → Shared → Prop),
    Below A₀ base outer h₀ → Fr h₀ L s.heap m → (hd.heap_39 w.params).In h₀ → News h₀ L s.heap news → Top hd.view_39 loose mean mg mb h₀ → cs.kind = .function → dp + d < recursionLimit → un + 8 * d < cLine →
    (∀ r nx h' tk', Fr h₀ L h' m → News h₀ L h' nx → Ret r nx → Q r { s with heap := h', toks := tk' }) →
    wpAny (model PySem.Challenge.rw_nn0299_01.row.prog w) (ktrTop dp un gd cn cs L a ccd cl outer) (call (.ref f) args) Q E s
theorem Con.use {w : World} {f : Addr} {d : Nat} {args : List Value} {news : List (Addr × Obj)} {Ret : Value → List (Addr × Obj) → Prop} (C : Con w f d args news Ret)
    {mean : ExcName → Option Value} {mg mb : Str → Option Value} {dp un : Nat} {gd : Option (List Code)} {cn : Str} {cs : Scope} {a : Addr} {ccd : Value} {cl : List (Str × Addr)} {outer : List Env} {A₀ : Around} {base h₀ : Heap} {L : Addr} {m : Str → Option Value} {s : Shared}
    {Q E : Value → Shared → Prop}
    (B : Below A₀ base outer h₀) (F : Fr h₀ L s.heap m) (X : (hd.heap_39 w.params).In h₀) (N : News h₀ L s.heap news) (T : Top hd.view_39 loose mean mg mb h₀) (hk : cs.kind = .function) (hd : dp + d < recursionLimit) (hu : un + 8 * d < cLine)
    (ret : ∀ r nx h' tk', Fr h₀ L h' m → News h₀ L h' nx → Ret r nx → Q r { s with heap := h', toks := tk' }) :
    wpAny (model PySem.Challenge.rw_nn0299_01.row.prog w) (ktrTop dp un gd cn cs L a ccd cl outer) (call (.ref f) args) Q E s :=
  C _ _ _ _ _ _ _ _ _ _ _ _ _ _ _ _ _ _ _ _ B F X N T hk hd hu ret
/-- the same where the base holds something: of the def at f: it comes back with a value and a ledger that Ret allows -/
def ConB (Pre : Heap → Prop) (w : World) (f : Addr) (d : Nat) (args : List Value) (news : List (Addr × Obj)) (Ret : Value → List (Addr × Obj) → Prop) : Prop :=
  ∀ (mean : ExcName → Option Value) (mg mb : Str → Option Value) (dp un : Nat) (gd : Option (List Code)) (cn : Str) (cs : Scope) (a : Addr) (ccd : Value) (cl : List (Str × Addr)) (outer : List Env) (A₀ : Around) (base h₀ : Heap) (L : Addr) (m : Str → Option Value) (s : Shared)
    (Q E : Value → Shared → Prop),
    Below A₀ base outer h₀ → Fr h₀ L s.heap m → (hd.heap_39 w.params).In h₀ → News h₀ L s.heap news → Top hd.view_39 loose mean mg mb h₀ → cs.kind = .function → dp + d < recursionLimit → un + 8 * d < cLine → Pre base →
    (∀ r nx h' tk', Fr h₀ L h' m → News h₀ L h' nx → Ret r nx → Q r { s with heap := h', toks := tk' }) →
    wpAny (model PySem.Challenge.rw_nn0299_01.row.prog w) (ktrTop dp un gd cn cs L a ccd cl outer) (call (.ref f) args) Q E s
theorem ConB.use {Pre : Heap → Prop} {w : World} {f : Addr} {d : Nat} {args : List Value} {news : List (Addr × Obj)} {Ret : Value → List (Addr × Obj) → Prop} (C : ConB Pre w f d args news Ret)
    {mean : ExcName → Option Value} {mg mb : Str → Option Value} {dp un : Nat} {gd : Option (List Code)} {cn : Str} {cs : Scope} {a : Addr} {ccd : Value} {cl : List (Str × Addr)} {outer : List Env} {A₀ : Around} {base h₀ : Heap} {L : Addr} {m : Str → Option Value} {s : Shared}
    {Q E : Value → Shared → Prop}
    (B : Below A₀ base outer h₀) (F : Fr h₀ L s.heap m) (X : (hd.heap_39 w.params).In h₀) (N : News h₀ L s.heap news) (T : Top hd.view_39 loose mean mg mb h₀) (hk : cs.kind = .function) (hd : dp + d < recursionLimit) (hu : un + 8 * d < cLine) (hP : Pre base)
    (ret : ∀ r nx h' tk', Fr h₀ L h' m → News h₀ L h' nx → Ret r nx → Q r { s with heap := h', toks := tk' }) :
    wpAny (model PySem.Challenge.rw_nn0299_01.row.prog w) (ktrTop dp un gd cn cs L a ccd cl outer) (call (.ref f) args) Q E s :=
  C _ _ _ _ _ _ _ _ _ _ _ _ _ _ _ _ _ _ _ _ B F X N T hk hd hu hP ret
/-- an int comes back, nothing new stands -/
def RInt (news : List (Addr × Obj)) (v : Int) (r : Value) (nx : List (Addr × Obj)) : Prop := news = nx ∧ ∃ t, r = .int v t
theorem RInt.mk {news : List (Addr × Obj)} {v v' : Int} {t : Tok} (h : v' = v) : RInt news v (.int v' t) news := ⟨rfl, t, by rw [h]⟩
def RBool (news : List (Addr × Obj)) (v : Bool) (r : Value) (nx : List (Addr × Obj)) : Prop := news = nx ∧ r = .bool v
theorem RBool.mk {news : List (Addr × Obj)} {v v' : Bool} (h : v' = v) : RBool news v (.bool v') news := ⟨rfl, by rw [h]⟩
def RStr (news : List (Addr × Obj)) (v : Str) (r : Value) (nx : List (Addr × Obj)) : Prop := news = nx ∧ ∃ t, r = .str v t
theorem RStr.mk {news : List (Addr × Obj)} {v v' : Str} {t : Tok} (h : v' = v) : RStr news v (.str v' t) news := ⟨rfl, t, by rw [h]⟩
/-- a tuple object -/
abbrev tupOf (vs : List Value) : Obj := { cls := .type "tuple", data := .seq vs.toArray }
/-- a pair of ints comes back, one new tuple stands -/
def RPair (news : List (Addr × Obj)) (x y : Int) (r : Value) (nx : List (Addr × Obj)) : Prop :=
  ∃ a t u, r = .ref a ∧ (a, tupOf [.int x t, .int y u]) :: news = nx ∧ ∀ p ∈ news, p.1 < a
theorem RPair.mk {news : List (Addr × Obj)} {x y x' y' : Int} {a : Addr} {t u : Tok} (hx : x' = x) (hy : y' = y) (hl : ∀ p ∈ news, p.1 < a) :
    RPair news x y (.ref a) ((a, tupOf [.int x' t, .int y' u]) :: news) := ⟨a, t, u, rfl, by rw [hx, hy], hl⟩
def RTrip (news : List (Addr × Obj)) (x y z : Int) (r : Value) (nx : List (Addr × Obj)) : Prop :=
  ∃ a t u v, r = .ref a ∧ (a, tupOf [.int x t, .int y u, .int z v]) :: news = nx ∧ ∀ p ∈ news, p.1 < a
theorem RTrip.mk {news : List (Addr × Obj)} {x y z x' y' z' : Int} {a : Addr} {t u v : Tok} (hx : x' = x) (hy : y' = y) (hz : z' = z) (hl : ∀ p ∈ news, p.1 < a) :
    RTrip news x y z (.ref a) ((a, tupOf [.int x' t, .int y' u, .int z' v]) :: news) := ⟨a, t, u, v, rfl, by rw [hx, hy, hz], hl⟩
theorem news_drop2 {h₀ h : Heap} {L : Addr} {p q : Addr × Obj} {r : List (Addr × Obj)} (N : News h₀ L h (p :: q :: r)) : News h₀ L h (p :: r) := fun x hx => by
  rcases List.mem_cons.mp hx with rfl | hx
  · exact N _ (.head _)
  · exact N _ (.tail _ (.tail _ hx))
theorem news_drop1 {h₀ h : Heap} {L : Addr} {q : Addr × Obj} {r : List (Addr × Obj)} (N : News h₀ L h (q :: r)) : News h₀ L h r := fun x hx => N _ (.tail _ hx)
theorem lt_tail {d : Addr} {q : Addr × Obj} {r : List (Addr × Obj)} (h : ∀ p ∈ q :: r, p.1 < d) : ∀ p ∈ r, p.1 < d := fun p hp => h p (.tail _ hp)
theorem Con.use2 {w : World} {f : Addr} {d : Nat} {args : List Value} {news : List (Addr × Obj)} {Ret : Value → List (Addr × Obj) → Prop}
    {mean : ExcName → Option Value} {mg mb : Str → Option Value} {dp un : Nat} {gd : Option (List Code)} {cn : Str} {cs : Scope} {a : Addr} {ccd : Value} {cl : List (Str × Addr)} {outer : List Env} {A₀ : Around} {base h₀ : Heap} {L : Addr} {m : Str → Option Value} {s : Shared}
    {Q E : Value → Shared → Prop}
    (B : Below A₀ base outer h₀) (F : Fr h₀ L s.heap m) (X : (hd.heap_39 w.params).In h₀) (N : News h₀ L s.heap news) (T : Top hd.view_39 loose mean mg mb h₀) (hk : cs.kind = .function) (hd : dp + d < recursionLimit) (hu : un + 8 * d < cLine) (C : Con w f d args news Ret)
    (ret : ∀ r nx h' tk', Fr h₀ L h' m → News h₀ L h' nx → Ret r nx → Q r { s with heap := h', toks := tk' }) :
    wpAny (model PySem.Challenge.rw_nn0299_01.row.prog w) (ktrTop dp un gd cn cs L a ccd cl outer) (call (.ref f) args) Q E s :=
  C _ _ _ _ _ _ _ _ _ _ _ _ _ _ _ _ _ _ _ _ B F X N T hk hd hu ret
theorem ConB.use2 {Pre : Heap → Prop} {w : World} {f : Addr} {d : Nat} {args : List Value} {news : List (Addr × Obj)} {Ret : Value → List (Addr × Obj) → Prop}
    {mean : ExcName → Option Value} {mg mb : Str → Option Value} {dp un : Nat} {gd : Option (List Code)} {cn : Str} {cs : Scope} {a : Addr} {ccd : Value} {cl : List (Str × Addr)} {outer : List Env} {A₀ : Around} {base h₀ : Heap} {L : Addr} {m : Str → Option Value} {s : Shared}
    {Q E : Value → Shared → Prop}
    (B : Below A₀ base outer h₀) (F : Fr h₀ L s.heap m) (X : (hd.heap_39 w.params).In h₀) (N : News h₀ L s.heap news) (T : Top hd.view_39 loose mean mg mb h₀) (hk : cs.kind = .function) (hd : dp + d < recursionLimit) (hu : un + 8 * d < cLine) (C : ConB Pre w f d args news Ret) (hP : Pre base)
    (ret : ∀ r nx h' tk', Fr h₀ L h' m → News h₀ L h' nx → Ret r nx → Q r { s with heap := h', toks := tk' }) :
    wpAny (model PySem.Challenge.rw_nn0299_01.row.prog w) (ktrTop dp un gd cn cs L a ccd cl outer) (call (.ref f) args) Q E s :=
  C _ _ _ _ _ _ _ _ _ _ _ _ _ _ _ _ _ _ _ _ B F X N T hk hd hu hP ret
theorem room1 {d a b c r : Nat} (h : d + a < r) (e : Nat.ble (b + c) a = true) : d + b + c < r := by
  have := Nat.le_of_ble_eq_true e
  omega
theorem room0 {d a r : Nat} (h : d + a < r) : d < r := by omega
theorem Con.useI {w : World} {f : Addr} {dd : Nat} {args : List Value} {news : List (Addr × Obj)} {v : Int}
    {mean : ExcName → Option Value} {mg mb : Str → Option Value} {dp un : Nat} {gd : Option (List Code)} {cn : Str} {cs : Scope} {a₀ : Addr} {ccd : Value} {cl : List (Str × Addr)} {outer : List Env} {A₀ : Around} {base h₀ : Heap} {L : Addr} {m : Str → Option Value} {s : Shared}
    {Q E : Value → Shared → Prop}
    (B : Below A₀ base outer h₀) (F : Fr h₀ L s.heap m) (X : (hd.heap_39 w.params).In h₀) (N : News h₀ L s.heap news) (T : Top hd.view_39 loose mean mg mb h₀) (hk : cs.kind = .function) (hd : dp + dd < recursionLimit) (hu : un + 8 * dd < cLine) (CC : Con w f dd args news (RInt news v))
    (ret : ∀ (t : Tok) (h' : Heap) (tk' : Nat), Fr h₀ L h' m → News h₀ L h' (news) → Q (.int v t) { s with heap := h', toks := tk' }) :
    wpAny (model PySem.Challenge.rw_nn0299_01.row.prog w) (ktrTop dp un gd cn cs L a₀ ccd cl outer) (call (.ref f) args) Q E s :=
  CC _ _ _ _ _ _ _ _ _ _ _ _ _ _ _ _ _ _ _ _ B F X N T hk hd hu fun r nx h' tk' F' N' ho => by
    obtain ⟨rfl, t, rfl⟩ := ho
    exact ret t h' tk' F' N'
theorem Con.useS {w : World} {f : Addr} {dd : Nat} {args : List Value} {news : List (Addr × Obj)} {v : Str}
    {mean : ExcName → Option Value} {mg mb : Str → Option Value} {dp un : Nat} {gd : Option (List Code)} {cn : Str} {cs : Scope} {a₀ : Addr} {ccd : Value} {cl : List (Str × Addr)} {outer : List Env} {A₀ : Around} {base h₀ : Heap} {L : Addr} {m : Str → Option Value} {s : Shared}
    {Q E : Value → Shared → Prop}
    (B : Below A₀ base outer h₀) (F : Fr h₀ L s.heap m) (X : (hd.heap_39 w.params).In h₀) (N : News h₀ L s.heap news) (T : Top hd.view_39 loose mean mg mb h₀) (hk : cs.kind = .function) (hd : dp + dd < recursionLimit) (hu : un + 8 * dd < cLine) (CC : Con w f dd args news (RStr news v))
    (ret : ∀ (t : Tok) (h' : Heap) (tk' : Nat), Fr h₀ L h' m → News h₀ L h' (news) → Q (.str v t) { s with heap := h', toks := tk' }) :
    wpAny (model PySem.Challenge.rw_nn0299_01.row.prog w) (ktrTop dp un gd cn cs L a₀ ccd cl outer) (call (.ref f) args) Q E s :=
  CC _ _ _ _ _ _ _ _ _ _ _ _ _ _ _ _ _ _ _ _ B F X N T hk hd hu fun r nx h' tk' F' N' ho => by
    obtain ⟨rfl, t, rfl⟩ := ho
    exact ret t h' tk' F' N'
theorem Con.useP {w : World} {f : Addr} {dd : Nat} {args : List Value} {news : List (Addr × Obj)} {x y : Int}
    {mean : ExcName → Option Value} {mg mb : Str → Option Value} {dp un : Nat} {gd : Option (List Code)} {cn : Str} {cs : Scope} {a₀ : Addr} {ccd : Value} {cl : List (Str × Addr)} {outer : List Env} {A₀ : Around} {base h₀ : Heap} {L : Addr} {m : Str → Option Value} {s : Shared}
    {Q E : Value → Shared → Prop}
    (B : Below A₀ base outer h₀) (F : Fr h₀ L s.heap m) (X : (hd.heap_39 w.params).In h₀) (N : News h₀ L s.heap news) (T : Top hd.view_39 loose mean mg mb h₀) (hk : cs.kind = .function) (hd : dp + dd < recursionLimit) (hu : un + 8 * dd < cLine) (CC : Con w f dd args news (RPair news x y))
    (ret : ∀ (a : Addr) (t u : Tok) (h' : Heap) (tk' : Nat), Fr h₀ L h' m → News h₀ L h' ((a, tupOf [.int x t, .int y u]) :: news) → (∀ p ∈ news, p.1 < a) → Q (.ref a) { s with heap := h', toks := tk' }) :
    wpAny (model PySem.Challenge.rw_nn0299_01.row.prog w) (ktrTop dp un gd cn cs L a₀ ccd cl outer) (call (.ref f) args) Q E s :=
  CC _ _ _ _ _ _ _ _ _ _ _ _ _ _ _ _ _ _ _ _ B F X N T hk hd hu fun r nx h' tk' F' N' ho => by
    obtain ⟨a, t, u, rfl, rfl, l⟩ := ho
    exact ret a t u h' tk' F' N' l
theorem Con.useT {w : World} {f : Addr} {dd : Nat} {args : List Value} {news : List (Addr × Obj)} {x y z : Int}
    {mean : ExcName → Option Value} {mg mb : Str → Option Value} {dp un : Nat} {gd : Option (List Code)} {cn : Str} {cs : Scope} {a₀ : Addr} {ccd : Value} {cl : List (Str × Addr)} {outer : List Env} {A₀ : Around} {base h₀ : Heap} {L : Addr} {m : Str → Option Value} {s : Shared}
    {Q E : Value → Shared → Prop}
    (B : Below A₀ base outer h₀) (F : Fr h₀ L s.heap m) (X : (hd.heap_39 w.params).In h₀) (N : News h₀ L s.heap news) (T : Top hd.view_39 loose mean mg mb h₀) (hk : cs.kind = .function) (hd : dp + dd < recursionLimit) (hu : un + 8 * dd < cLine) (CC : Con w f dd args news (RTrip news x y z))
    (ret : ∀ (a : Addr) (t u v : Tok) (h' : Heap) (tk' : Nat), Fr h₀ L h' m → News h₀ L h' ((a, tupOf [.int x t, .int y u, .int z v]) :: news) → (∀ p ∈ news, p.1 < a) → Q (.ref a) { s with heap := h', toks := tk' }) :
    wpAny (model PySem.Challenge.rw_nn0299_01.row.prog w) (ktrTop dp un gd cn cs L a₀ ccd cl outer) (call (.ref f) args) Q E s :=
  CC _ _ _ _ _ _ _ _ _ _ _ _ _ _ _ _ _ _ _ _ B F X N T hk hd hu fun r nx h' tk' F' N' ho => by
    obtain ⟨a, t, u, v, rfl, rfl, l⟩ := ho
    exact ret a t u v h' tk' F' N' l
end Mine
namespace Mine
local macro_rules | `(tactic| walk_at $s:str) => `(tactic| k_extra $s)

def cntOf (b : Str) : Nat := if b = Str.ofString "b" then 1 else if b = Str.ofString "o" then 3 else 4
theorem cntOf_le (b : Str) : 1 ≤ cntOf b ∧ cntOf b ≤ 4 := by unfold cntOf; split <;> (try split) <;> decide
theorem pow_sub_cast (n : Nat) : (2 : Int) ^ n - 1 = ((2 ^ n - 1 : Nat) : Int) := by
  have e := Int.ofNat_sub (Nat.two_pow_pos n)
  rw [kbt_cast] at e
  exact e.symm
/-- the value of a hexadecimal digit's sign -/
def hexv (c : Nat) : Nat := if c ≤ 57 then c - 48 else c - 87
/-- a sign that a digit of count bits may be -/
def DigOk (count c : Nat) : Prop := c = 120 ∨ c = 122 ∨ c = 63 ∨ (((48 ≤ c ∧ c ≤ 57) ∨ (97 ≤ c ∧ c ≤ 102)) ∧ hexv c < 2 ^ count)
def dlow (full c : Nat) : Nat := if c = 120 then full else if c = 122 ∨ c = 63 then 0 else hexv c
def dhigh (full c : Nat) : Nat := if c = 120 ∨ c = 122 ∨ c = 63 then full else 0
theorem DigOk.x {k c : Nat} (h : c = 120 ∨ c = 122 ∨ c = 63) : DigOk k c := h.elim .inl fun h => h.elim (fun q => .inr (.inl q)) fun q => .inr (.inr (.inl q))
theorem DigOk.d {k c : Nat} (h : DigOk k c) (n : ¬ (c = 120 ∨ c = 122 ∨ c = 63)) : ((48 ≤ c ∧ c ≤ 57) ∨ (97 ≤ c ∧ c ≤ 102)) ∧ hexv c < 2 ^ k :=
  ((h.resolve_left fun q => n (.inl q)).resolve_left fun q => n (.inr (.inl q))).resolve_left fun q => n (.inr (.inr q))
theorem DigOk.lt {k c : Nat} (h : DigOk k c) : c < 123 := by
  rcases h with rfl | rfl | rfl | ⟨⟨_, h⟩ | ⟨_, h⟩, _⟩
  · decide
  · decide
  · decide
  · exact Nat.lt_of_le_of_lt h (by decide)
  · exact Nat.lt_of_le_of_lt h (by decide)
theorem no_xz {c : Nat} (n1 : ¬ c = 120) (n2 : ¬ (c = 122 ∨ c = 63)) : ¬ (c = 120 ∨ c = 122 ∨ c = 63) := fun q => q.elim n1 n2
theorem dlow_lt {k c : Nat} (h : DigOk k c) : dlow (2 ^ k - 1) c < 2 ^ k := by
  have p : 0 < 2 ^ k := Nat.two_pow_pos k
  unfold dlow
  split
  · exact Nat.sub_lt p Nat.one_pos
  · split
    · exact p
    · exact (h.d (no_xz (by assumption) (by assumption))).2
theorem dhigh_lt (k c : Nat) : dhigh (2 ^ k - 1) c < 2 ^ k := by
  have p : 0 < 2 ^ k := Nat.two_pow_pos k
  unfold dhigh
  split
  · exact Nat.sub_lt p Nat.one_pos
  · exact p

theorem one_ne {c d : Nat} (h : c ≠ d) : ((⟨#[c]⟩ : Str) == ⟨#[d]⟩) = false := by
  refine beq_eq_false_iff_ne.mpr fun q => h ?_
  injection q with q; injection q with q; injection q with q
theorem one_eq {c d : Nat} : ((⟨#[c]⟩ : Str) == ⟨#[d]⟩) = decide (c = d) := by
  by_cases h : c = d
  · subst h; simp
  · rw [one_ne h, decide_eq_false h]
theorem find_hexAll : ∀ c, c < 103 → (48 ≤ c ∧ c ≤ 57) ∨ (97 ≤ c ∧ c ≤ 102) → Txt.find (Str.ofString "0123456789abcdef") ⟨#[c]⟩ = (hexv c : Int) := by decide +kernel
theorem find_hex {c : Nat} (h : (48 ≤ c ∧ c ≤ 57) ∨ (97 ≤ c ∧ c ≤ 102)) : Txt.find (Str.ofString "0123456789abcdef") ⟨#[c]⟩ = (hexv c : Int) :=
  find_hexAll c (h.elim (fun q => Nat.lt_of_le_of_lt q.2 (by decide)) fun q => Nat.lt_succ_of_le q.2) h

theorem bit_of (v i : Nat) : Builtin.bitAnd ((v : Int).fdiv (2 ^ i)) 1 = ((v / 2 ^ i % 2 : Nat) : Int) := by
  have h := kbt_mask ((v : Int).fdiv (2 ^ i)) 1
  rw [show ((2 : Int) ^ 1 - 1) = 1 from rfl] at h
  rw [h, Int.fdiv_eq_ediv_of_nonneg _ (Int.le_of_lt (kbt_pos i)), ← kbt_cast, ← Int.natCast_ediv]
  rfl
theorem and_disj {a v k : Nat} (h : v < 2 ^ k) : (a * 2 ^ k) &&& v = 0 := by
  have e : v = (2 ^ k - 1) &&& v := by rw [Nat.and_comm, Nat.and_two_pow_sub_one_eq_mod, Nat.mod_eq_of_lt h]
  rw [e, ← Nat.and_assoc, Nat.and_two_pow_sub_one_eq_mod, Nat.mul_mod_left, Nat.zero_and]
theorem or_disj {a v k : Nat} (h : v < 2 ^ k) : Builtin.bitOr ((a * 2 ^ k : Nat) : Int) (v : Int) = ((a * 2 ^ k + v : Nat) : Int) := by
  rw [bitOr_and, bitAnd_pp (Int.natCast_nonneg _) (Int.natCast_nonneg _), Int.toNat_natCast, Int.toNat_natCast, and_disj h]
  omega
theorem mask_split (k d : Nat) : (k + 1) * (d + 1) - 1 = k + (k + 1) * d := Nat.add_comm ((k + 1) * d) k
theorem pow_succ_of (k : Nat) : ∃ q, 2 ^ k = q + 1 := Nat.exists_eq_succ_of_ne_zero (Nat.pos_iff_ne_zero.mp (Nat.two_pow_pos k))
theorem xor_masks {w k : Nat} (h : k ≤ w) : Builtin.bitXor ((2 ^ w - 1 : Nat) : Int) ((2 ^ k - 1 : Nat) : Int) = (((2 ^ (w - k) - 1) * 2 ^ k : Nat) : Int) := by
  obtain ⟨d, rfl⟩ := Nat.exists_eq_add_of_le h
  obtain ⟨K, hK⟩ := pow_succ_of k
  obtain ⟨D, hD⟩ := pow_succ_of d
  have e2 : (2 ^ (k + d) - 1) % 2 ^ k = 2 ^ k - 1 := by
    rw [Nat.pow_add, hK, hD, mask_split, Nat.add_mul_mod_self_left, Nat.mod_eq_of_lt (Nat.lt_succ_self K)]; rfl
  rw [bitXor_and, bitAnd_pp (Int.natCast_nonneg _) (Int.natCast_nonneg _), Int.toNat_natCast, Int.toNat_natCast, Nat.and_two_pow_sub_one_eq_mod, e2, Nat.add_sub_cancel_left, Nat.pow_add, hK, hD, mask_split, Nat.add_sub_cancel, Nat.add_sub_cancel, Nat.mul_comm]
  generalize D * (K + 1) = z
  omega

def decI (l : List Int) : Int := l.foldl (fun v c => v * 10 + c - 48) 0
def decN (l : List Nat) : Nat := l.foldl (fun v c => v * 10 + (c - 48)) 0
theorem decI_snoc (l : List Int) (c : Int) : decI (l ++ [c]) = decI l * 10 + c - 48 := by simp [decI]
theorem codes_mk (l : List Nat) : KStt.codes ⟨l.toArray⟩ = l.map fun (c : Nat) => (c : Int) := rfl
theorem decI_map (l : List Nat) (h : ∀ c ∈ l, 48 ≤ c ∧ c ≤ 57) : decI (l.map fun (c : Nat) => (c : Int)) = (decN l : Nat) := by
  suffices H : ∀ (l : List Nat) (v : Nat), (∀ c ∈ l, 48 ≤ c ∧ c ≤ 57) → (l.map fun (c : Nat) => (c : Int)).foldl (fun v c => v * 10 + c - 48) (v : Int) = ((l.foldl (fun v c => v * 10 + (c - 48)) v : Nat) : Int) from H l 0 h
  intro l
  induction l with
  | nil => intro v _; rfl
  | cons c r ih =>
    intro v h
    have hc := h c (.head _)
    simp only [List.map_cons, List.foldl_cons]
    have e : (v : Int) * 10 + (c : Int) - 48 = ((v * 10 + (c - 48) : Nat) : Int) := by
      rw [Int.natCast_add, Int.natCast_mul, Int.ofNat_sub hc.1]
      exact Int.add_sub_assoc _ _ _
    rw [e, ih _ fun d hd => h d (.tail _ hd)]
theorem dig_of {P : Nat → Prop} {ds : List Nat} {pre post : List Int} {n : Nat} (h : ∀ c ∈ ds, P c) (e : KStt.codes ⟨ds.toArray⟩ = pre ++ (n : Int) :: post) : P n := by
  rw [codes_mk] at e
  have hm : (n : Int) ∈ ds.map fun (c : Nat) => (c : Int) := by rw [e]; simp
  obtain ⟨c, hc, q⟩ := List.mem_map.mp hm
  have q' : c = n := Int.ofNat.inj q
  exact q' ▸ h c hc
theorem pre_of {ds : List Nat} {pre post : List Int} (e : KStt.codes ⟨ds.toArray⟩ = pre ++ post) : ∃ q r : List Nat, ds = q ++ r ∧ pre = q.map (fun (c : Nat) => (c : Int)) := by
  rw [codes_mk] at e
  obtain ⟨q, r, e1, e2, e3⟩ := List.map_eq_append_iff.mp e
  exact ⟨q, r, e1, e2.symm⟩
theorem toNat_map (q : List Nat) : (q.map fun (c : Nat) => (c : Int)).map Int.toNat = q := by
  rw [List.map_map]
  exact (List.map_congr_left (g := _root_.id) fun c _ => Int.toNat_natCast c).trans (List.map_id _)

/-- digits of k bits each, put together -/
def grpN (f : Nat → Nat) (k : Nat) (l : List Nat) : Nat := l.foldl (fun v c => v * 2 ^ k + f c) 0
theorem grpN_snoc (f : Nat → Nat) (k : Nat) (l : List Nat) (c : Nat) : grpN f k (l ++ [c]) = grpN f k l * 2 ^ k + f c := by simp [grpN]
theorem snoc_ind {α : Type} {P : List α → Prop} (h0 : P []) (h1 : ∀ l a, P l → P (l ++ [a])) (l : List α) : P l := by
  rw [← List.reverse_reverse l]
  induction l.reverse with
  | nil => exact h0
  | cons a r ih => rw [List.reverse_cons]; exact h1 _ _ ih
theorem grpN_lt {f : Nat → Nat} {k : Nat} (l : List Nat) : (∀ c ∈ l, f c < 2 ^ k) → grpN f k l < 2 ^ (k * l.length) := by
  induction l using snoc_ind with
  | h0 => intro _; simp [grpN]
  | h1 l a ih =>
    intro h
    have h1 := ih fun c hc => h c (by simp [hc])
    have h2 := h a (by simp)
    rw [grpN_snoc, List.length_append, List.length_singleton, Nat.mul_add, Nat.mul_one, Nat.pow_add]
    have h3 : (grpN f k l + 1) * 2 ^ k ≤ 2 ^ (k * l.length) * 2 ^ k := Nat.mul_le_mul_right _ h1
    rw [Nat.add_mul, Nat.one_mul] at h3
    exact Nat.lt_of_lt_of_le (Nat.add_lt_add_left h2 _) h3
theorem shl_room {x : Int} {f : Nat → Nat} {k : Nat} {ds : List Nat} {pre post : List Int} {n : Int} (hx : x = (grpN f k (pre.map Int.toNat) : Nat)) (e : KStt.codes ⟨ds.toArray⟩ = pre ++ n :: post)
    (hk : k ≤ 4) (hl : ds.length ≤ 200) (hf : ∀ c ∈ ds, f c < 2 ^ k) : (Builtin.Int.intBits x : Int) + (k : Int) ≤ 2 ^ 27 := by
  obtain ⟨q, r, e1, e2⟩ := pre_of e
  subst hx
  rw [e2, toNat_map]
  have h1 := grpN_lt (f := f) (k := k) q fun c hc => hf c (by rw [e1]; exact List.mem_append_left _ hc)
  have h2 : q.length ≤ ds.length := by rw [e1, List.length_append]; omega
  have h3 : Builtin.Int.intBits ((grpN f k q : Nat) : Int) ≤ k * q.length := intBits_le (by rw [Int.natAbs_natCast]; exact h1)
  have h4 : k * q.length ≤ 4 * 200 := Nat.mul_le_mul hk (Nat.le_trans h2 hl)
  omega
theorem grp_step {x : Int} {f : Nat → Nat} {k n v : Nat} {pre : List Int} (hx : x = (grpN f k (pre.map Int.toNat) : Nat)) (hv : f n = v) (hf : v < 2 ^ k) :
    Builtin.bitOr (x * 2 ^ (k : Int).toNat) (v : Int) = (grpN f k ((pre ++ [(n : Int)]).map Int.toNat) : Nat) := by
  subst hx
  rw [List.map_append, List.map_singleton, Int.toNat_natCast, Int.toNat_natCast, grpN_snoc, ← kbt_cast, ← Int.natCast_mul, or_disj hf, hv]
/-- a row of bits cut to n, or padded to it by ones where p holds -/
def padN (n k : Nat) (p : Prop) [Decidable p] (x : Nat) : Nat := (if k < n ∧ p then (2 ^ (n - k) - 1) * 2 ^ k + x else x) % 2 ^ n
theorem or_pad {n k x : Nat} (h : k < n) (hx : x < 2 ^ k) : Builtin.bitOr (x : Int) (Builtin.bitXor ((2 ^ n - 1 : Nat) : Int) ((2 ^ k - 1 : Nat) : Int)) = (((2 ^ (n - k) - 1) * 2 ^ k + x : Nat) : Int) := by
  rw [xor_masks (Nat.le_of_lt h), bitOr_comm, or_disj hx]
theorem one_eq2 {c d : Nat} : ((⟨#[d]⟩ : Str) == ⟨#[c]⟩) = decide (c = d) := one_eq.trans (decide_eq_decide.mpr eq_comm)
theorem any_xz {c : Nat} : ([Str.ofString "x", Str.ofString "z", Str.ofString "?"].any fun q => q == (⟨#[c]⟩ : Str)) = decide (c = 120 ∨ c = 122 ∨ c = 63) := by
  rw [Bool.decide_or, Bool.decide_or, ← one_eq2, ← one_eq2, ← one_eq2]
  exact congrArg (_ || ·) (congrArg (_ || ·) (Bool.or_false _))
end Mine
namespace Mine
local macro_rules | `(tactic| walk_at $s:str) => `(tactic| k_extra $s)

theorem digit_bits_con (w : World) (b : Str) (t : Tok) (news : List (Addr × Obj)) :
    Con w 83 1 [.str b t] news (RInt news (cntOf b : Nat)) := by
  k_with_none
  unfold Con; intro mean mg mb dp un gd cn cs a ccd cl outer A₀ base h₀ L m s Q E B F X N T hk hdp hun hret; refine wpAny_call ?_; k_dflt (refine' code_def ?k1 ?k2 ?k3 ?k4 ?k5 ?kA ?kF ?kK ?k6 ?k7 ?k8 ?k9 ?kB ?_ ?c2 ?c3 ?c4 ?c5; (case kA => exact rfl); (case kF => exact rfl); (case kK => assumption); (case k1 => k_asm); (case k2 => k_asm); (case k3 => k_asm); (case k4 => k_asm); (case k5 => k_asm); (case k6 => k_is); (case k7 => k_is); (case k8 => first | exact room0 (by assumption) | ktr_room); (case k9 => first | exact BindsTo.of_eq rfl | exact binds_K (by k_in) rfl (by k_is) rfl rfl rfl); (case c5 => decide); (case kB => exact locs rfl); (case c2 => exact rfl); (case c3 => exact rfl); (case c4 => exact rfl); k_whole; intro g' L' h' FG' F' N' B' X' T'; (try dsimp only); (try k_fold))
  k_steps
  all_goals refine hret _ _ _ _ (by assumption) (by assumption) (RInt.mk ?_)
  all_goals (unfold cntOf; simp_all)

theorem mask_con (w : World) (n : Nat) (t : Tok) (news : List (Addr × Obj)) (h1 : n ≤ 1000) :
    Con w 54 1 [.int n t] news (RInt news (2 ^ n - 1 : Nat)) := by
  k_with_none
  unfold Con; intro mean mg mb dp un gd cn cs a ccd cl outer A₀ base h₀ L m s Q E B F X N T hk hdp hun hret; refine wpAny_call ?_; k_dflt (refine' code_def ?k1 ?k2 ?k3 ?k4 ?k5 ?kA ?kF ?kK ?k6 ?k7 ?k8 ?k9 ?kB ?_ ?c2 ?c3 ?c4 ?c5; (case kA => exact rfl); (case kF => exact rfl); (case kK => assumption); (case k1 => k_asm); (case k2 => k_asm); (case k3 => k_asm); (case k4 => k_asm); (case k5 => k_asm); (case k6 => k_is); (case k7 => k_is); (case k8 => first | exact room0 (by assumption) | ktr_room); (case k9 => first | exact BindsTo.of_eq rfl | exact binds_K (by k_in) rfl (by k_is) rfl rfl rfl); (case c5 => decide); (case kB => exact locs rfl); (case c2 => exact rfl); (case c3 => exact rfl); (case c4 => exact rfl); k_whole; intro g' L' h' FG' F' N' B' X' T'; (try dsimp only); (try k_fold))
  k_steps
  all_goals refine hret _ _ _ _ (by assumption) (by assumption) (RInt.mk ?_)
  all_goals (simp only [Int.toNat_natCast, Int.one_mul]; exact pow_sub_cast n)

theorem is_x {c : Nat} (h : ((⟨#[c]⟩ : Str) == Str.ofString "x") = true) : c = 120 := of_decide_eq_true (one_eq.symm.trans h)
theorem is_z {c : Nat} (h : ((⟨#[c]⟩ : Str) == Str.ofString "z") = true) : c = 122 := of_decide_eq_true (one_eq.symm.trans h)
theorem is_q {c : Nat} (h : ((⟨#[c]⟩ : Str) == Str.ofString "?") = true) : c = 63 := of_decide_eq_true (one_eq.symm.trans h)
theorem is_x0 {c : Nat} (h : ((⟨#[c]⟩ : Str) == Str.ofString "x") = false) : ¬ c = 120 := of_decide_eq_false (one_eq.symm.trans h)
theorem no_zq {c : Nat} (h : ((⟨#[c]⟩ : Str) == Str.ofString "z") = false) (h' : ((⟨#[c]⟩ : Str) == Str.ofString "?") = false) : ¬ (c = 122 ∨ c = 63) := fun q =>
  q.elim (of_decide_eq_false (one_eq.symm.trans h)) (of_decide_eq_false (one_eq.symm.trans h'))
theorem dlow_x {full c : Nat} (h : ((⟨#[c]⟩ : Str) == Str.ofString "x") = true) : (full : Int) = (dlow full c : Nat) := congrArg Nat.cast (if_pos (is_x h)).symm
theorem dhigh_x {full c : Nat} (h : c = 120 ∨ c = 122 ∨ c = 63) : (full : Int) = (dhigh full c : Nat) := congrArg Nat.cast (if_pos h).symm
theorem dlow_z {full c : Nat} (n : ¬ c = 120) (h : c = 122 ∨ c = 63) : (0 : Int) = (dlow full c : Nat) := congrArg Nat.cast ((if_neg n).trans (if_pos h)).symm
theorem dhigh_d {full c : Nat} (h : ¬ (c = 120 ∨ c = 122 ∨ c = 63)) : (0 : Int) = (dhigh full c : Nat) := congrArg Nat.cast (if_neg h).symm
theorem dlow_d {full c k : Nat} (hc : DigOk k c) (h : ¬ (c = 120 ∨ c = 122 ∨ c = 63)) : Txt.find (Str.ofString "0123456789abcdef") ⟨#[c]⟩ = (dlow full c : Nat) :=
  (find_hex (hc.d h).1).trans (congrArg Nat.cast ((if_neg fun q => h (.inl q)).trans (if_neg fun q => h (.inr q))).symm)

theorem digit_pair_con (w : World) (c : Nat) (t : Tok) (full : Nat) (t2 : Tok) (k : Nat) (hc : DigOk k c) (news : List (Addr × Obj)) :
    Con w 104 1 [.str ⟨#[c]⟩ t, .int (full : Int) t2] news (RPair news (dlow full c : Nat) (dhigh full c : Nat)) := by
  k_with_none
  unfold Con; intro mean mg mb dp un gd cn cs a ccd cl outer A₀ base h₀ L m s Q E B F X N T hk hdp hun hret; refine wpAny_call ?_; k_dflt (refine' code_def ?k1 ?k2 ?k3 ?k4 ?k5 ?kA ?kF ?kK ?k6 ?k7 ?k8 ?k9 ?kB ?_ ?c2 ?c3 ?c4 ?c5; (case kA => exact rfl); (case kF => exact rfl); (case kK => assumption); (case k1 => k_asm); (case k2 => k_asm); (case k3 => k_asm); (case k4 => k_asm); (case k5 => k_asm); (case k6 => k_is); (case k7 => k_is); (case k8 => first | exact room0 (by assumption) | ktr_room); (case k9 => first | exact BindsTo.of_eq rfl | exact binds_K (by k_in) rfl (by k_is) rfl rfl rfl); (case c5 => decide); (case kB => exact locs rfl); (case c2 => exact rfl); (case c3 => exact rfl); (case c4 => exact rfl); k_whole; intro g' L' h' FG' F' N' B' X' T'; (try dsimp only); (try k_fold))
  k_steps
  all_goals refine hret _ _ _ _ (by assumption) (by assumption) (RPair.mk ?_ ?_ (by assumption))
  all_goals first
    | exact dlow_x (by assumption)
    | exact dhigh_x (.inl (is_x (by assumption)))
    | exact dlow_z (is_x0 (by assumption)) (.inl (is_z (by assumption)))
    | exact dlow_z (is_x0 (by assumption)) (.inr (is_q (by assumption)))
    | exact dhigh_x (.inr (.inl (is_z (by assumption))))
    | exact dhigh_x (.inr (.inr (is_q (by assumption))))
    | exact dlow_d hc (no_xz (is_x0 (by assumption)) (no_zq (by assumption) (by assumption)))
    | exact dhigh_d (no_xz (is_x0 (by assumption)) (no_zq (by assumption) (by assumption)))


theorem vec_con (w : World) (n : Nat) (t : Tok) (x : Nat) (t2 : Tok) (y : Nat) (t3 : Tok) (news : List (Addr × Obj)) (h1 : n ≤ 1000) :
    Con w 62 2 [.int n t, .int x t2, .int y t3] news (RTrip news n (x % 2 ^ n : Nat) (y % 2 ^ n : Nat)) := by
  k_with_none
  k_with "call ref" => (k_here; (with_reducible show wpAny _ _ (call (Value.ref 54) _) _ _ _); k_dflt (refine Con.useI (by k_asm) (by k_asm) (by k_asm) (by k_asm) (by k_asm) (by first | exact rfl | assumption) (by first | exact room1 (by assumption) (by exact rfl) | ktr_room) (by first | exact room1 (by assumption) (by exact rfl) | ktr_units) (mask_con _ _ _ _ (by omega)) ?_; k_whole; intro t9 h9 tk9 F9 N9; (try dsimp only); (try k_fold)))
  unfold Con; intro mean mg mb dp un gd cn cs a ccd cl outer A₀ base h₀ L m s Q E B F X N T hk hdp hun hret; refine wpAny_call ?_; k_dflt (refine' code_def ?k1 ?k2 ?k3 ?k4 ?k5 ?kA ?kF ?kK ?k6 ?k7 ?k8 ?k9 ?kB ?_ ?c2 ?c3 ?c4 ?c5; (case kA => exact rfl); (case kF => exact rfl); (case kK => assumption); (case k1 => k_asm); (case k2 => k_asm); (case k3 => k_asm); (case k4 => k_asm); (case k5 => k_asm); (case k6 => k_is); (case k7 => k_is); (case k8 => first | exact room0 (by assumption) | ktr_room); (case k9 => first | exact BindsTo.of_eq rfl | exact binds_K (by k_in) rfl (by k_is) rfl rfl rfl); (case c5 => decide); (case kB => exact locs rfl); (case c2 => exact rfl); (case c3 => exact rfl); (case c4 => exact rfl); k_whole; intro g' L' h' FG' F' N' B' X' T'; (try dsimp only); (try k_fold))
  k_steps
  all_goals refine hret _ _ _ _ (by assumption) (by assumption) (RTrip.mk rfl ?_ ?_ (by assumption))
  all_goals (rw [← pow_sub_cast, kbt_mask, ← kbt_cast, ← Int.natCast_emod])

theorem vec_con' (w : World) (n : Nat) (t : Tok) (X : Int) (t2 : Tok) (Y : Int) (t3 : Tok) (news : List (Addr × Obj)) {x y : Nat} (hX : X = x) (hY : Y = y) (h1 : n ≤ 1000) :
    Con w 62 2 [.int n t, .int X t2, .int Y t3] news (RTrip news n (x % 2 ^ n : Nat) (y % 2 ^ n : Nat)) := by
  subst hX
  subst hY
  exact vec_con w n t x t2 y t3 news h1

theorem code_con (w : World) (v : Addr) (n : Int) (t : Tok) (x : Nat) (t2 : Tok) (y : Nat) (t3 : Tok) (i : Nat) (t4 : Tok) (news : List (Addr × Obj)) (hv : (v, tupOf [.int n t, .int x t2, .int y t3]) ∈ news) (hi : i ≤ 1000) :
    Con w 69 1 [.ref v, .int i t4] news (RInt news ((x / 2 ^ i % 2 + 2 * (y / 2 ^ i % 2) : Nat) : Int)) := by
  k_with_none
  k_with "call ref" => (k_here; (with_reducible show wpAny _ _ (call (Value.ref 54) _) _ _ _); k_dflt (refine Con.useI (by k_asm) (by k_asm) (by k_asm) (by k_asm) (by k_asm) (by first | exact rfl | assumption) (by first | exact room1 (by assumption) (by exact rfl) | ktr_room) (by first | exact room1 (by assumption) (by exact rfl) | ktr_units) (mask_con _ _ _ _ (by omega)) ?_; k_whole; intro t9 h9 tk9 F9 N9; (try dsimp only); (try k_fold)))
  unfold Con; intro mean mg mb dp un gd cn cs a ccd cl outer A₀ base h₀ L m s Q E B F X N T hk hdp hun hret; refine wpAny_call ?_; k_dflt (refine' code_def ?k1 ?k2 ?k3 ?k4 ?k5 ?kA ?kF ?kK ?k6 ?k7 ?k8 ?k9 ?kB ?_ ?c2 ?c3 ?c4 ?c5; (case kA => exact rfl); (case kF => exact rfl); (case kK => assumption); (case k1 => k_asm); (case k2 => k_asm); (case k3 => k_asm); (case k4 => k_asm); (case k5 => k_asm); (case k6 => k_is); (case k7 => k_is); (case k8 => first | exact room0 (by assumption) | ktr_room); (case k9 => first | exact BindsTo.of_eq rfl | exact binds_K (by k_in) rfl (by k_is) rfl rfl rfl); (case c5 => decide); (case kB => exact locs rfl); (case c2 => exact rfl); (case c3 => exact rfl); (case c4 => exact rfl); k_whole; intro g' L' h' FG' F' N' B' X' T'; (try dsimp only); (try k_fold))
  k_steps
  all_goals refine hret _ _ _ _ (by assumption) (by assumption) (RInt.mk ?_)
  all_goals (simp only [Int.toNat_natCast, bit_of]; omega)
end Mine
namespace Mine
local macro_rules | `(tactic| walk_at $s:str) => `(tactic| k_extra $s)

theorem decimal_value_con (w : World) (ds : List Nat) (t : Tok) (hdg : ∀ c ∈ ds, 48 ≤ c ∧ c ≤ 57) (news : List (Addr × Obj)) :
    Con w 90 1 [.str ⟨ds.toArray⟩ t] news (RInt news (decN ds : Nat)) := by
  k_with_none
  unfold Con; intro mean mg mb dp un gd cn cs a ccd cl outer A₀ base h₀ L m s Q E B F X N T hk hdp hun hret; refine wpAny_call ?_; k_dflt (refine' code_def ?k1 ?k2 ?k3 ?k4 ?k5 ?kA ?kF ?kK ?k6 ?k7 ?k8 ?k9 ?kB ?_ ?c2 ?c3 ?c4 ?c5; (case kA => exact rfl); (case kF => exact rfl); (case kK => assumption); (case k1 => k_asm); (case k2 => k_asm); (case k3 => k_asm); (case k4 => k_asm); (case k5 => k_asm); (case k6 => k_is); (case k7 => k_is); (case k8 => first | exact room0 (by assumption) | ktr_room); (case k9 => first | exact BindsTo.of_eq rfl | exact binds_K (by k_in) rfl (by k_is) rfl rfl rfl); (case c5 => decide); (case kB => exact locs rfl); (case c2 => exact rfl); (case c3 => exact rfl); (case c4 => exact rfl); k_whole; intro g' L' h' FG' F' N' B' X' T'; (try dsimp only); (try k_fold))
  k_with "state" => (first | rfl | (simp only [decI_snoc]; omega))
  k_with "pyIter str" => k_state (fun pre v => v = decI pre) "value"
  k_steps
  all_goals refine hret _ _ _ _ (by assumption) (by assumption) (RInt.mk ?_)
  all_goals (rename _ = decI _ => hq; rw [hq, codes_mk]; exact decI_map ds hdg)


theorem grouped_con (w : World) (b : Str) (t2 : Tok) (ds : List Nat) (t : Tok) (hdg : ∀ c ∈ ds, DigOk (cntOf b) c) (hl : ds.length ≤ 200) (news : List (Addr × Obj)) :
    Con w 111 2 [.str b t2, .str ⟨ds.toArray⟩ t] news (RTrip news (cntOf b * ds.length : Nat) (grpN (dlow (2 ^ cntOf b - 1)) (cntOf b) ds : Nat) (grpN (dhigh (2 ^ cntOf b - 1)) (cntOf b) ds : Nat)) := by
  k_with_none
  k_with "call ref" => (k_here; (with_reducible show wpAny _ _ (call (Value.ref 83) _) _ _ _); k_dflt (refine Con.useI (by k_asm) (by k_asm) (by k_asm) (by k_asm) (by k_asm) (by first | exact rfl | assumption) (by first | exact room1 (by assumption) (by exact rfl) | ktr_room) (by first | exact room1 (by assumption) (by exact rfl) | ktr_units) (digit_bits_con _ _ _ _) ?_; k_whole; intro t9 h9 tk9 F9 N9; (try dsimp only); (try k_fold)))
  k_with "call ref" => (k_here; (with_reducible show wpAny _ _ (call (Value.ref 54) _) _ _ _); k_dflt (refine Con.useI (by k_asm) (by k_asm) (by k_asm) (by k_asm) (by k_asm) (by first | exact rfl | assumption) (by first | exact room1 (by assumption) (by exact rfl) | ktr_room) (by first | exact room1 (by assumption) (by exact rfl) | ktr_units) (mask_con _ _ _ _ (by have := cntOf_le; grind)) ?_; k_whole; intro t9 h9 tk9 F9 N9; (try dsimp only); (try k_fold)))
  k_with "call ref" => (k_here; (with_reducible show wpAny _ _ (call (Value.ref 104) _) _ _ _); k_dflt (refine Con.useP (by k_asm) (by k_asm) (by k_asm) (by k_asm) (by k_asm) (by first | exact rfl | assumption) (by first | exact room1 (by assumption) (by exact rfl) | ktr_room) (by first | exact room1 (by assumption) (by exact rfl) | ktr_units) (digit_pair_con _ _ _ _ _ _ (dig_of (by assumption) (by assumption)) _) ?_; k_whole; intro p9 t9 u9 h9 tk9 F9 N9 l9; (try dsimp only); (try k_fold)))
  k_with "binaryOp LShift int int" => (k_here; refine lshift_int (Int.natCast_nonneg _) (shl_room (by assumption) (by assumption) (cntOf_le _).2 (by assumption) (by first | exact fun c hc => dhigh_lt _ _ | (rename ∀ c ∈ _, DigOk _ c => hdg; exact fun c hc => dlow_lt (hdg c hc)))) ?_)
  unfold Con; intro mean mg mb dp un gd cn cs a ccd cl outer A₀ base h₀ L m s Q E B F X N T hk hdp hun hret; refine wpAny_call ?_; k_dflt (refine' code_def ?k1 ?k2 ?k3 ?k4 ?k5 ?kA ?kF ?kK ?k6 ?k7 ?k8 ?k9 ?kB ?_ ?c2 ?c3 ?c4 ?c5; (case kA => exact rfl); (case kF => exact rfl); (case kK => assumption); (case k1 => k_asm); (case k2 => k_asm); (case k3 => k_asm); (case k4 => k_asm); (case k5 => k_asm); (case k6 => k_is); (case k7 => k_is); (case k8 => first | exact room0 (by assumption) | ktr_room); (case k9 => first | exact BindsTo.of_eq rfl | exact binds_K (by k_in) rfl (by k_is) rfl rfl rfl); (case c5 => decide); (case kB => exact locs rfl); (case c2 => exact rfl); (case c3 => exact rfl); (case c4 => exact rfl); k_whole; intro g' L' h' FG' F' N' B' X' T'; (try dsimp only); (try k_fold))
  have hlx : (⟨ds.toArray⟩ : Str).length = ds.length := by simp [Str.length]
  have hcb := cntOf_le b
  k_with "state" => (first | exact ⟨rfl, rfl⟩ | exact ⟨grp_step (by assumption) rfl (dlow_lt (dig_of hdg (by assumption))), grp_step (by assumption) rfl (dhigh_lt _ _)⟩)
  k_with "pyIter str" => k_state (fun pre x y => x = (grpN (dlow (2 ^ cntOf b - 1)) (cntOf b) (pre.map Int.toNat) : Nat) ∧ y = (grpN (dhigh (2 ^ cntOf b - 1)) (cntOf b) (pre.map Int.toNat) : Nat)) "a" "b"
  k_steps
  all_goals refine hret _ _ _ _ (by assumption) (by assumption) (RTrip.mk ?_ ?_ ?_ (by assumption))
  · rw [Int.natCast_mul, ← hlx]
  · rename _ = ((grpN (dlow _) _ _ : Nat) : Int) => hq; rw [hq, codes_mk, toNat_map]
  · rename _ = ((grpN (dhigh _) _ _ : Nat) : Int) => hq; rw [hq, codes_mk, toNat_map]


theorem padded_vec_con (w : World) (n : Nat) (t1 : Tok) (k : Nat) (t2 : Tok) (x : Nat) (t3 : Tok) (y : Nat) (t4 : Tok) (c : Nat) (t5 : Tok) (news : List (Addr × Obj)) (h1 : n ≤ 1000) (hk : k ≤ 1000) (hx : x < 2 ^ k) (hy : y < 2 ^ k) :
    Con w 118 3 [.int n t1, .int k t2, .int x t3, .int y t4, .str ⟨#[c]⟩ t5] news (RTrip news n (padN n k (c = 120) x : Nat) (padN n k (c = 120 ∨ c = 122 ∨ c = 63) y : Nat)) := by
  k_with_none
  k_with "call ref" => (k_here; (with_reducible show wpAny _ _ (call (Value.ref 83) _) _ _ _); k_dflt (refine Con.useI (by k_asm) (by k_asm) (by k_asm) (by k_asm) (by k_asm) (by first | exact rfl | assumption) (by first | exact room1 (by assumption) (by exact rfl) | ktr_room) (by first | exact room1 (by assumption) (by exact rfl) | ktr_units) (digit_bits_con _ _ _ _) ?_; k_whole; intro t9 h9 tk9 F9 N9; (try dsimp only); (try k_fold)))
  k_with "call ref" => (k_here; (with_reducible show wpAny _ _ (call (Value.ref 54) _) _ _ _); k_dflt (refine Con.useI (by k_asm) (by k_asm) (by k_asm) (by k_asm) (by k_asm) (by first | exact rfl | assumption) (by first | exact room1 (by assumption) (by exact rfl) | ktr_room) (by first | exact room1 (by assumption) (by exact rfl) | ktr_units) (mask_con _ _ _ _ (by have := cntOf_le; grind)) ?_; k_whole; intro t9 h9 tk9 F9 N9; (try dsimp only); (try k_fold)))
  k_with "call ref" => (k_here; (with_reducible show wpAny _ _ (call (Value.ref 104) _) _ _ _); k_dflt (refine Con.useP (by k_asm) (by k_asm) (by k_asm) (by k_asm) (by k_asm) (by first | exact rfl | assumption) (by first | exact room1 (by assumption) (by exact rfl) | ktr_room) (by first | exact room1 (by assumption) (by exact rfl) | ktr_units) (digit_pair_con _ _ _ _ _ _ (dig_of (by assumption) (by assumption)) _) ?_; k_whole; intro p9 t9 u9 h9 tk9 F9 N9 l9; (try dsimp only); (try k_fold)))
  k_with "binaryOp LShift int int" => (k_here; refine lshift_int (Int.natCast_nonneg _) (shl_room (by assumption) (by assumption) (cntOf_le _).2 (by assumption) (by first | exact fun c hc => dhigh_lt _ _ | (rename ∀ c ∈ _, DigOk _ c => hdg; exact fun c hc => dlow_lt (hdg c hc)))) ?_)
  k_with "call ref" => (k_here; (with_reducible show wpAny _ _ (call (Value.ref 54) _) _ _ _); k_dflt (refine Con.useI (by k_asm) (by k_asm) (by k_asm) (by k_asm) (by k_asm) (by first | exact rfl | assumption) (by first | exact room1 (by assumption) (by exact rfl) | ktr_room) (by first | exact room1 (by assumption) (by exact rfl) | ktr_units) (mask_con _ _ _ _ (by omega)) ?_; k_whole; intro t9 h9 tk9 F9 N9; (try dsimp only); (try k_fold)))
  k_with "call ref" => (k_here; (with_reducible show wpAny _ _ (call (Value.ref 62) _) _ _ _); k_dflt (refine Con.useT (by k_asm) (by k_asm) (by k_asm) (by k_asm) (by k_asm) (by first | exact rfl | assumption) (by first | exact room1 (by assumption) (by exact rfl) | ktr_room) (by first | exact room1 (by assumption) (by exact rfl) | ktr_units) (vec_con' _ _ _ _ _ _ _ _ (by with_reducible first | exact rfl | exact or_pad (by omega) (by assumption)) (by with_reducible first | exact rfl | exact or_pad (by omega) (by assumption)) (by omega)) ?_; k_whole; intro p9 t9 u9 v9 h9 tk9 F9 N9 l9; (try dsimp only); (try k_fold)))
  unfold Con; intro mean mg mb dp un gd cn cs a ccd cl outer A₀ base h₀ L m s Q E B F X N T hk hdp hun hret; refine wpAny_call ?_; k_dflt (refine' code_def ?k1 ?k2 ?k3 ?k4 ?k5 ?kA ?kF ?kK ?k6 ?k7 ?k8 ?k9 ?kB ?_ ?c2 ?c3 ?c4 ?c5; (case kA => exact rfl); (case kF => exact rfl); (case kK => assumption); (case k1 => k_asm); (case k2 => k_asm); (case k3 => k_asm); (case k4 => k_asm); (case k5 => k_asm); (case k6 => k_is); (case k7 => k_is); (case k8 => first | exact room0 (by assumption) | ktr_room); (case k9 => first | exact BindsTo.of_eq rfl | exact binds_K (by k_in) rfl (by k_is) rfl rfl rfl); (case c5 => decide); (case kB => exact locs rfl); (case c2 => exact rfl); (case c3 => exact rfl); (case c4 => exact rfl); k_whole; intro g' L' h' FG' F' N' B' X' T'; (try dsimp only); (try k_fold))
  k_steps
  all_goals refine hret _ _ _ _ (by assumption) (by first | assumption | exact news_drop2 (by assumption)) (RTrip.mk rfl ?_ ?_ (by first | assumption | exact lt_tail (by assumption)))
  all_goals (have e1 : ((⟨#[c]⟩ : Str) == Str.ofString "x") = decide (c = 120) := one_eq)
  all_goals (simp only [e1, any_xz, decide_eq_true_eq, decide_eq_false_iff_not] at *)
  all_goals (unfold padN; first | exact absurd (Or.inl (by assumption)) (by assumption) | (exfalso; omega) | rw [if_pos ⟨by omega, by assumption⟩] | rw [if_pos ⟨by omega, by omega⟩] | rw [if_neg fun q => absurd q.2 (by assumption)] | rw [if_neg (by omega)])
end Mine
namespace Mine
local macro_rules | `(tactic| walk_at $s:str) => `(tactic| k_extra $s)

abbrev bm45 : List Value := [.ref 32, .type "Exception", .type "BaseException", .type "object"]
inductive Look45 (w : World) : Prop
  | mk (nm q : Str) (N : Addr) (bs : List Value) (sn : List Str) (sub : List Value) (ab : Bool) (col : Option Bool) (dd : Option Addr) (k0 k1 k2 k3 k5 : Option Value)
    (h : (hd.heap_39 w.params).lookup 45 = some (excClassObj nm q 45 N bs bm45 true sn sub ab col dd k0 k1 k2 k3 k5 "Exception.__new__")) : Look45 w
theorem look45 (w : World) : Look45 w := by
  apply Look45.mk
  k_is
theorem find_init (w : World) : findIn (hd.heap_39 w.params) (.ref 45) "__init__" = some (some (.ref 29)) := by k_is
theorem find_setattr (w : World) : findIn (hd.heap_39 w.params) (.ref 45) "__setattr__" = some (some (.builtin "object.__setattr__")) := by k_is
theorem find_getattribute (w : World) : findIn (hd.heap_39 w.params) (.ref 45) "__getattribute__" = some (some (.builtin "BaseException.__getattribute__")) := by k_is
theorem find_getattr (w : World) : findIn (hd.heap_39 w.params) (.ref 45) "__getattr__" = some none := by k_is
theorem type29 (w : World) : typeIn (hd.heap_39 w.params) (.ref 29) = some (.type "function") := by k_is
theorem taker_kind (w : World) : takerIn (hd.heap_39 w.params) 45 "kind" = some none := by k_is
theorem taker_at (w : World) : takerIn (hd.heap_39 w.params) 45 "at" = some none := by k_is
theorem taker_detail (w : World) : takerIn (hd.heap_39 w.params) 45 "detail" = some none := by k_is
section
variable {prog : Program} {w : World} {A : Around} {E : Value → Shared → Prop} {h : Heap} {g : Array GenState} {d : Drawn} {t : Nat} {os : OsState}
variable {nm q : Str} {C N : Addr} {bs : List Value} {hdct : Bool} {sn : List Str} {sub : List Value} {ab : Bool} {col : Option Bool} {dd : Option Addr} {k0 k1 k2 k3 k5 : Option Value}
theorem has45 (X : String) : (Value.ref C :: bm45).contains (.type X) = ([Value.type "Exception", .type "BaseException", .type "object"]).contains (.type X) := by
  rw [List.contains_cons, List.contains_cons]; rfl
theorem new45_check {M : Model} {rest : List Value} {Q : Unit → Shared → Prop} (hC : h.get? C = some (excClassObj nm q C N bs bm45 hdct sn sub ab col dd k0 k1 k2 k3 k5 "Exception.__new__"))
    (hq : Q () ⟨h, g, d, t, os⟩) : wpAny M A (checkBuiltinCall "Exception.__new__" ⟨.ref C :: rest, []⟩) Q E ⟨h, g, d, t, os⟩ := by
  have F := PySem.F.excBase_Exception
  have hcont : (Value.ref C :: bm45).contains (.type "Exception") = true := by rw [has45]; decide +kernel
  have hstar := F.noStar
  simp only [checkBuiltinCall, F.newKind, F.newSplit, F.newRow]
  repeat (first | refine wpAny_loadPart_at hC ?_ | (refine wpAny_isSubtype_exc hC ?_; rw [hcont]) | refine wpAny_staticBase_exc hC ?_ | refine wpAny_madeBy_exc hC ?_ | simp only [bne_self_eq_false, Bool.false_eq_true, if_false] | wp_step)
  exact hq
/-- an exception as it is made -/
abbrev excObj (C t : Addr) (dx : Option Addr) : Obj := { cls := .ref C, dict := dx, data := .fields #[.ref t, .none, .none, .none, .bool false, .none] }
theorem new45 {R : Result → Shared → Prop} {rest : List Value} (hC : h.get? C = some (excClassObj nm q C N bs bm45 hdct sn sub ab col dd k0 k1 k2 k3 k5 "Exception.__new__"))
    (hq : R (.ok (.ret (.ref (h.objs.size + 1)))) ⟨(h.push (tupOf rest)).push (excObj C h.objs.size none), g, d, t, os⟩) (hrest : rest.length ≤ sizeLine) :
    codeAny (model prog w) A (.builtin "Exception.__new__" ⟨.ref C :: rest, []⟩) R ⟨h, g, d, t, os⟩ := by
  have F := PySem.F.excBase_Exception
  have hends := F.ends
  have hcB : (Value.ref C :: bm45).contains (.type "Exception") = true := by rw [has45]; decide +kernel
  have hcA : (Value.ref C :: bm45).contains (.type "AttributeError") = false := by rw [has45]; decide +kernel
  have hcN : (Value.ref C :: bm45).contains (.type "NameError") = false := by rw [has45]; decide +kernel
  refine codeAny_builtinAt F.entry ?_
  unfold Builtin.«BaseException.__new__»
  refine PySem.wpAt_bind ?_
  show PySem.wpAt _ _ _ (stack >>= _) _ _ _
  refine PySem.wpAt_bind (PySem.wpAt_stack fun p below => PySem.wpAt_of_wpAny ?_)
  wp_walk
  refine PySem.wpAt_of_wpAny ?_
  rw [F.owner]
  repeat (first | with_reducible refine wpAny_madeHere_exc F.canon hC ?_ | with_reducible refine wpAny_loadPart_at hC ?_ | (with_reducible refine wpAny_isSubtype_exc hC ?_; first | rw [hcB] | rw [hcA] | rw [hcN]) | wp_step)
  show R _ _
  rw [Heap.size_push]
  exact hq
theorem tcall45 {rest : List Value} {Q : Fin → Shared → Prop} (X : (hd.heap_39 w.params).In h) (hrest : rest.length ≤ sizeLine)
    (hq : wpAny (model prog w) A (call (.ref 29) (.ref (h.objs.size + 1) :: rest)) (fun r s' => r = .none ∧ Q (.done (.ret (.ref (h.objs.size + 1)))) s') E ⟨(h.push (tupOf rest)).push (excObj 45 h.objs.size none), g, d, t, os⟩) :
    wpAny (model prog w) A (Builtin.«type.__call__» ⟨.ref 45 :: rest, []⟩) Q E ⟨h, g, d, t, os⟩ := by
  obtain ⟨nm, q, N, bs, sn, sub, ab, col, dd, k0, k1, k2, k3, k5, ho⟩ := look45 w
  have hC := X _ _ ho
  have F := PySem.F.excBase_Exception
  repeat (first | with_reducible refine wpAny_loadPart_at hC ?_ | with_reducible refine wpAny_madeBy_exc hC ?_ | wp_step)
  refine codeAny_call_builtin_code (Code.quiet_builtin _ F.quiet) (new45_check hC ?_)
  refine new45 hC ?_ hrest
  show wpAny _ _ _ _ _ _
  have k : ∀ b o, h.get? b = some o → ((h.push (tupOf rest)).push (excObj 45 h.objs.size none)).get? b = some o := fun b o e => Heap.get?_push_of_some _ (Heap.get?_push_of_some _ e)
  have X₁ : (hd.heap_39 w.params).In ((h.push (tupOf rest)).push (excObj 45 h.objs.size none)) := X.keeps k
  have hC₁ := X₁ _ _ ho
  have hget : ((h.push (tupOf rest)).push (excObj 45 h.objs.size none)).get? (h.objs.size + 1) = some (excObj 45 h.objs.size none) := by heap_get
  have hcC : (Value.ref 45 :: bm45).contains (.ref 45) = true := by rw [List.contains_cons]; rfl
  unfold isInstance
  repeat (first | with_reducible refine wpAny_loadPart_at hget ?_ | (with_reducible refine wpAny_isSubtype_exc hC₁ ?_; rw [hcC]) | wp_step)
  show wpAny _ _ (typeLookup (.ref 45) _) _ _ _
  refine (looks_findIn X₁ (find_init w)).at ?_
  refine wpAny_holding (wpAny_bind ((bind_fn X₁ _ (type29 w)).at (wpAny_bind (wpAny_mono hq (fun r s' hr => ?_) fun _ _ x => x))))
  obtain ⟨rfl, hQ⟩ := hr
  wp_walk
  exact hQ
theorem call45 {rest : List Value} {Q : Value → Shared → Prop} (X : (hd.heap_39 w.params).In h) (hrest : rest.length ≤ sizeLine)
    (hq : wpAny (model prog w) (A.under (.builtin "type.__call__" ⟨.ref 45 :: rest, []⟩)) (call (.ref 29) (.ref (h.objs.size + 1) :: rest)) (fun r s' => r = .none ∧ Q (.ref (h.objs.size + 1)) s') E ⟨(h.push (tupOf rest)).push (excObj 45 h.objs.size none), g, d, t, os⟩) :
    wpAny (model prog w) A (call (.ref 45) rest) Q E ⟨h, g, d, t, os⟩ := by
  obtain ⟨nm, q, N, bs, sn, sub, ab, col, dd, k0, k1, k2, k3, k5, ho⟩ := look45 w
  have hC := X _ _ ho
  have f1 := tc_lookup
  have f2 := PySem.tc_bind (.ref 45)
  have hT : (⟨h, g, d, t, os⟩ : Shared).TypeIs (.ref 45) "type" := ⟨_, hC, rfl⟩
  refine wpAny_call (codeAny_of_tree ?_)
  show wpAny _ _ (callAny (.ref 45) _) _ _ _
  repeat (any_goals (first | assumption | with_reducible refine wpAny_loadPart_at hC ?_ | wp_step))
  refine ⟨rfl, ?_⟩
  exact codeAny_call_builtin_at (Code.quiet_builtin _ (by decide +kernel)) entry_typeCall (wpAny_check_type_call_sub hC (tcall45 X hrest hq))
end
end Mine
namespace Mine
local macro_rules | `(tactic| walk_at $s:str) => `(tactic| k_extra $s)

section
open Builtin Builtin.ObjectAttr PySem.Calls

variable {w : World} {A : Around} {E : Value → Shared → Prop} {s : Shared} {h₀ : Heap} {L x t₀ : Addr} {m : Str → Option Value} {rest : List (Addr × Obj)} {name : Str} {v : Value}

theorem exc_at0 {h : Heap} (hx : h.get? x = some (excObj 45 t₀ none)) : InstAt h x (excObj 45 t₀ none) 45 none := ⟨hx, rfl, rfl, trivial⟩
theorem exc_at1 {h : Heap} {dx : Addr} {od : Obj} (hx : h.get? x = some (excObj 45 t₀ (some dx))) (hd : h.get? dx = some od) : InstAt h x (excObj 45 t₀ (some dx)) 45 (some od) := ⟨hx, rfl, rfl, hd⟩
theorem refuse45 (self : Value) : refuseLoop self "__setattr__" (.ref 45 :: bm45) = pure () := by
  rw [refuseLoop_ref, refuseLoop_ref]
  exact PySem.F.store_Exception.passes self
theorem exc_open {R : Result → Shared → Prop} {ox : Obj} {od : Option Obj} {tk : Tok} (X : (hd.heap_39 w.params).In s.heap) (I : InstAt s.heap x ox 45 od) (ht : takerIn (hd.heap_39 w.params) 45 name = some none)
    (h : ∀ b, wpAny (model PySem.Challenge.rw_nn0299_01.row.prog w) A.in1 (storeInOwnDict (.ref x) (.ref 45) (.str name tk) name v b)
      (fun fin s' => match fin with | .done f => R (.ok f) s' | .again c' => c'.quiet = true ∧ codeAny (model PySem.Challenge.rw_nn0299_01.row.prog w) A c' R s') (fun e s' => R (.error e) s') s) :
    codeAny (model PySem.Challenge.rw_nn0299_01.row.prog w) A (.call (.builtin "object.__setattr__") ⟨[.ref x, .str name tk, v], []⟩) R s := by
  have SF := PySem.F.store_object
  obtain ⟨nm, q, N, bs, sn, sub, ab, col, dd, k0, k1, k2, k3, k5, ho⟩ := look45 w
  obtain ⟨cd, hc, hm⟩ : ∃ cd, clsIn (hd.heap_39 w.params) 45 = some cd ∧ cd.mro = .ref 45 :: bm45 := ⟨_, by unfold clsIn; rw [ho], rfl⟩
  have sub : Looks (model PySem.Challenge.rw_nn0299_01.row.prog w) s.heap (isInstance (.ref x) (.type "object")) true := I.type.andThen (looks_mroIn X (by unfold mroIn; rw [hc, Option.bind_some, hm]; rfl))
  refine codeAny_call_builtin SF.slot.plain SF.entry (@check_slot (model PySem.Challenge.rw_nn0299_01.row.prog w) _ _ s "object.__setattr__" "object" "__setattr__" (.ref x) [.str name tk, v] [] _ SF.kind SF.split sub (SF.args (.ref x) (.str name tk) v) ?_)
  obtain ⟨attr, ha, hr⟩ := Option.bind_eq_some_iff.mp ht
  have hmr : Looks (model PySem.Challenge.rw_nn0299_01.row.prog w) s.heap (mroOf (.ref 45)) (.ref 45 :: bm45) := hm ▸ (looks_clsIn X hc).andThen .now
  have L3 : Looks (model PySem.Challenge.rw_nn0299_01.row.prog w) s.heap (storeTaker? attr) none := by
    cases attr with
    | none => exact .now
    | some a =>
      obtain ⟨b, hb, hb2⟩ := Option.map_eq_some_iff.mp hr
      refine (looks_takesIn X hb).andThen ?_
      cases b
      · exact .now
      · cases hb2
  rw [osa_eq, refuse_eq]
  refine wpAny_bind (wpAny_bind (I.type.here (wpAny_bind (hmr.here ?_))))
  rw [refuse45]
  refine wpAny_pure (wpAny_bind (I.type.here (wpAny_bind ((looks_findIn X ha).here (wpAny_bind (L3.here ?_))))))
  exact h _
theorem has45dict (w : World) : ∃ cd, clsIn (hd.heap_39 w.params) 45 = some cd ∧ cd.hasDict = true := by
  obtain ⟨nm, q, N, bs, sn, sub, ab, col, dd, k0, k1, k2, k3, k5, ho⟩ := look45 w
  exact ⟨_, by unfold clsIn; rw [ho], rfl⟩
theorem set_exc {Q : Unit → Shared → Prop} {ox : Obj} {od : Option Obj} (X : (hd.heap_39 w.params).In s.heap) (I : InstAt s.heap x ox 45 od)
    (h : codeAny (model PySem.Challenge.rw_nn0299_01.row.prog w) A (.call (.builtin "object.__setattr__") ⟨[.ref x, .str name s.toks, v], []⟩) (fun r s' => match r with | .ok (.ret _) => Q () s' | .ok _ => False | .error e => E e s') { s with toks := s.toks + 1 }) :
    wpAny (model PySem.Challenge.rw_nn0299_01.row.prog w) A (setAttr (.ref x) name v) Q E s := set_plain X I (find_setattr w) h
/-- the store into the dict that stands -/
theorem osa_exc {R : Result → Shared → Prop} {dx : Addr} {tk : Tok} {es es' : List DictEntry} {n n' : Nat} (F : Fr h₀ L s.heap m) (N : News h₀ L s.heap ((dx, dictOf es n) :: rest)) (X : (hd.heap_39 w.params).In s.heap) (hx : (x, excObj 45 t₀ (some dx)) ∈ rest)
    (ht : takerIn (hd.heap_39 w.params) 45 name = some none) (hl : (getL name es).isSome = true) (h2 : ∀ p ∈ rest, p.1 ≠ dx)
    (e : (putL name (PyData.keyHash w.params name) (.str name s.toks) v es, putN name es n) = (es', n')) (hz : es'.length ≤ 1000)
    (h : ∀ h', Fr h₀ L h' m → News h₀ L h' ((dx, dictOf es' n') :: rest) → R (.ok (.ret .none)) { s with heap := h', toks := s.toks + 1 }) :
    codeAny (model PySem.Challenge.rw_nn0299_01.row.prog w) A (.call (.builtin "object.__setattr__") ⟨[.ref x, .str name tk, v], []⟩) R s := by
  obtain ⟨e1, e2⟩ := Prod.mk.inj e
  have hX := (N _ (.tail _ hx)).1
  have hD := (N _ (.head _)).1
  refine exc_open X (exc_at1 hX hD) ht fun b => ?_
  obtain ⟨cd, hc, hd'⟩ := has45dict w
  obtain ⟨U1, U2⟩ := news_upd (pre := []) (f := Obj.putName name (PyData.keyHash w.params name) (.str name s.toks) v) F N (fun _ h => nomatch h) h2 (o' := dictOf es' n') (by rw [putName_dict, e1, e2]) rfl
  have D' := (U2 (dx, dictOf es' n') (by simp)).1
  refine wpAny_bind (wpAny_pure (wpAny_bind (wpAny_bind (wpAny_loadPart hX (wpAny_bind ((looks_clsIn X hc).here ?_))))))
  rw [hd']
  refine wpAny_pure (a := some dx) (wpAny_bind (wpAny_pure (wpAny_bind ?_)))
  unfold nsSet
  refine wpAny_bind (wpAny_bind (wpAny_askSetting (wpAny_pure (wpAny_bind (wpAny_mkText (wpAny_bind (wpAny_loadPart hD ?_)))))))
  dsimp only
  have c : (!es.toArray.any (·.key.isStr name) && es.toArray.any (·.refKey)) = false := by
    rw [← Array.any_toList, ← Array.any_toList]
    unfold getL at hl
    split at hl
    · rename_i en he
      rw [List.any_eq_true.mpr ⟨en, List.mem_of_find?_eq_some he, List.find?_some he⟩]; rfl
    · split at hl
      · cases hl
      · rename_i z; rw [Bool.not_eq_true] at z; rw [z, Bool.and_false]
  rw [aRefKeyMayBeTheName_at, c]
  refine wpAny_updatePart hD ?_
  refine wpAny_bind (wpAny_lookBehind D' (pastItsLine_dict (by rw [List.size_toArray, sizeLine_eq]; omega)) ?_)
  exact wpAny_pure (h _ U1 U2)
/-- the first store: the dict is made -/
theorem osa_exc0 {R : Result → Shared → Prop} {tk : Tok} (F : Fr h₀ L s.heap m) (N : News h₀ L s.heap ((x, excObj 45 t₀ none) :: rest)) (X : (hd.heap_39 w.params).In h₀)
    (ht : takerIn (hd.heap_39 w.params) 45 name = some none) (h2 : ∀ p ∈ rest, p.1 ≠ x)
    (h : ∀ h' dx hs, Fr h₀ L h' m → News h₀ L h' ((dx, dictOf [⟨hs, .str name s.toks, v⟩] 1) :: (x, excObj 45 t₀ (some dx)) :: rest) → (∀ p ∈ (x, excObj 45 t₀ none) :: rest, p.1 < dx) → R (.ok (.ret .none)) { s with heap := h', toks := s.toks + 1 }) :
    codeAny (model PySem.Challenge.rw_nn0299_01.row.prog w) A (.call (.builtin "object.__setattr__") ⟨[.ref x, .str name tk, v], []⟩) R s := by
  have hX := (N _ (.head _)).1
  have X' := X.keeps F.keep
  refine exc_open X' (exc_at0 hX) ht fun b => ?_
  obtain ⟨cd, hc, hd'⟩ := has45dict w
  have N1 := N.push F emptyDict
  have F1 := F.push emptyDict
  have lt : ∀ p ∈ (x, excObj 45 t₀ none) :: rest, p.1 < s.heap.objs.size := fun p hp => Heap.lt_size (N p hp).1
  obtain ⟨F2, N2⟩ := news_upd (pre := [(s.heap.objs.size, emptyDict)]) (f := fun o => { o with dict := some s.heap.objs.size }) F1 N1 (fun p hp => by
      rw [List.mem_singleton.mp hp]; exact Nat.ne_of_gt (lt _ (.head _))) h2 (o' := excObj 45 t₀ (some s.heap.objs.size)) rfl rfl
  obtain ⟨U1, U2⟩ := news_upd (pre := []) (f := Obj.putName name (PyData.keyHash w.params name) (.str name s.toks) v) F2 N2 (fun _ h => nomatch h) (fun p hp => by
      rcases List.mem_cons.mp hp with rfl | hp
      · exact Nat.ne_of_lt (lt (x, excObj 45 t₀ none) (.head _))
      · exact Nat.ne_of_lt (lt _ (.tail _ hp))) (o' := dictOf [⟨PyData.keyHash w.params name, .str name s.toks, v⟩] 1) (putName_dict name _ _ v [] 0) rfl
  have hD := (N2 _ (.head _)).1
  have D' := (U2 _ (.head _)).1
  refine wpAny_bind (wpAny_pure (wpAny_bind (wpAny_bind (wpAny_loadPart hX (wpAny_bind ((looks_clsIn X' hc).here ?_))))))
  rw [hd']
  refine wpAny_bind (wpAny_alloc' (wpAny_bind (wpAny_update' (N1 _ (.tail _ (.head _))).1 ?_)))
  refine wpAny_pure (a := some s.heap.objs.size) ?_
  refine wpAny_bind (wpAny_pure (wpAny_bind ?_))
  unfold nsSet
  refine wpAny_bind (wpAny_bind (wpAny_askSetting (wpAny_pure (wpAny_bind (wpAny_mkText (wpAny_bind (wpAny_loadPart hD ?_)))))))
  dsimp only
  rw [aRefKeyMayBeTheName_at, show (!(#[] : Array DictEntry).any (fun e => e.key.isStr name) && (#[] : Array DictEntry).any (fun e => e.refKey)) = false from by simp]
  refine wpAny_updatePart hD ?_
  refine wpAny_bind (wpAny_lookBehind D' (pastItsLine_dict (by simp [sizeLine_eq])) ?_)
  exact wpAny_pure (h _ _ _ U1 U2 lt)
theorem set_exc0 {Q : Unit → Shared → Prop} (F : Fr h₀ L s.heap m) (N : News h₀ L s.heap ((x, excObj 45 t₀ none) :: rest)) (X : (hd.heap_39 w.params).In h₀)
    (ht : takerIn (hd.heap_39 w.params) 45 name = some none) (h2 : ∀ p ∈ rest, @LT.lt Nat _ p.1 x)
    (h : ∀ h' dx hs, Fr h₀ L h' m → News h₀ L h' ((dx, dictOf [⟨hs, .str name (s.toks + 1), v⟩] 1) :: (x, excObj 45 t₀ (some dx)) :: rest) → (∀ p ∈ (x, excObj 45 t₀ (some dx)) :: rest, @LT.lt Nat _ p.1 dx) → Q () { s with heap := h', toks := s.toks + 2 }) :
    wpAny (model PySem.Challenge.rw_nn0299_01.row.prog w) A (setAttr (.ref x) name v) Q E s :=
  set_exc (X.keeps F.keep) (exc_at0 (N _ (.head _)).1) (osa_exc0 (s := { s with toks := s.toks + 1 }) F N X ht (fun p hp => Nat.ne_of_lt (h2 p hp)) fun h' dx hs F' N' l => h h' dx hs F' N' fun p hp => by
    rcases List.mem_cons.mp hp with rfl | hp
    · exact l (x, excObj 45 t₀ none) (.head _)
    · exact l p (.tail _ hp))
theorem set_exc1 {Q : Unit → Shared → Prop} {dx : Addr} {es es' : List DictEntry} {n n' : Nat} (F : Fr h₀ L s.heap m) (N : News h₀ L s.heap ((dx, dictOf es n) :: rest)) (X : (hd.heap_39 w.params).In h₀) (hx : (x, excObj 45 t₀ (some dx)) ∈ rest)
    (ht : takerIn (hd.heap_39 w.params) 45 name = some none) (hl : (getL name es).isSome = true) (h2 : ∀ p ∈ rest, @LT.lt Nat _ p.1 dx)
    (e : (putL name (PyData.keyHash w.params name) (.str name (s.toks + 1)) v es, putN name es n) = (es', n')) (hz : es'.length ≤ 1000)
    (h : ∀ h', Fr h₀ L h' m → News h₀ L h' ((dx, dictOf es' n') :: rest) → Q () { s with heap := h', toks := s.toks + 2 }) :
    wpAny (model PySem.Challenge.rw_nn0299_01.row.prog w) A (setAttr (.ref x) name v) Q E s :=
  set_exc (X.keeps F.keep) (exc_at1 (N _ (.tail _ hx)).1 (N _ (.head _)).1) (osa_exc (s := { s with toks := s.toks + 1 }) F N (X.keeps F.keep) hx ht hl (fun p hp => Nat.ne_of_lt (h2 p hp)) e hz h)
end

end Mine
namespace Mine
local macro_rules | `(tactic| walk_at $s:str) => `(tactic| k_extra $s)

/-- the exception comes back, its dict, itself and its arguments stand -/
inductive RExc (kd : Str) (at_ : Int) (news : List (Addr × Obj)) : Value → List (Addr × Obj) → Prop
  | mk (e d t : Addr) (tk ta tv : Tok) (ts : List Value) (h1 h2 h3 : Int) (u1 u2 u3 : Tok) (a1 : @LT.lt Nat _ e d) (a2 : @LT.lt Nat _ t e) (a3 : ∀ p ∈ news, p.1 < t) :
    RExc kd at_ news (.ref e) ((d, dictOf [⟨h1, .str (Str.ofString "kind") u1, .str kd tk⟩, ⟨h2, .str (Str.ofString "at") u2, .int at_ ta⟩, ⟨h3, .str (Str.ofString "detail") u3, .str (Str.ofString "") tv⟩] 3) :: (e, excObj 45 t (some d)) :: (t, tupOf ts) :: news)
theorem Con.useX {w : World} {f : Addr} {dd : Nat} {args : List Value} {news : List (Addr × Obj)} {kd : Str} {at_ : Int}
    {mean : ExcName → Option Value} {mg mb : Str → Option Value} {dp un : Nat} {gd : Option (List Code)} {cn : Str} {cs : Scope} {a₀ : Addr} {ccd : Value} {cl : List (Str × Addr)} {outer : List Env} {A₀ : Around} {base h₀ : Heap} {L : Addr} {m : Str → Option Value} {s : Shared}
    {Q E : Value → Shared → Prop}
    (B : Below A₀ base outer h₀) (F : Fr h₀ L s.heap m) (X : (hd.heap_39 w.params).In h₀) (N : News h₀ L s.heap news) (T : Top hd.view_39 loose mean mg mb h₀) (hk : cs.kind = .function) (hd : dp + dd < recursionLimit) (hu : un + 8 * dd < cLine) (CC : Con w f dd args news (RExc kd at_ news))
    (ret : ∀ (e d t : Addr) (tk ta tv : Tok) (ts : List Value) (h1 h2 h3 : Int) (u1 u2 u3 : Tok) (h' : Heap) (tk' : Nat), Fr h₀ L h' m → News h₀ L h' ((d, dictOf [⟨h1, .str (Str.ofString "kind") u1, .str kd tk⟩, ⟨h2, .str (Str.ofString "at") u2, .int at_ ta⟩, ⟨h3, .str (Str.ofString "detail") u3, .str (Str.ofString "") tv⟩] 3) :: (e, excObj 45 t (some d)) :: (t, tupOf ts) :: news) → @LT.lt Nat _ e d → @LT.lt Nat _ t e → (∀ p ∈ news, p.1 < t) → Q (.ref e) { s with heap := h', toks := tk' }) :
    wpAny (model PySem.Challenge.rw_nn0299_01.row.prog w) (ktrTop dp un gd cn cs L a₀ ccd cl outer) (call (.ref f) args) Q E s :=
  CC _ _ _ _ _ _ _ _ _ _ _ _ _ _ _ _ _ _ _ _ B F X N T hk hd hu fun r nx h' tk' F' N' ho => by
    cases ho with | mk e d t tk ta tv ts h1 h2 h3 u1 u2 u3 a1 a2 a3 =>
    exact ret e d t tk ta tv ts h1 h2 h3 u1 u2 u3 h' tk' F' N' a1 a2 a3
theorem make_exc (w : World) (kd : Str) (tk : Tok) (k : Int) (ta : Tok) (news : List (Addr × Obj)) :
    Con w 45 3 [.str kd tk, .int k ta] news (RExc kd k news) := by
  k_with_none
  k_with "setAttr ref" => (k_here; k_dflt (refine set_exc0 (by k_asm) (by k_asm) (by k_asm) (by k_is) (by assumption) ?_); k_whole; intro h' dx' hs' F' N' l1; (try k_sweep))
  k_with "setAttr ref" => (k_here; k_dflt (refine set_exc1 (by k_asm) (by k_asm) (by k_asm) (by k_mem) (by k_is) (by k_get) (by assumption) (by k_put) (by exact Nat.le_of_ble_eq_true rfl) ?_); k_whole; intro h' F' N'; (try k_sweep))
  unfold Con
  intro mean mg mb dp un gd cn cs a ccd cl outer A₀ base h₀ L m s Q E B F X N T hk hdp hun hret
  obtain ⟨hh, g, d, t, os⟩ := s
  refine call45 (X.keeps F.keep) (by simp [sizeLine_eq]) ?_
  have lt : ∀ p ∈ news, @LT.lt Nat _ p.1 hh.objs.size := fun p hp => Heap.lt_size (N p hp).1
  have F2 := (F.push (tupOf [.str kd tk, .int k ta])).push (excObj 45 hh.objs.size none)
  have N2 := (N.push F (tupOf [.str kd tk, .int k ta])).push (F.push _) (excObj 45 hh.objs.size none)
  rw [Heap.size_push] at N2
  clear F N
  have lt2 : ∀ p ∈ (hh.objs.size, tupOf [.str kd tk, .int k ta]) :: news, @LT.lt Nat _ p.1 (hh.objs.size + 1) := fun p hp => by
    rcases List.mem_cons.mp hp with rfl | hp
    · exact Nat.lt_succ_self _
    · exact Nat.lt_succ_of_lt (lt p hp)
  have zz : @LT.lt Nat _ hh.objs.size (hh.objs.size + 1) := Nat.lt_succ_self _
  revert F2 N2 lt lt2 zz
  dsimp only at *
  generalize hh.objs.size + 1 = xe
  generalize hh.objs.size = te
  intro lt F2 N2 lt2 zz
  refine wpAny_call ?_
  k_dflt (refine' code_def ?k1 ?k2 ?k3 ?k4 ?k5 ?kA ?kF ?kK ?k6 ?k7 ?k8 ?k9 ?kB ?_ ?c2 ?c3 ?c4 ?c5; (case kA => exact rfl); (case kF => exact rfl); (case kK => assumption); (case k1 => k_asm); (case k2 => k_asm); (case k3 => k_asm); (case k4 => k_asm); (case k5 => k_asm); (case k6 => k_is); (case k7 => k_is); (case k8 => ktr_room); (case k9 => first | exact BindsTo.of_eq rfl | exact binds_K (by k_in) rfl (by k_is) rfl rfl rfl); (case c5 => decide); (case kB => exact locs rfl); (case c2 => exact rfl); (case c3 => exact rfl); (case c4 => exact rfl); k_whole; intro g' L' h' FG' F' N' B' X' T'; (try dsimp only); (try k_fold))
  k_steps
  (rename ∀ p ∈ (xe, excObj 45 te (some _)) :: _, _ => l1)
  exact hret _ _ _ _ (by assumption) (by assumption) (.mk _ _ _ _ _ _ _ _ _ _ _ _ _ (l1 _ (.head _)) zz lt)
end Mine
namespace Mine
local macro_rules | `(tactic| walk_at $s:str) => `(tactic| k_extra $s)

/-- the exception e with its dict d, a traceback on it that says fl -/
inductive TracedD (h base : Heap) (e d : Addr) (fl : Value) : Prop
  | mk (oe : Obj) (vs : Array Value) (T : Addr) (oT : Obj) (ts : Array Value) (a1 : h.get? e = some oe) (a2 : oe.cls = .ref 45) (a3 : oe.dict = some d) (a4 : oe.data = .fields vs) (a5 : vs[1]? = some (.ref T)) (a6 : base.get? T = none) (a7 : T ≠ e)
    (a8 : h.get? T = some oT) (a9 : oT.data = .fields ts) (a10 : ts[3]? = some fl) : TracedD h base e d fl
structure NotedD (base : Heap) (l : List Env) (e d : Addr) (fl : Value) (h h' : Heap) : Prop where
  stays : base.StaysIn h'
  frames : h'.FunFrames base l
  traced : TracedD h' base e d fl
  slots : h.UpToSlots h'
section
variable {M : Model} {A : Around} {E : Value → Shared → Prop} {s : Shared} {base : Heap} {env : Env} {outer l : List Env} {L e d : Addr} {Q : Unit → Shared → Prop}
theorem apart_fields {h : Heap} {e : Addr} {oe : Obj} {vs : Array Value} (he : h.get? e = some oe) (hd : oe.data = .fields vs) : ∀ b o, h.get? b = some o → (∀ vs, o.data ≠ .fields vs) → b ≠ e := fun b o hb hn q => by
  subst q
  rw [he] at hb
  cases hb
  exact hn _ hd
theorem entryD {oe : Obj} {vs : Array Value} {head : Value} {nx : Bool} (hfr : A.frames = some (env :: outer)) (hl : s.heap.FunFrames base (env :: outer)) (hf : env.frame = some L)
    (he : s.heap.get? e = some oe) (hc : oe.cls = .ref 45) (hdd : oe.dict = some d) (hkb : base.StaysIn s.heap) (hen : base.get? e = none) (hd : oe.data = .fields vs) (hsz : 1 < vs.size)
    (h : ∀ h', NotedD base (env :: outer) e d (rawInt L) s.heap h' → Q () { s with heap := h' }) :
    wpAny M A (do let a ← frameOf env; let pl ← entryPlaceOf L nx; let b ← EntryCells.newEntry head a .none (rawInt L) .none pl; setField (.ref e) 1 b) Q E s := by
  have off : e ∉ (env :: outer).filterMap (·.frame) := fun hm => by
    obtain ⟨_, o, ho, hn⟩ := hl.mem hm
    rw [he] at ho
    cases ho
    exact hn vs hd
  refine wpAny_bind (wpAny_frameOf_fun hfr hl hf fun h₁ S => ?_)
  refine wpAny_bind (wpAny_entryPlaceOf fun pl hpl => ?_)
  unfold EntryCells.newEntry newFields
  refine wpAny_bind (wpAny_newObj_type ?_ (hpl.sizeOk5 _ _ _ _ _))
  have e1 : h₁.get? e = some oe := (S.2.1 e off).trans he
  have k1 : base.StaysIn h₁ := fun b o q => (S.2.1 b fun hm => by rw [(hl.mem hm).1] at q; cases q).trans (hkb b o q)
  generalize hT : ({ cls := .type "traceback", dict := none, data := .fields ([head, .ref L, .none, rawInt L, .none] ++ (if pl.isEmpty then List.replicate 6 Value.none else pl)).toArray } : Obj) = oT
  have dT : oT.data = .fields ([head, .ref L, .none, rawInt L, .none] ++ (if pl.isEmpty then List.replicate 6 Value.none else pl)).toArray := by rw [← hT]
  have e2 := Heap.get?_push_of_some (h := h₁) oT e1
  refine wpAny_setField e2 hd hsz (h _ ?_)
  have ne : h₁.objs.size ≠ e := Nat.ne_of_gt (Heap.lt_size e1)
  have d3 := Obj.data_mapFields hd (·.setIfInBounds 1 (Value.ref h₁.objs.size))
  have e3 := Heap.get?_update_self (Obj.mapFields (·.setIfInBounds 1 (Value.ref h₁.objs.size))) e2 (Obj.isFreed_of_fields d3)
  have t3 := (Heap.get?_update_other (h₁.push oT) (Obj.mapFields (·.setIfInBounds 1 (Value.ref h₁.objs.size))) (Ne.symm ne)).trans (Heap.get?_push_size h₁ (by rw [← hT]; rfl))
  have keep : ∀ b o, b ≠ e → h₁.get? b = some o → ((h₁.push oT).update e (Obj.mapFields (·.setIfInBounds 1 (Value.ref h₁.objs.size)))).get? b = some o := fun b o hb q => by
    rw [Heap.get?_update_other _ _ (Ne.symm hb)]
    exact Heap.get?_push_of_some _ q
  have ap := apart_fields he hd
  refine ⟨fun b o q => keep b o (fun z => by rw [z, hen] at q; cases q) (k1 b o q), hl.of_keeps fun b o q n => ?_, ?_, fun b o q n => ?_⟩
  · obtain ⟨sl, hs⟩ := S.2.2 b o q
    exact ⟨_, keep b _ (ap b o q n) hs, rfl⟩
  · refine ⟨_, _, h₁.objs.size, _, _, e3, ?_, ?_, d3, by simp [hsz], k1.fresh, ne, t3, dT, by first | (simp; done) | (rcases hpl with rfl | ⟨_, _, _, _, _, _, _, rfl⟩ <;> simp)⟩
    · obtain ⟨oc, od, oda, osl⟩ := oe
      dsimp only at hd
      subst hd
      exact hc
    · obtain ⟨oc, od, oda, osl⟩ := oe
      dsimp only at hd
      subst hd
      exact hdd
  · obtain ⟨sl, hs⟩ := S.2.2 b o q
    exact ⟨sl, keep b _ (ap b o q n) hs⟩
theorem noteD_first {oe : Obj} {vs : Array Value} (hfr : A.frames = some (env :: outer)) (hl : s.heap.FunFrames base (env :: outer)) (hf : env.frame = some L)
    (he : s.heap.get? e = some oe) (hc : oe.cls = .ref 45) (hdd : oe.dict = some d) (hkb : base.StaysIn s.heap) (hen : base.get? e = none) (hd : oe.data = .fields vs) (h1 : vs[1]? = some .none)
    (h : ∀ h', NotedD base (env :: outer) e d (rawInt L) s.heap h' → Q () { s with heap := h' }) : wpAny M A (noteFrame (.ref e) env) Q E s := by
  unfold noteFrame
  simp only [hf]
  refine wpAny_bind (wpAny_field he hd h1 ?_)
  rw [if_neg (by decide)]
  exact entryD hfr hl hf he hc hdd hkb hen hd (Array.getElem?_eq_some_iff.mp h1).1 h
theorem noteD_next (hfr : A.frames = some (env :: outer)) (hl : s.heap.FunFrames base (env :: outer)) (hf : env.frame = some L) (ht : TracedD s.heap base e d .none) (hkb : base.StaysIn s.heap) (hen : base.get? e = none)
    (h : ∀ h', NotedD base (env :: outer) e d (rawInt L) s.heap h' → Q () { s with heap := h' }) : wpAny M A (noteFrame (.ref e) env) Q E s := by
  obtain ⟨oe, vs, T, oT, ts, he, hc, hdd, hd, h1, hnT, hTe, hT, hdT, h3⟩ := ht
  unfold noteFrame
  simp only [hf]
  refine wpAny_bind (wpAny_field he hd h1 ?_)
  rw [if_pos (show (Value.ref T != Value.none) = true from by simp)]
  refine wpAny_bind (wpAny_field hT hdT h3 ?_)
  rw [if_neg (show ¬ ((Value.none == rawInt L) = true) from by simp [rawInt])]
  refine wpAny_bind (wpAny_setField hT hdT (Array.getElem?_eq_some_iff.mp h3).1 ?_)
  have other : ∀ b, b ≠ T → (s.heap.update T (Obj.mapFields (·.setIfInBounds 3 Value.none))).get? b = s.heap.get? b := fun b hb => Heap.get?_update_other _ _ (Ne.symm hb)
  have ap := apart_fields hT hdT
  refine entryD hfr (hl.of_keeps fun b o q n => ⟨o, (other b (ap b o q n)).trans q, rfl⟩) hf ((other e (Ne.symm hTe)).trans he) hc hdd
    (fun b o q => (other b fun z => by rw [z, hnT] at q; cases q).trans (hkb b o q)) hen hd (Array.getElem?_eq_some_iff.mp h1).1 fun h' y => h h' ⟨y.stays, y.frames, y.traced, fun b o q n => y.slots b o ((other b (ap b o q n)).trans q) n⟩
theorem flightD {fl : Value} (hkb : base.StaysIn s.heap) (hl : s.heap.FunFrames base l) (ht : TracedD s.heap base e d fl) (h : ∀ h', NotedD base l e d .none s.heap h' → Q () { s with heap := h' }) : wpAny M A (setFlight (.ref e) none) Q E s := by
  obtain ⟨oe, vs, T, oT, ts, he, hc, hdd, hd, h1, hnT, hTe, hT, hdT, h3⟩ := ht
  have hs : 3 < ts.size := (Array.getElem?_eq_some_iff.mp h3).1
  have other : ∀ b, b ≠ T → (s.heap.update T (Obj.mapFields (·.setIfInBounds 3 ((none : Option Addr).elim Value.none fun f => rawInt f)))).get? b = s.heap.get? b := fun b hb => Heap.get?_update_other _ _ (Ne.symm hb)
  have ap := apart_fields hT hdT
  unfold setFlight
  refine wpAny_bind (wpAny_field he hd h1 ?_)
  rw [if_pos (show (Value.ref T != Value.none) = true from by simp)]
  refine wpAny_setField hT hdT hs (h _ ⟨fun b o q => (other b fun z => by rw [z, hnT] at q; cases q).trans (hkb b o q), hl.of_keeps fun b o q n => ⟨o, (other b (ap b o q n)).trans q, rfl⟩, ?_,
    fun b o q n => ⟨o.slots, (other b (ap b o q n)).trans q⟩⟩)
  exact ⟨oe, vs, T, _, _, (other e (Ne.symm hTe)).trans he, hc, hdd, hd, h1, hnT, hTe, Heap.get?_update_self _ hT (Obj.isFreed_of_fields (Obj.data_mapFields hdT _)), Obj.data_mapFields hdT _, by simp [hs]⟩
end
/-- the exception is on its way, the frames l below it; news stand as they stood -/
inductive RaisedE (base : Heap) (l : List Env) (e d : Addr) (news : List (Addr × Obj)) (h : Heap) : Prop
  | mk (B : Heap) (a1 : base.StaysIn B) (a2 : ∀ q ∈ news, B.get? q.1 = some q.2 ∧ base.get? q.1 = none) (a3 : B.StaysIn h) (a4 : B.get? e = none) (a5 : h.FunFrames B l) (a6 : TracedD h B e d .none) : RaisedE base l e d news h
section
variable {M : Model} {A : Around} {E : Value → Shared → Prop} {s : Shared} {base g g₂ h : Heap} {outer : List Env} {L a e d : Addr} {m : Str → Option Value} {name : Str} {scope : Scope} {cd : Value} {Q : Unit → Shared → Prop} {news own : List (Addr × Obj)}
theorem leaveE_next (K : Below A base outer g) (F : Fr g L g₂ m) (R : RaisedE base (envOf name scope L a cd :: outer) e d news s.heap) (hsm : g₂.UpToSlots s.heap)
    (hQ : ∀ h', RaisedE base outer e d news h' → g.UpToSlots h' → Q () { s with heap := h' }) :
    wpAny M (A.deeper (envOf name scope L a cd)) (leaving (envOf name scope L a cd) (.ref e)) Q E s := by
  obtain ⟨B, hB, hl, h1, h2, h3, h4⟩ := R
  unfold leaving
  refine wpAny_bind (noteD_next (Around.frames_deeper K.stack) h3 rfl h4 h1 h2 fun h' y => flightD y.stays y.frames y.traced fun h'' z => ?_)
  obtain ⟨_, _, k2⟩ := z.frames
  exact hQ h'' ⟨B, hB, hl, z.stays, h2, k2, z.traced⟩ ((Heap.UpToSlots.of_keeps F.keep).trans (hsm.trans (y.slots.trans z.slots)))
theorem leaveE_next2 (R : RaisedE base (envOf name scope L a cd :: outer) e d news s.heap) (K : Below A base outer g) (hsm : g₂.UpToSlots s.heap) (F : Fr g L g₂ m)
    (hQ : ∀ h', RaisedE base outer e d news h' → g.UpToSlots h' → Q () { s with heap := h' }) :
    wpAny M (A.deeper (envOf name scope L a cd)) (leaving (envOf name scope L a cd) (.ref e)) Q E s := leaveE_next K F R hsm hQ
theorem leaveE_first {t : Addr} (K : Below A base outer g) (F : Fr g L s.heap m) (N : News g L s.heap ((e, excObj 45 t (some d)) :: news)) (hne : ∀ q ∈ news, q.1 ≠ e)
    (hQ : ∀ h', RaisedE base outer e d news h' → g.UpToSlots h' → Q () { s with heap := h' }) (hk : scope.kind = .function := by rfl) :
    wpAny M (A.deeper (envOf name scope L a cd)) (leaving (envOf name scope L a cd) (.ref e)) Q E s := by
  have K' := K.push (name := name) (a := a) (cd := cd) F hk
  have he := (N _ (.head _)).1
  have hin : ∀ env ∈ (envOf name scope L a cd :: outer), ∀ b, env.frame = some b → b ∈ e :: (envOf name scope L a cd :: outer).filterMap (·.frame) := fun env hm b hb => .tail _ (List.mem_filterMap.mpr ⟨env, hm, hb⟩)
  have notIn : ∀ q ∈ (e, excObj 45 t (some d)) :: news, q.1 ∉ (envOf name scope L a cd :: outer).filterMap (·.frame) := fun q hq hm => by
    obtain ⟨env, hm, hf⟩ := List.mem_filterMap.mp hm
    rcases List.mem_cons.mp hm with rfl | hm
    · exact (N q hq).2.1 (Option.some.inj hf).symm
    · obtain ⟨o, ho, _⟩ := (K.frames.mem (List.mem_filterMap.mpr ⟨env, hm, hf⟩)).2
      rw [(N q hq).2.2] at ho
      cases ho
  have fresh : ∀ q ∈ (e, excObj 45 t (some d)) :: news, base.get? q.1 = none := fun q hq => fresh_of_stays K.stays (N q hq).2.2
  have st : base.StaysIn (hideAll s.heap (e :: (envOf name scope L a cd :: outer).filterMap (·.frame))) := fun b o q => hideAll_get _ (K'.stays b o q) fun hm => by
    rcases List.mem_cons.mp hm with rfl | hm
    · have z := fresh (b, excObj 45 t (some d)) (.head _)
      rw [q] at z
      cases z
    · rw [(K'.frames.mem hm).1] at q; cases q
  have hl : ∀ q ∈ news, (hideAll s.heap (e :: (envOf name scope L a cd :: outer).filterMap (·.frame))).get? q.1 = some q.2 ∧ base.get? q.1 = none := fun q hq =>
    ⟨hideAll_get _ (N q (.tail _ hq)).1 fun hm => by
      rcases List.mem_cons.mp hm with z | hm
      · exact hne q hq z
      · exact notIn q (.tail _ hq) hm, fresh q (.tail _ hq)⟩
  unfold leaving
  refine wpAny_bind (noteD_first (base := hideAll s.heap (e :: (envOf name scope L a cd :: outer).filterMap (·.frame))) K'.stack (funFrames_hide K'.frames hin) rfl he rfl rfl (fun b o q => of_hideAll _ q) (hideAll_none _ (.head _)) rfl rfl
    fun h' y => flightD y.stays y.frames y.traced fun h'' z => ?_)
  obtain ⟨_, _, k2⟩ := z.frames
  exact hQ h'' ⟨_, st, hl, z.stays, hideAll_none _ (.head _), k2, z.traced⟩ ((Heap.UpToSlots.of_keeps F.keep).trans (y.slots.trans z.slots))
end
end Mine
namespace Mine
local macro_rules | `(tactic| walk_at $s:str) => `(tactic| k_extra $s)

/-- the dict of the exception -/
inductive ExcDict (k : Int) : Obj → Prop
  | mk (tk ta tv : Tok) (h1 h2 h3 : Int) (u1 u2 u3 : Tok) : ExcDict k (dictOf [⟨h1, .str (Str.ofString "kind") u1, .str (Str.ofString "bad_size") tk⟩, ⟨h2, .str (Str.ofString "at") u2, .int k ta⟩, ⟨h3, .str (Str.ofString "detail") u3, .str (Str.ofString "") tv⟩] 3)
/-- every call of the def at f raises -/
def ConE (w : World) (f : Addr) (d : Nat) (args : List Value) (news : List (Addr × Obj)) (k : Int) : Prop :=
  ∀ (mean : ExcName → Option Value) (mg mb : Str → Option Value) (dp un : Nat) (gd : Option (List Code)) (cn : Str) (cs : Scope) (a : Addr) (ccd : Value) (cl : List (Str × Addr)) (outer : List Env) (A₀ : Around) (base h₀ : Heap) (L : Addr) (m : Str → Option Value) (s : Shared)
    (Q E : Value → Shared → Prop),
    Below A₀ base outer h₀ → Fr h₀ L s.heap m → (hd.heap_39 w.params).In h₀ → News h₀ L s.heap news → Top hd.view_39 loose mean mg mb h₀ → cs.kind = .function → dp + d < recursionLimit → un + 8 * d < cLine →
    (∀ e dx D h' tk' g₂, Fr h₀ L g₂ m → g₂.UpToSlots h' → ExcDict k D → RaisedE base (envX cn cs L a ccd cl :: outer) e dx ((dx, D) :: news) h' → (∀ p ∈ news, @LT.lt Nat _ p.1 dx) → E (.ref e) { s with heap := h', toks := tk' }) →
    wpAny (model PySem.Challenge.rw_nn0299_01.row.prog w) (ktrTop dp un gd cn cs L a ccd cl outer) (call (.ref f) args) Q E s
theorem ConE.use {w : World} {f : Addr} {d : Nat} {args : List Value} {news : List (Addr × Obj)} {k : Int} (C : ConE w f d args news k)
    {mean : ExcName → Option Value} {mg mb : Str → Option Value} {dp un : Nat} {gd : Option (List Code)} {cn : Str} {cs : Scope} {a : Addr} {ccd : Value} {cl : List (Str × Addr)} {outer : List Env} {A₀ : Around} {base h₀ : Heap} {L : Addr} {m : Str → Option Value} {s : Shared}
    {Q E : Value → Shared → Prop}
    (B : Below A₀ base outer h₀) (F : Fr h₀ L s.heap m) (X : (hd.heap_39 w.params).In h₀) (N : News h₀ L s.heap news) (T : Top hd.view_39 loose mean mg mb h₀) (hk : cs.kind = .function) (hd : dp + d < recursionLimit) (hu : un + 8 * d < cLine)
    (ret : ∀ e dx D h' tk' g₂, Fr h₀ L g₂ m → g₂.UpToSlots h' → ExcDict k D → RaisedE base (envX cn cs L a ccd cl :: outer) e dx ((dx, D) :: news) h' → (∀ p ∈ news, @LT.lt Nat _ p.1 dx) → E (.ref e) { s with heap := h', toks := tk' }) :
    wpAny (model PySem.Challenge.rw_nn0299_01.row.prog w) (ktrTop dp un gd cn cs L a ccd cl outer) (call (.ref f) args) Q E s :=
  C _ _ _ _ _ _ _ _ _ _ _ _ _ _ _ _ _ _ _ _ B F X N T hk hd hu ret
theorem ConE.use2 {w : World} {f : Addr} {d : Nat} {args : List Value} {news : List (Addr × Obj)} {k : Int}
    {mean : ExcName → Option Value} {mg mb : Str → Option Value} {dp un : Nat} {gd : Option (List Code)} {cn : Str} {cs : Scope} {a : Addr} {ccd : Value} {cl : List (Str × Addr)} {outer : List Env} {A₀ : Around} {base h₀ : Heap} {L : Addr} {m : Str → Option Value} {s : Shared}
    {Q E : Value → Shared → Prop}
    (B : Below A₀ base outer h₀) (F : Fr h₀ L s.heap m) (X : (hd.heap_39 w.params).In h₀) (N : News h₀ L s.heap news) (T : Top hd.view_39 loose mean mg mb h₀) (hk : cs.kind = .function) (hd : dp + d < recursionLimit) (hu : un + 8 * d < cLine) (C : ConE w f d args news k)
    (ret : ∀ e dx D h' tk' g₂, Fr h₀ L g₂ m → g₂.UpToSlots h' → ExcDict k D → RaisedE base (envX cn cs L a ccd cl :: outer) e dx ((dx, D) :: news) h' → (∀ p ∈ news, @LT.lt Nat _ p.1 dx) → E (.ref e) { s with heap := h', toks := tk' }) :
    wpAny (model PySem.Challenge.rw_nn0299_01.row.prog w) (ktrTop dp un gd cn cs L a ccd cl outer) (call (.ref f) args) Q E s :=
  C _ _ _ _ _ _ _ _ _ _ _ _ _ _ _ _ _ _ _ _ B F X N T hk hd hu ret
/-- what a raise asks of its exception -/
inductive RaiseEnd (w : World) (E : Value → Shared → Prop) : Value → Shared → Prop
  | done (e t dx : Addr) (s : Shared) (X : (hd.heap_39 w.params).In s.heap) (he : s.heap.get? e = some (excObj 45 t (some dx))) (hE : E (.ref e) s) : RaiseEnd w E (.ref e) s
theorem RaiseEnd.mk {w : World} {E : Value → Shared → Prop} {s : Shared} {h₀ : Heap} {L : Addr} {m : Str → Option Value} {e t dx : Addr} {d : Addr × Obj} {news : List (Addr × Obj)} (X : (hd.heap_39 w.params).In h₀) (F : Fr h₀ L s.heap m)
    (N : News h₀ L s.heap (d :: (e, excObj 45 t (some dx)) :: news)) (h : E (.ref e) s) : RaiseEnd w E (.ref e) s := .done e t dx s (X.keeps F.keep) (N _ (.tail _ (.head _))).1 h
section
variable {prog : Program} {w : World} {A : Around} {E : Value → Shared → Prop} {s : Shared} {env : Env} {Q : Flow → Shared → Prop}
theorem raise45 {x : Sem Value} (hh : A.handled = none) (h : wpAny (model prog w) A x (RaiseEnd w E) E s) : wpAny (model prog w) A (raiseStmt env (some x) none) Q E s := by
  have hcB : (Value.ref 45 :: bm45).contains (.type "BaseException") = true := by rw [has45]; decide +kernel
  unfold raiseStmt
  refine wpAny_bind (wpAny_mono h (fun v s₁ h₁ => ?_) fun _ _ x => x)
  cases h₁ with | done e t dx _ X he hE =>
  obtain ⟨nm, q, N, bs, sn, sub, ab, col, dd, k0, k1, k2, k3, k5, ho⟩ := look45 w
  have hC := X _ _ ho
  obtain ⟨hp, g, d, tk, os⟩ := s₁
  repeat (first | with_reducible refine wpAny_loadPart_at he ?_ | with_reducible refine wpAny_loadPart_at hC ?_ | (with_reducible refine wpAny_isSubtype_exc hC ?_; rw [hcB]) | wp_step)
  exact wpAny_raiseNew_none hh hE
theorem Raise_exc {c : PySem.Expr} {pos : Pos} (hh : A.handled = none) (h : wpAny (model prog w) A (eval c env) (RaiseEnd w E) E s) : wpAny (model prog w) A (exec (.Raise (some c) none pos) env) Q E s := by
  rw [arm_exec_Raise]
  refine wpAny_bind (wpAny_standAt (raise45 hh ?_))
  refine wpAny_bind (wpAny_mono h (fun v s₃ h₃ => wpAny_bind (wpAny_standAt (wpAny_pure h₃))) fun _ _ x => x)
end
theorem leaveE_firstL {M : Model} {A : Around} {E : Value → Shared → Prop} {s : Shared} {base g : Heap} {outer : List Env} {L a e d : Addr} {m : Str → Option Value} {name : Str} {scope : Scope} {cd : Value} {Q : Unit → Shared → Prop} {news : List (Addr × Obj)} {t : Addr} {D T : Obj}
    (K : Below A base outer g) (F : Fr g L s.heap m) (N : News g L s.heap ((d, D) :: (e, excObj 45 t (some d)) :: (t, T) :: news)) (l1 : @LT.lt Nat _ e d) (l2 : @LT.lt Nat _ t e) (l3 : ∀ p ∈ news, @LT.lt Nat _ p.1 t)
    (hQ : ∀ h', RaisedE base outer e d ((d, D) :: news) h' → g.UpToSlots h' → (∀ p ∈ news, @LT.lt Nat _ p.1 d) → Q () { s with heap := h' }) (hk : scope.kind = .function := by rfl) :
    wpAny M (A.deeper (envOf name scope L a cd)) (leaving (envOf name scope L a cd) (.ref e)) Q E s := by
  refine leaveE_first (t := t) K F (news := (d, D) :: news) (cb_drop N fun p hp => ?_) (fun p hp => ?_) (fun h' R U => hQ h' R U fun p hp => Nat.lt_trans (Nat.lt_trans (l3 p hp) l2) l1) hk
  · rcases List.mem_cons.mp hp with rfl | hp
    · exact .tail _ (.head _)
    rcases List.mem_cons.mp hp with rfl | hp
    · exact .head _
    · exact .tail _ (.tail _ (.tail _ hp))
  · rcases List.mem_cons.mp hp with rfl | hp
    · exact Nat.ne_of_gt l1
    · exact Nat.ne_of_lt (Nat.lt_trans (l3 p hp) l2)
theorem dec65537 (w : World) (t : Tok) (news : List (Addr × Obj)) : Con w 90 1 [.str (Str.ofString "65537") t] news (RInt news 65537) := by
  have h := decimal_value_con w [54, 53, 53, 51, 55] t (by decide) news
  exact h
theorem size_value_bad0 (w : World) (t1 : Tok) (k : Int) (t2 : Tok) (news : List (Addr × Obj)) : ConE w 97 5 [.str (Str.ofString "0") t1, .int k t2] news k := by
  k_with_none
  k_with "call ref" => (k_here; (with_reducible show wpAny _ _ (call (Value.ref 45) _) _ _ _); k_dflt (refine Con.useX (by k_asm) (by k_asm) (by k_asm) (by k_asm) (by k_asm) (by first | exact rfl | assumption) (by first | exact room1 (by assumption) (by exact rfl) | ktr_room) (by first | exact room1 (by assumption) (by exact rfl) | ktr_units) (make_exc _ _ _ _ _ _) ?_; k_whole; intro e9 d9 t9 tk9 ta9 tv9 ts9 h91 h92 h93 u91 u92 u93 h9 tk9 F9 N9 l91 l92 l93; (try dsimp only); (try k_fold)))
  k_with "exec Raise some none" => (k_here; refine Raise_exc rfl ?_)
  k_with "RaiseEnd" => (k_here; refine RaiseEnd.mk (by assumption) (by assumption) (by assumption) ?_)
  k_with "leaving ref" => (k_here; k_dflt (refine leaveE_firstL (by assumption) (by assumption) (by assumption) (by assumption) (by assumption) (by assumption) ?_; k_whole; intro h' R' U' l'; (try dsimp only at R' U' ⊢)))
  k_with "call ref" => (k_here; (with_reducible show wpAny _ _ (call (Value.ref 90) _) _ _ _); k_dflt (refine Con.useI (by k_asm) (by k_asm) (by k_asm) (by k_asm) (by k_asm) (by first | exact rfl | assumption) (by first | exact room1 (by assumption) (by exact rfl) | ktr_room) (by first | exact room1 (by assumption) (by exact rfl) | ktr_units) (dec65537 _ _ _) ?_; k_whole; intro t9 h9 tk9 F9 N9; (try dsimp only); (try k_fold)))
  unfold ConE; intro mean mg mb dp un gd cn cs a ccd cl outer A₀ base h₀ L m s Q E B F X N T hk hdp hun hret; refine wpAny_call ?_; k_dflt (refine' code_def ?k1 ?k2 ?k3 ?k4 ?k5 ?kA ?kF ?kK ?k6 ?k7 ?k8 ?k9 ?kB ?_ ?c2 ?c3 ?c4 ?c5; (case kA => exact rfl); (case kF => exact rfl); (case kK => assumption); (case k1 => k_asm); (case k2 => k_asm); (case k3 => k_asm); (case k4 => k_asm); (case k5 => k_asm); (case k6 => k_is); (case k7 => k_is); (case k8 => first | exact room0 (by assumption) | ktr_room); (case k9 => first | exact BindsTo.of_eq rfl | exact binds_K (by k_in) rfl (by k_is) rfl rfl rfl); (case c5 => decide); (case kB => exact locs rfl); (case c2 => exact rfl); (case c3 => exact rfl); (case c4 => exact rfl); k_whole; intro g' L' h' FG' F' N' B' X' T'; (try dsimp only); (try k_fold))
  k_steps
  exact hret _ _ _ _ _ _ (by assumption) (by assumption) (.mk _ _ _ _ _ _ _ _ _) (by assumption) (by assumption)
theorem size_value_bad00 (w : World) (t1 : Tok) (k : Int) (t2 : Tok) (news : List (Addr × Obj)) : ConE w 97 5 [.str (Str.ofString "000") t1, .int k t2] news k := by
  k_with_none
  k_with "call ref" => (k_here; (with_reducible show wpAny _ _ (call (Value.ref 45) _) _ _ _); k_dflt (refine Con.useX (by k_asm) (by k_asm) (by k_asm) (by k_asm) (by k_asm) (by first | exact rfl | assumption) (by first | exact room1 (by assumption) (by exact rfl) | ktr_room) (by first | exact room1 (by assumption) (by exact rfl) | ktr_units) (make_exc _ _ _ _ _ _) ?_; k_whole; intro e9 d9 t9 tk9 ta9 tv9 ts9 h91 h92 h93 u91 u92 u93 h9 tk9 F9 N9 l91 l92 l93; (try dsimp only); (try k_fold)))
  k_with "exec Raise some none" => (k_here; refine Raise_exc rfl ?_)
  k_with "RaiseEnd" => (k_here; refine RaiseEnd.mk (by assumption) (by assumption) (by assumption) ?_)
  k_with "leaving ref" => (k_here; k_dflt (refine leaveE_firstL (by assumption) (by assumption) (by assumption) (by assumption) (by assumption) (by assumption) ?_; k_whole; intro h' R' U' l'; (try dsimp only at R' U' ⊢)))
  k_with "call ref" => (k_here; (with_reducible show wpAny _ _ (call (Value.ref 90) _) _ _ _); k_dflt (refine Con.useI (by k_asm) (by k_asm) (by k_asm) (by k_asm) (by k_asm) (by first | exact rfl | assumption) (by first | exact room1 (by assumption) (by exact rfl) | ktr_room) (by first | exact room1 (by assumption) (by exact rfl) | ktr_units) (dec65537 _ _ _) ?_; k_whole; intro t9 h9 tk9 F9 N9; (try dsimp only); (try k_fold)))
  unfold ConE; intro mean mg mb dp un gd cn cs a ccd cl outer A₀ base h₀ L m s Q E B F X N T hk hdp hun hret; refine wpAny_call ?_; k_dflt (refine' code_def ?k1 ?k2 ?k3 ?k4 ?k5 ?kA ?kF ?kK ?k6 ?k7 ?k8 ?k9 ?kB ?_ ?c2 ?c3 ?c4 ?c5; (case kA => exact rfl); (case kF => exact rfl); (case kK => assumption); (case k1 => k_asm); (case k2 => k_asm); (case k3 => k_asm); (case k4 => k_asm); (case k5 => k_asm); (case k6 => k_is); (case k7 => k_is); (case k8 => first | exact room0 (by assumption) | ktr_room); (case k9 => first | exact BindsTo.of_eq rfl | exact binds_K (by k_in) rfl (by k_is) rfl rfl rfl); (case c5 => decide); (case kB => exact locs rfl); (case c2 => exact rfl); (case c3 => exact rfl); (case c4 => exact rfl); k_whole; intro g' L' h' FG' F' N' B' X' T'; (try dsimp only); (try k_fold))
  k_steps
  exact hret _ _ _ _ _ _ (by assumption) (by assumption) (.mk _ _ _ _ _ _ _ _ _) (by assumption) (by assumption)
theorem size_value_bad5 (w : World) (t1 : Tok) (k : Int) (t2 : Tok) (news : List (Addr × Obj)) : ConE w 97 5 [.str (Str.ofString "65537") t1, .int k t2] news k := by
  k_with_none
  k_with "call ref" => (k_here; (with_reducible show wpAny _ _ (call (Value.ref 45) _) _ _ _); k_dflt (refine Con.useX (by k_asm) (by k_asm) (by k_asm) (by k_asm) (by k_asm) (by first | exact rfl | assumption) (by first | exact room1 (by assumption) (by exact rfl) | ktr_room) (by first | exact room1 (by assumption) (by exact rfl) | ktr_units) (make_exc _ _ _ _ _ _) ?_; k_whole; intro e9 d9 t9 tk9 ta9 tv9 ts9 h91 h92 h93 u91 u92 u93 h9 tk9 F9 N9 l91 l92 l93; (try dsimp only); (try k_fold)))
  k_with "exec Raise some none" => (k_here; refine Raise_exc rfl ?_)
  k_with "RaiseEnd" => (k_here; refine RaiseEnd.mk (by assumption) (by assumption) (by assumption) ?_)
  k_with "leaving ref" => (k_here; k_dflt (refine leaveE_firstL (by assumption) (by assumption) (by assumption) (by assumption) (by assumption) (by assumption) ?_; k_whole; intro h' R' U' l'; (try dsimp only at R' U' ⊢)))
  k_with "call ref" => (k_here; (with_reducible show wpAny _ _ (call (Value.ref 90) _) _ _ _); k_dflt (refine Con.useI (by k_asm) (by k_asm) (by k_asm) (by k_asm) (by k_asm) (by first | exact rfl | assumption) (by first | exact room1 (by assumption) (by exact rfl) | ktr_room) (by first | exact room1 (by assumption) (by exact rfl) | ktr_units) (dec65537 _ _ _) ?_; k_whole; intro t9 h9 tk9 F9 N9; (try dsimp only); (try k_fold)))
  unfold ConE; intro mean mg mb dp un gd cn cs a ccd cl outer A₀ base h₀ L m s Q E B F X N T hk hdp hun hret; refine wpAny_call ?_; k_dflt (refine' code_def ?k1 ?k2 ?k3 ?k4 ?k5 ?kA ?kF ?kK ?k6 ?k7 ?k8 ?k9 ?kB ?_ ?c2 ?c3 ?c4 ?c5; (case kA => exact rfl); (case kF => exact rfl); (case kK => assumption); (case k1 => k_asm); (case k2 => k_asm); (case k3 => k_asm); (case k4 => k_asm); (case k5 => k_asm); (case k6 => k_is); (case k7 => k_is); (case k8 => first | exact room0 (by assumption) | ktr_room); (case k9 => first | exact BindsTo.of_eq rfl | exact binds_K (by k_in) rfl (by k_is) rfl rfl rfl); (case c5 => decide); (case kB => exact locs rfl); (case c2 => exact rfl); (case c3 => exact rfl); (case c4 => exact rfl); k_whole; intro g' L' h' FG' F' N' B' X' T'; (try dsimp only); (try k_fold))
  k_steps
  exact hret _ _ _ _ _ _ (by assumption) (by assumption) (.mk _ _ _ _ _ _ _ _ _) (by assumption) (by assumption)
theorem size_value_bad6 (w : World) (t1 : Tok) (k : Int) (t2 : Tok) (news : List (Addr × Obj)) : ConE w 97 5 [.str (Str.ofString "123456") t1, .int k t2] news k := by
  k_with_none
  k_with "call ref" => (k_here; (with_reducible show wpAny _ _ (call (Value.ref 45) _) _ _ _); k_dflt (refine Con.useX (by k_asm) (by k_asm) (by k_asm) (by k_asm) (by k_asm) (by first | exact rfl | assumption) (by first | exact room1 (by assumption) (by exact rfl) | ktr_room) (by first | exact room1 (by assumption) (by exact rfl) | ktr_units) (make_exc _ _ _ _ _ _) ?_; k_whole; intro e9 d9 t9 tk9 ta9 tv9 ts9 h91 h92 h93 u91 u92 u93 h9 tk9 F9 N9 l91 l92 l93; (try dsimp only); (try k_fold)))
  k_with "exec Raise some none" => (k_here; refine Raise_exc rfl ?_)
  k_with "RaiseEnd" => (k_here; refine RaiseEnd.mk (by assumption) (by assumption) (by assumption) ?_)
  k_with "leaving ref" => (k_here; k_dflt (refine leaveE_firstL (by assumption) (by assumption) (by assumption) (by assumption) (by assumption) (by assumption) ?_; k_whole; intro h' R' U' l'; (try dsimp only at R' U' ⊢)))
  k_with "call ref" => (k_here; (with_reducible show wpAny _ _ (call (Value.ref 90) _) _ _ _); k_dflt (refine Con.useI (by k_asm) (by k_asm) (by k_asm) (by k_asm) (by k_asm) (by first | exact rfl | assumption) (by first | exact room1 (by assumption) (by exact rfl) | ktr_room) (by first | exact room1 (by assumption) (by exact rfl) | ktr_units) (dec65537 _ _ _) ?_; k_whole; intro t9 h9 tk9 F9 N9; (try dsimp only); (try k_fold)))
  unfold ConE; intro mean mg mb dp un gd cn cs a ccd cl outer A₀ base h₀ L m s Q E B F X N T hk hdp hun hret; refine wpAny_call ?_; k_dflt (refine' code_def ?k1 ?k2 ?k3 ?k4 ?k5 ?kA ?kF ?kK ?k6 ?k7 ?k8 ?k9 ?kB ?_ ?c2 ?c3 ?c4 ?c5; (case kA => exact rfl); (case kF => exact rfl); (case kK => assumption); (case k1 => k_asm); (case k2 => k_asm); (case k3 => k_asm); (case k4 => k_asm); (case k5 => k_asm); (case k6 => k_is); (case k7 => k_is); (case k8 => first | exact room0 (by assumption) | ktr_room); (case k9 => first | exact BindsTo.of_eq rfl | exact binds_K (by k_in) rfl (by k_is) rfl rfl rfl); (case c5 => decide); (case kB => exact locs rfl); (case c2 => exact rfl); (case c3 => exact rfl); (case c4 => exact rfl); k_whole; intro g' L' h' FG' F' N' B' X' T'; (try dsimp only); (try k_fold))
  k_steps
  exact hret _ _ _ _ _ _ (by assumption) (by assumption) (.mk _ _ _ _ _ _ _ _ _) (by assumption) (by assumption)
/-- a size too great or nought -/
def BadSize (size : Str) : Prop := size = Str.ofString "0" ∨ size = Str.ofString "000" ∨ size = Str.ofString "65537" ∨ size = Str.ofString "123456"
theorem size_bad (w : World) {size : Str} (h : BadSize size) (t1 : Tok) (k : Int) (t2 : Tok) (news : List (Addr × Obj)) : ConE w 97 5 [.str size t1, .int k t2] news k := by
  rcases h with rfl | rfl | rfl | rfl
  · exact size_value_bad0 w t1 k t2 news
  · exact size_value_bad00 w t1 k t2 news
  · exact size_value_bad5 w t1 k t2 news
  · exact size_value_bad6 w t1 k t2 news
theorem BadSize.ne {size : Str} (h : BadSize size) : (size == Str.ofString "") = false := by rcases h with rfl | rfl | rfl | rfl <;> decide +kernel
end Mine
namespace Mine
local macro_rules | `(tactic| walk_at $s:str) => `(tactic| k_extra $s)

theorem strSub_mk (l : List Nat) (i j : Nat) : Builtin.Str.strSub ⟨l.toArray⟩ i j = ⟨((l.take j).drop i).toArray⟩ := by
  refine PySem.Str.ext' (Array.toList_inj.mp ?_)
  unfold Builtin.Str.strSub
  simp [List.drop_take]
theorem zero_contains : (Str.ofString "0").cps.contains = fun c => c == 48 := by
  funext c
  show (#[48] : Array Nat).contains c = (c == 48)
  by_cases h : c = 48 <;> simp [h]
theorem lstrip_zeros {z : Nat} {r : List Nat} (h0 : r.head? ≠ some 48) : Txt.lstripChars ⟨(List.replicate z 48 ++ r).toArray⟩ (Str.ofString "0") = ⟨r.toArray⟩ := by
  unfold Txt.lstripChars
  rw [PyProof.Rows.stripBy_eq]
  have e1 : stripLo (Str.ofString "0").cps.contains true ⟨(List.replicate z 48 ++ r).toArray⟩ = z := by
    unfold stripLo
    rw [if_pos rfl, zero_contains]
    show ((List.replicate z 48 ++ r).takeWhile fun c => c == 48).length = z
    rw [List.takeWhile_append]
    have e2 : r.takeWhile (fun c => c == 48) = [] := by
      cases r with
      | nil => rfl
      | cons c r => rw [List.takeWhile_cons_of_neg]; simpa using h0
    simp [e2]
  have e2 : stripHi (Str.ofString "0").cps.contains false ⟨(List.replicate z 48 ++ r).toArray⟩ z = z + r.length := by
    unfold stripHi
    simp [PySem.Str.length]
  rw [e1, e2, strSub_mk]
  have e3 : (List.replicate z 48 ++ r).take (z + r.length) = List.replicate z 48 ++ r := List.take_of_length_le (by simp)
  rw [e3, List.drop_left' (by simp)]
theorem mk_length (l : List Nat) : (⟨l.toArray⟩ : Str).length = l.length := by simp [Str.length]
theorem mk_ne_empty {l : List Nat} (h : 1 ≤ l.length) : ((⟨l.toArray⟩ : Str) == Str.ofString "") = false := by
  refine beq_eq_false_iff_ne.mpr fun q => ?_
  have := congrArg Str.length q
  rw [mk_length] at this
  rw [this] at h
  exact absurd h (by decide)
theorem mk_eq_empty (x : Str) : (x == Str.ofString "") = decide (x.cps.toList = []) := by
  obtain ⟨⟨l⟩⟩ := x
  cases l with
  | nil => rfl
  | cons c r => rw [mk_ne_empty (by simp)]; simp

/-- the sign of a bit, by its two rows -/
def sgn (x y i : Nat) : Nat := if y / 2 ^ i % 2 = 0 then (if x / 2 ^ i % 2 = 0 then 48 else 49) else (if x / 2 ^ i % 2 = 0 then 122 else 120)
def bitsOf (n x y : Nat) : List Nat := (List.range n).map fun j => sgn x y (n - 1 - j)
theorem bitsOf_length (n x y : Nat) : (bitsOf n x y).length = n := by simp [bitsOf]
def sg2 (a b : Nat) : Nat := if b = 0 then (if a = 0 then 48 else 49) else (if a = 0 then 122 else 120)
theorem sg2_ok : ∀ a, a < 2 → ∀ b, b < 2 → DigOk 1 (sg2 a b) := by unfold DigOk; decide
theorem sg2_low : ∀ a, a < 2 → ∀ b, b < 2 → dlow (2 ^ 1 - 1) (sg2 a b) = a := by decide
theorem sg2_high : ∀ a, a < 2 → ∀ b, b < 2 → dhigh (2 ^ 1 - 1) (sg2 a b) = b := by decide
theorem two_lt (x : Nat) : x % 2 < 2 := Nat.mod_lt _ (by decide)
theorem sgn_ok (x y i : Nat) : DigOk 1 (sgn x y i) := sg2_ok _ (two_lt _) _ (two_lt _)
theorem bitsOf_ok (n x y : Nat) : ∀ c ∈ bitsOf n x y, DigOk 1 c := by
  intro c hc
  obtain ⟨j, _, rfl⟩ := List.mem_map.mp hc
  exact sgn_ok _ _ _
theorem dlow_sgn (x y i : Nat) : dlow (2 ^ 1 - 1) (sgn x y i) = x / 2 ^ i % 2 := sg2_low _ (two_lt _) _ (two_lt _)
theorem dhigh_sgn (x y i : Nat) : dhigh (2 ^ 1 - 1) (sgn x y i) = y / 2 ^ i % 2 := sg2_high _ (two_lt _) _ (two_lt _)
theorem grp_bits (f : Nat → Nat) (v x y : Nat) (hf : ∀ i, f (sgn x y i) = v / 2 ^ i % 2) (n : Nat) : grpN f 1 (bitsOf n x y) = v % 2 ^ n := by
  suffices H : ∀ k, k ≤ n → grpN f 1 ((bitsOf n x y).take k) = v / 2 ^ (n - k) % 2 ^ k by
    have := H n (Nat.le_refl _)
    rw [List.take_of_length_le (by rw [bitsOf_length]; exact Nat.le_refl _)] at this
    rw [this, Nat.sub_self, Nat.pow_zero, Nat.div_one]
  intro k
  induction k with
  | zero => intro _; rw [Nat.pow_zero, Nat.mod_one]; rfl
  | succ k ih =>
    intro hk
    have e : (bitsOf n x y).take (k + 1) = (bitsOf n x y).take k ++ [sgn x y (n - 1 - k)] := by
      rw [List.take_add_one]
      congr 1
      simp [bitsOf, Nat.lt_of_succ_le hk]
    rw [e, grpN_snoc, ih (Nat.le_of_succ_le hk), hf]
    have e1 : n - 1 - k = n - (k + 1) := by rw [Nat.sub_sub, Nat.add_comm]
    have e2 : n - k = n - (k + 1) + 1 := (Nat.succ_pred_eq_of_pos (Nat.sub_pos_of_lt hk)).symm
    rw [e1, e2, Nat.pow_succ, ← Nat.div_div_eq_div_mul, Nat.pow_one, Nat.pow_succ]
    generalize v / 2 ^ (n - (k + 1)) = u
    rw [Nat.mul_comm (2 ^ k) 2, Nat.mod_mul, Nat.mul_comm 2]
    exact Nat.add_comm _ _
theorem low_bits (n x y : Nat) : grpN (dlow (2 ^ 1 - 1)) 1 (bitsOf n x y) = x % 2 ^ n := grp_bits _ _ _ _ (dlow_sgn x y) n
theorem high_bits (n x y : Nat) : grpN (dhigh (2 ^ 1 - 1)) 1 (bitsOf n x y) = y % 2 ^ n := grp_bits _ _ _ _ (dhigh_sgn x y) n
end Mine
namespace Mine
local macro_rules | `(tactic| walk_at $s:str) => `(tactic| k_extra $s)

/-- the pool: its figures, how many are drawn, the mix -/
abbrev poolOf (fg : Addr) (i mx : Int) (ti tm : Tok) (n : Nat) : Obj := W.listOf #[.ref fg, .int i ti, .int mx tm] n
/-- the pool as _law_pool hands it back -/
def RPool (news : List (Addr × Obj)) (r : Value) (nx : List (Addr × Obj)) : Prop :=
  ∃ (pl fg : Addr) (mx : Int) (ti tm : Tok) (n : Nat) (vs : List Value) (ns : List Int) (k : Nat), r = .ref pl ∧ (pl, poolOf fg 0 mx ti tm n) :: (fg, W.listOf vs.toArray k) :: news = nx ∧ @LT.lt Nat _ fg pl ∧ (∀ p ∈ news, p.1 < fg) ∧
    IntsAre vs ns ∧ ns.length ≤ 1000 ∧ 0 ≤ mx ∧ mx ≤ 1009
theorem ConB.useL {w : World} {f : Addr} {dd : Nat} {args : List Value} {news : List (Addr × Obj)} {Pre : Heap → Prop}
    {mean : ExcName → Option Value} {mg mb : Str → Option Value} {dp un : Nat} {gd : Option (List Code)} {cn : Str} {cs : Scope} {a₀ : Addr} {ccd : Value} {cl : List (Str × Addr)} {outer : List Env} {A₀ : Around} {base h₀ : Heap} {L : Addr} {m : Str → Option Value} {s : Shared}
    {Q E : Value → Shared → Prop}
    (B : Below A₀ base outer h₀) (F : Fr h₀ L s.heap m) (X : (hd.heap_39 w.params).In h₀) (N : News h₀ L s.heap news) (T : Top hd.view_39 loose mean mg mb h₀) (hk : cs.kind = .function) (hd : dp + dd < recursionLimit) (hu : un + 8 * dd < cLine) (CC : ConB Pre w f dd args news (RPool news)) (hP : Pre base)
    (ret : ∀ (pl fg : Addr) (mx : Int) (ti tm : Tok) (n : Nat) (vs : List Value) (ns : List Int) (k : Nat) (h' : Heap) (tk' : Nat), Fr h₀ L h' m → News h₀ L h' ((pl, poolOf fg 0 mx ti tm n) :: (fg, W.listOf vs.toArray k) :: news) → @LT.lt Nat _ fg pl → (∀ p ∈ news, p.1 < fg) → IntsAre vs ns → ns.length ≤ 1000 → 0 ≤ mx → mx ≤ 1009 → Q (.ref pl) { s with heap := h', toks := tk' }) :
    wpAny (model PySem.Challenge.rw_nn0299_01.row.prog w) (ktrTop dp un gd cn cs L a₀ ccd cl outer) (call (.ref f) args) Q E s :=
  CC _ _ _ _ _ _ _ _ _ _ _ _ _ _ _ _ _ _ _ _ B F X N T hk hd hu hP fun r nx h' tk' F' N' ho => by
    obtain ⟨pl, fg, mx, ti, tm, n, vs, ns, k, rfl, rfl, a1, a2, a3, a4, a5, a6⟩ := ho
    exact ret pl fg mx ti tm n vs ns k h' tk' F' N' a1 a2 a3 a4 a5 a6
theorem pool_end {h₀ h' : Heap} {L pl fg : Addr} {m : Str → Option Value} {Q : Value → Shared → Prop} {s : Shared} {mx : Int} {ti tm : Tok} {n k tk : Nat} {d : Addr × Obj} {vs : List Value} {ns : List Int} {news rest : List (Addr × Obj)}
    (hret : ∀ r nx h' tk', Fr h₀ L h' m → News h₀ L h' nx → RPool news r nx → Q r { s with heap := h', toks := tk' }) (F : Fr h₀ L h' m)
    (N : News h₀ L h' ((pl, poolOf fg 0 mx ti tm n) :: d :: (fg, W.listOf vs.toArray k) :: rest)) (hs : ∀ p ∈ news, p ∈ rest) (h1 : @LT.lt Nat _ fg pl) (h2 : ∀ p ∈ news, p.1 < fg) (h3 : IntsAre vs ns) (h4 : ns.length ≤ 1000) (h5 : 0 ≤ mx) (h6 : mx ≤ 1009) :
    Q (.ref pl) { s with heap := h', toks := tk } := by
  refine hret _ ((pl, poolOf fg 0 mx ti tm n) :: (fg, W.listOf vs.toArray k) :: news) _ _ F (cb_drop N fun p hp => ?_) ⟨pl, fg, mx, ti, tm, n, vs, ns, k, rfl, rfl, h1, h2, h3, h4, h5, h6⟩
  rcases List.mem_cons.mp hp with rfl | hp
  · exact .head _
  rcases List.mem_cons.mp hp with rfl | hp
  · exact .tail _ (.tail _ (.head _))
  · exact .tail _ (.tail _ (.tail _ (hs p hp)))
end Mine
namespace Mine
local macro_rules | `(tactic| walk_at $s:str) => `(tactic| k_extra $s)

theorem size_value_con (w : World) (z : Nat) (r : List Nat) (t1 : Tok) (k : Int) (t2 : Tok) (news : List (Addr × Obj)) (hr : ∀ c ∈ r, 48 ≤ c ∧ c ≤ 57) (h1 : 1 ≤ r.length) (h5 : r.length ≤ 5) (h0 : r.head? ≠ some 48) (hz : z ≤ 100) (hv : decN r ≤ 65536) :
    Con w 97 3 [.str ⟨(List.replicate z 48 ++ r).toArray⟩ t1, .int k t2] news (RInt news (decN r : Nat)) := by
  k_with_none
  k_with "call ref" => (k_here; (with_reducible show wpAny _ _ (call (Value.ref 90) _) _ _ _); k_dflt (refine Con.useI (by k_asm) (by k_asm) (by k_asm) (by k_asm) (by k_asm) (by first | exact rfl | assumption) (by first | exact room1 (by assumption) (by exact rfl) | ktr_room) (by first | exact room1 (by assumption) (by exact rfl) | ktr_units) (decimal_value_con _ _ _ (by assumption) _) ?_; k_whole; intro t9 h9 tk9 F9 N9; (try dsimp only); (try k_fold)))
  k_with "call builtin:str.lstrip" => (k_here; (refine KXw.lstripChars (lstrip_zeros (by assumption)) (by rw [mk_length, sizeLine_eq]; simp; omega) ?_); intro _ _)
  unfold Con; intro mean mg mb dp un gd cn cs a ccd cl outer A₀ base h₀ L m s Q E B F X N T hk hdp hun hret; refine wpAny_call ?_; k_dflt (refine' code_def ?k1 ?k2 ?k3 ?k4 ?k5 ?kA ?kF ?kK ?k6 ?k7 ?k8 ?k9 ?kB ?_ ?c2 ?c3 ?c4 ?c5; (case kA => exact rfl); (case kF => exact rfl); (case kK => assumption); (case k1 => k_asm); (case k2 => k_asm); (case k3 => k_asm); (case k4 => k_asm); (case k5 => k_asm); (case k6 => k_is); (case k7 => k_is); (case k8 => first | exact room0 (by assumption) | ktr_room); (case k9 => first | exact BindsTo.of_eq rfl | exact binds_K (by k_in) rfl (by k_is) rfl rfl rfl); (case c5 => decide); (case kB => exact locs rfl); (case c2 => exact rfl); (case c3 => exact rfl); (case c4 => exact rfl); k_whole; intro g' L' h' FG' F' N' B' X' T'; (try dsimp only); (try k_fold))
  have hlx := mk_length r
  have hne := mk_ne_empty h1
  k_steps
  all_goals exact hret _ _ _ _ (by assumption) (by assumption) (RInt.mk rfl)
end Mine
namespace Mine
local macro_rules | `(tactic| walk_at $s:str) => `(tactic| k_extra $s)

theorem sgn_code (x y i : Nat) : x / 2 ^ i % 2 + 2 * (y / 2 ^ i % 2) ≤ 3 := by
  have h : x / 2 ^ i % 2 < 2 := Nat.mod_lt _ (by decide)
  have h2 : y / 2 ^ i % 2 < 2 := Nat.mod_lt _ (by decide)
  exact Nat.add_le_add (Nat.le_of_lt_succ h) (Nat.mul_le_mul_left 2 (Nat.le_of_lt_succ h2))
theorem down_bits (n x y : Nat) : (downKs ((n : Int) - 1) ((n : Int) - 1 - -1).toNat).map (fun i => (⟨#[sgn x y i.toNat]⟩ : Str)) = (bitsOf n x y).map fun k => (⟨#[k]⟩ : Str) := by
  have e : ((n : Int) - 1 - -1).toNat = n := by rw [Int.sub_neg, Int.sub_add_cancel]; rfl
  rw [e]
  unfold downKs bitsOf
  rw [List.map_map, List.map_map]
  refine List.map_congr_left fun j hj => ?_
  have e2 : ((n : Int) - 1 - (j : Int)).toNat = n - 1 - j := (congrArg Int.toNat (Int.sub_sub _ _ _)).trans ((Int.toNat_sub n (1 + j)).trans (Nat.sub_sub n 1 j).symm)
  simp only [Function.comp_apply, e2]
theorem down_at {n p : Nat} {k : Int} (hk : k = (n : Int) - 1 - (p : Int)) (hlt : p < ((n : Int) - 1 - -1).toNat) : k = ((n - 1 - p : Nat) : Int) := by
  rw [Int.sub_neg, Int.sub_add_cancel, Int.toNat_natCast] at hlt
  rw [hk, Int.sub_sub, Nat.sub_sub, Int.ofNat_sub (Nat.add_comm p 1 ▸ hlt)]
  rfl
theorem bits_weight (n x y : Nat) : (((bitsOf n x y).map fun k => (⟨#[k]⟩ : Str)).map (·.length)).sum + ((bitsOf n x y).map fun k => (⟨#[k]⟩ : Str)).length = n + n := by
  rw [List.length_map, bitsOf_length, List.map_map]
  have e : ∀ l : List Nat, (l.map ((fun (q : Str) => q.length) ∘ fun k => (⟨#[k]⟩ : Str))).sum = l.length := by
    intro l
    induction l with
    | nil => rfl
    | cons a r ih => rw [List.map_cons, List.sum_cons, ih, List.length_cons]; show 1 + _ = _; omega
  rw [e, bitsOf_length]
theorem item_sgnAll : ∀ a, a < 2 → ∀ b, b < 2 → Txt.item (Str.ofString "01zx") ((a + 2 * b : Nat) : Int) = ⟨#[sg2 a b]⟩ := by decide +kernel
theorem item_sgn (x y i : Nat) : Txt.item (Str.ofString "01zx") ((x / 2 ^ i % 2 + 2 * (y / 2 ^ i % 2) : Nat) : Int) = ⟨#[sgn x y i]⟩ :=
  item_sgnAll _ (Nat.mod_lt _ (by decide)) _ (Nat.mod_lt _ (by decide))
theorem row_step {row : List Str} {pre : List Int} {x y i : Nat} (h : row = pre.map fun i => (⟨#[sgn x y i.toNat]⟩ : Str)) :
    row ++ [Txt.item (Str.ofString "01zx") ((x / 2 ^ i % 2 + 2 * (y / 2 ^ i % 2) : Nat) : Int)] = (pre ++ [(i : Int)]).map fun i => (⟨#[sgn x y i.toNat]⟩ : Str) := by
  rw [item_sgn, List.map_append, List.map_singleton, Int.toNat_natCast, h]
theorem bits_end {h₀ h' : Heap} {L l : Addr} {m' m₀ : Str → Option Value} {x z : Str} {stored : List Str} {P : List Int → List Str → Prop} {pre : List Int} {s₁ : Shared} {tk : Nat} {tkz : Tok} {own rest : List (Addr × Obj)} {vs : List Value} {row : List Str} {cnt : Nat} {e : Addr × Obj} {adr : List Addr}
    (F : Fr h₀ L h' m') (N : News h₀ L h' ((l, W.listOf (vs ++ [Value.str z tkz]).toArray cnt) :: e :: (rest ++ own))) (ha : l :: e.1 :: rest.map (·.1) = adr) (hf : StrsAre vs row) (hr : ∀ y, y ≠ x → (∀ p ∈ ([] : List (Str × Value)), y ≠ p.1) → stored.contains y = false → m' y = m₀ y) (hp : P pre (row ++ [z])) :
    InvEndN h₀ L (KstS (fun c : List Value × List Str × Nat => (l, W.listOf c.1.toArray c.2.2) :: e :: rest) (fun _ => []) (fun c => StrsAre c.1 c.2.1) x stored m₀ (fun pre c => P pre c.2.1) pre) own adr s₁ { s₁ with heap := h', toks := tk } := by
  refine kst_end (vs ++ [Value.str z tkz], row ++ [z], cnt) F N ?_ ?_ ha (hf.append' (.cons _ _ .nil)) (fun _ h => nomatch h) hr hp
  · intro p hp
    simp only [List.mem_cons, List.mem_append] at hp ⊢
    rcases hp with h | h | h
    · exact .inl h
    · exact .inr (.inl h)
    · exact .inr (.inr (.inl h))
  · intro p hp
    simp only [List.mem_cons, List.mem_append]
    exact .inr (.inr (.inr hp))
theorem bits_text_con (w : World) (v : Addr) (n : Nat) (t : Tok) (x : Nat) (t2 : Tok) (y : Nat) (t3 : Tok) (rest : List (Addr × Obj)) (hn : n ≤ 1000) :
    Con w 76 2 [.ref v] ((v, tupOf [.int n t, .int x t2, .int y t3]) :: rest) (RStr ((v, tupOf [.int n t, .int x t2, .int y t3]) :: rest) ⟨(bitsOf n x y).toArray⟩) := by
  k_with_none
  k_with "call ref" => (k_here; (with_reducible show wpAny _ _ (call (Value.ref 69) _) _ _ _); k_dflt (refine Con.useI (by k_asm) (by k_asm) (by k_asm) (by k_asm) (by k_asm) (by first | exact rfl | assumption) (by first | exact room1 (by assumption) (by exact rfl) | ktr_room) (by first | exact room1 (by assumption) (by exact rfl) | ktr_units) (code_con _ _ _ _ _ _ _ _ _ _ _ (by k_mem) (by omega)) ?_; k_whole; intro t9 h9 tk9 F9 N9; (try dsimp only); (try k_fold)))
  k_with "call type:range" => (k_here; (rename Fr _ _ _ _ => F'); (rename News _ _ _ _ => N'); (refine range3_rows F' N' (by decide) ?_ (Or.inl (PyProof.noPylong_small (by omega)))); intro _ _ _ _ _ _ _ _ _)
  unfold Con; intro mean mg mb dp un gd cn cs a ccd cl outer A₀ base h₀ L m s Q E B F X N T hk hdp hun hret; refine wpAny_call ?_; k_dflt (refine' code_def ?k1 ?k2 ?k3 ?k4 ?k5 ?kA ?kF ?kK ?k6 ?k7 ?k8 ?k9 ?kB ?_ ?c2 ?c3 ?c4 ?c5; (case kA => exact rfl); (case kF => exact rfl); (case kK => assumption); (case k1 => k_asm); (case k2 => k_asm); (case k3 => k_asm); (case k4 => k_asm); (case k5 => k_asm); (case k6 => k_is); (case k7 => k_is); (case k8 => first | exact room0 (by assumption) | ktr_room); (case k9 => first | exact BindsTo.of_eq rfl | exact binds_K (by k_in) rfl (by k_is) rfl rfl rfl); (case c5 => decide); (case kB => exact locs rfl); (case c2 => exact rfl); (case c3 => exact rfl); (case c4 => exact rfl); k_whole; intro g' L' h' FG' F' N' B' X' T'; (try dsimp only); (try k_fold))
  repeat ((fail_if_success (with_reducible show wpAny _ _ (pyIter _) _ _ _)); first | (k_unfold; (try dsimp only)) | (k_end; wrow_close) | walk1 | (dsimp only; walk1))
  (rename Fr _ _ _ _ => lF'); (rename News _ _ _ _ => lN'); (rename IsRange _ _ _ _ _ _ _ _ => rgX)
  refine' kst_rangeD (σ := List Value × List Str × Nat) (fun c => (_, W.listOf c.1.toArray c.2.2) :: (v, tupOf [.int n t, .int x t2, .int y t3]) :: rest) (fun _ => []) (fun c => StrsAre c.1 c.2.1) [] (fun pre c => c.2.1 = pre.map fun i => (⟨#[sgn x y i.toNat]⟩ : Str)) ([], [], 0) (by rfl) rgX (small_down (by omega) (by omega) (by omega) (by omega)) (rangeSize_downNat _ _) lF' lN' StrsAre.nil (fun _ h => nomatch h) rfl ?_ ?_
  · clear lF' lN'
    intro c pre k tk9 u9 h9 tk8 own hk9 hlt hoff hf hP F9 N9
    obtain ⟨vs, row, cnt⟩ := c
    have kMark := kstMark
    have e9 : k = ((n - 1 - pre.length : Nat) : Int) := down_at hk9 hlt
    subst e9
    have hc9 := sgn_code x y (n - 1 - pre.length)
    simp only [List.cons_append, kstB] at N9 F9 hf hP hoff
    have hl9 : vs.length = pre.length := by rw [StrsAre.length hf, hP, List.length_map]
    k_with "state" => exact row_step (by assumption)
    repeat ((fail_if_success (with_reducible show InvEndN ..)); first | (k_unfold; (try dsimp only)) | (k_end; wrow_close) | walk1 | (dsimp only; walk1))
    (rename News _ _ _ _ => nE'); (simp only [List.push_toArray] at nE')
    exact bits_end (P := fun pre r => r = pre.map fun i => (⟨#[sgn x y i.toNat]⟩ : Str)) (by assumption) nE' rfl hf (by kst_same) (row_step hP)
  · clear lF' lN'
    intro c u9 h9 tk8 hf hP F9 N9
    obtain ⟨vs, row, cnt⟩ := c
    have kMark := kstMark
    simp only [kstB] at N9 F9 hf hP
    rw [down_bits] at hP
    subst hP
    k_steps
    refine join_listW (by is_list) hf (by decide +kernel) (by rw [bits_weight]; omega) ?_
    intro t9 k9
    k_steps
    refine hret _ _ _ _ (by assumption) (news_drop1 (by assumption)) (RStr.mk ?_)
    show Builtin.Str.glued _ _ = _
    rw [StrLaws.glued_eq_join]
    exact join_ones _
end Mine
namespace Mine
local macro_rules | `(tactic| walk_at $s:str) => `(tactic| k_extra $s)

theorem in_one {prog : Program} {w : World} {A : Around} {E : Value → Shared → Prop} {s : Shared} {X : Str} {t u : Tok} {c : Nat} {p : Prop} [Decidable p] {Q : Value → Shared → Prop} (e : c ∈ X.cps.toList ↔ p) (h : Q (.bool (decide p)) s) :
    wpAny (model prog w) A (compareOp .In (.str ⟨#[c]⟩ u) (.str X t)) Q E s := by
  refine in_str ?_
  rw [StrLaws.found_one]
  have e2 : decide (c ∈ X.cps.toList) = decide p := by simp [e]
  rw [e2]
  exact h
theorem in_1x {c : Nat} : c ∈ (Str.ofString "1x").cps.toList ↔ (c = 49 ∨ c = 120) := by
  rw [show (Str.ofString "1x").cps.toList = [49, 120] from rfl]; simp
theorem in_xz {c : Nat} : c ∈ (Str.ofString "xz?").cps.toList ↔ (c = 120 ∨ c = 122 ∨ c = 63) := by
  rw [show (Str.ofString "xz?").cps.toList = [120, 122, 63] from rfl]; simp
theorem dl1All : ∀ n, n < 123 → DigOk 1 n → dlow 1 n = if n = 49 ∨ n = 120 then 1 else 0 := by unfold DigOk; decide +kernel
theorem dl1 {n : Nat} (h : DigOk 1 n) : dlow 1 n = if n = 49 ∨ n = 120 then 1 else 0 := dl1All n h.lt h
theorem vec_arith (a b : Nat) : 2 * (a : Int) + (b : Int) = ((a * 2 ^ 1 + b : Nat) : Int) := by rw [Int.mul_comm, Int.natCast_add, Int.natCast_mul]; rfl
theorem vec_stepL {x v : Int} {pre : List Int} {n : Nat} (hx : x = (grpN (dlow 1) 1 (pre.map Int.toNat) : Nat)) (hn : DigOk 1 n) (hv : v = ((if n = 49 ∨ n = 120 then 1 else 0 : Nat) : Int)) :
    2 * x + v = (grpN (dlow 1) 1 ((pre ++ [(n : Int)]).map Int.toNat) : Nat) := by
  rw [List.map_append, List.map_singleton, Int.toNat_natCast, grpN_snoc, dl1 hn, hv, hx]
  exact vec_arith _ _
theorem vec_stepH {x v : Int} {pre : List Int} {n : Nat} (hx : x = (grpN (dhigh 1) 1 (pre.map Int.toNat) : Nat)) (hv : v = ((if n = 120 ∨ n = 122 ∨ n = 63 then 1 else 0 : Nat) : Int)) :
    2 * x + v = (grpN (dhigh 1) 1 ((pre ++ [(n : Int)]).map Int.toNat) : Nat) := by
  rw [List.map_append, List.map_singleton, Int.toNat_natCast, grpN_snoc, hv, hx]
  exact vec_arith _ _
theorem law_vector_con (w : World) (ds : List Nat) (t : Tok) (hdg : ∀ c ∈ ds, DigOk 1 c) (hl : ds.length ≤ 400) (news : List (Addr × Obj)) :
    Con w 160 1 [.str ⟨ds.toArray⟩ t] news (RTrip news ds.length (grpN (dlow 1) 1 ds : Nat) (grpN (dhigh 1) 1 ds : Nat)) := by
  k_with_none
  k_with "compareOp In str str" => (k_here; first | refine in_one in_1x ?_ | refine in_one in_xz ?_)
  unfold Con; intro mean mg mb dp un gd cn cs a ccd cl outer A₀ base h₀ L m s Q E B F X N T hk hdp hun hret; refine wpAny_call ?_; k_dflt (refine' code_def ?k1 ?k2 ?k3 ?k4 ?k5 ?kA ?kF ?kK ?k6 ?k7 ?k8 ?k9 ?kB ?_ ?c2 ?c3 ?c4 ?c5; (case kA => exact rfl); (case kF => exact rfl); (case kK => assumption); (case k1 => k_asm); (case k2 => k_asm); (case k3 => k_asm); (case k4 => k_asm); (case k5 => k_asm); (case k6 => k_is); (case k7 => k_is); (case k8 => first | exact room0 (by assumption) | ktr_room); (case k9 => first | exact BindsTo.of_eq rfl | exact binds_K (by k_in) rfl (by k_is) rfl rfl rfl); (case c5 => decide); (case kB => exact locs rfl); (case c2 => exact rfl); (case c3 => exact rfl); (case c4 => exact rfl); k_whole; intro g' L' h' FG' F' N' B' X' T'; (try dsimp only); (try k_fold))
  have hlx := mk_length ds
  k_with "state" => (first | exact ⟨rfl, rfl⟩ | ((simp only [decide_eq_true_eq, decide_eq_false_iff_not] at *); exact ⟨vec_stepL (by assumption) (dig_of hdg (by assumption)) (by first | rw [if_pos (by assumption)]; rfl | rw [if_neg (by assumption)]; rfl), vec_stepH (by assumption) (by first | rw [if_pos (by assumption)]; rfl | rw [if_neg (by assumption)]; rfl)⟩))
  k_with "pyIter str" => k_state (fun pre x y => x = (grpN (dlow 1) 1 (pre.map Int.toNat) : Nat) ∧ y = (grpN (dhigh 1) 1 (pre.map Int.toNat) : Nat)) "low" "high"
  k_steps
  all_goals refine hret _ _ _ _ (by assumption) (by assumption) (RTrip.mk ?_ ?_ ?_ (by assumption))
  · rw [← hlx]
  · rename _ = ((grpN (dlow _) _ _ : Nat) : Int) => hq; rw [hq, codes_mk, toNat_map]
  · rename _ = ((grpN (dhigh _) _ _ : Nat) : Int) => hq; rw [hq, codes_mk, toNat_map]
end Mine
namespace Mine
local macro_rules | `(tactic| walk_at $s:str) => `(tactic| k_extra $s)

local macro_rules | `(tactic| k_all) => `(tactic| assumption)
theorem fmod_nat {b : Nat} (a : Int) (hb : 1 ≤ b) : ∃ v : Nat, a.fmod (b : Int) = (v : Int) ∧ v < b := by
  have h1 := Int.fmod_nonneg_of_pos a (Int.ofNat_lt.mpr hb)
  have h2 := Int.fmod_lt_of_pos a (Int.ofNat_lt.mpr hb)
  exact ⟨(a.fmod (b : Int)).toNat, (Int.toNat_of_nonneg h1).symm, (Int.toNat_lt h1).mpr h2⟩
theorem law_pick_con (w : World) (pl fg : Addr) (i mx : Int) (ti tm : Tok) (n : Nat) (vs : List Value) (ns : List Int) (k : Nat) (b : Nat) (t : Tok) (rest : List (Addr × Obj))
    (hne : ∀ p ∈ rest, p.1 ≠ pl) (hpf : fg ≠ pl) (hns : IntsAre vs ns) (hl : ns.length ≤ 1000) (hi : 0 ≤ i) (hi2 : i ≤ 1000) (hm : 0 ≤ mx) (hm2 : mx ≤ 1009) (hb : 1 ≤ b) :
    Con w 146 1 [.ref pl, .int b t] ((pl, poolOf fg i mx ti tm n) :: (fg, W.listOf vs.toArray k) :: rest) (fun r nx => ∃ (v : Nat) (t' : Tok) (i' mx' : Int) (ti' tm' : Tok) (n' : Nat), r = .int v t' ∧ v < b ∧ (pl, poolOf fg i' mx' ti' tm' n') :: (fg, W.listOf vs.toArray k) :: rest = nx ∧ 0 ≤ i' ∧ i' ≤ 1000 ∧ 0 ≤ mx' ∧ mx' ≤ 1009) := by
  k_with_none
  unfold Con; intro mean mg mb dp un gd cn cs a ccd cl outer A₀ base h₀ L m s Q E B F X N T hk hdp hun hret; refine wpAny_call ?_; k_dflt (refine' code_def ?k1 ?k2 ?k3 ?k4 ?k5 ?kA ?kF ?kK ?k6 ?k7 ?k8 ?k9 ?kB ?_ ?c2 ?c3 ?c4 ?c5; (case kA => exact rfl); (case kF => exact rfl); (case kK => assumption); (case k1 => k_asm); (case k2 => k_asm); (case k3 => k_asm); (case k4 => k_asm); (case k5 => k_asm); (case k6 => k_is); (case k7 => k_is); (case k8 => first | exact room0 (by assumption) | ktr_room); (case k9 => first | exact BindsTo.of_eq rfl | exact binds_K (by k_in) rfl (by k_is) rfl rfl rfl); (case c5 => decide); (case kB => exact locs rfl); (case c2 => exact rfl); (case c3 => exact rfl); (case c4 => exact rfl); k_whole; intro g' L' h' FG' F' N' B' X' T'; (try dsimp only); (try k_fold))
  have hvl := IntsAre.length hns
  k_steps
  all_goals refine hret _ _ _ _ (by assumption) (by assumption) ?_
  · obtain ⟨v, hv, hlt⟩ := fmod_nat (ns.getD i.toNat 0) hb
    exact ⟨v, _, i + 1, mx, _, _, _, by rw [hv], hlt, rfl, Int.le_add_one hi, Int.le_trans (Int.add_one_le_of_lt (by assumption)) (Int.ofNat_le.mpr hl), hm, hm2⟩
  · obtain ⟨v, hv, hlt⟩ := fmod_nat 0 hb
    exact ⟨v, _, i, mx, _, _, _, by rw [hv], hlt, rfl, hi, hi2, hm, hm2⟩
  · obtain ⟨v, hv, hlt⟩ := fmod_nat ((mx * 37 + 11).fmod 1009) hb
    exact ⟨v, _, i, (mx * 37 + 11).fmod 1009, _, _, _, by rw [hv], hlt, rfl, hi, hi2, Int.fmod_nonneg_of_pos _ (by decide), Int.le_of_lt (Int.fmod_lt_of_pos _ (by decide))⟩
/-- what a draw hands back -/
def RPick (C : Obj → List (Addr × Obj)) (fg : Addr) (b : Nat) (r : Value) (nx : List (Addr × Obj)) : Prop :=
  ∃ (v : Nat) (t' : Tok) (i' mx' : Int) (ti' tm' : Tok) (n' : Nat), r = .int v t' ∧ v < b ∧ C (poolOf fg i' mx' ti' tm' n') = nx ∧ 0 ≤ i' ∧ i' ≤ 1000 ∧ 0 ≤ mx' ∧ mx' ≤ 1009
theorem Con.useK {w : World} {f : Addr} {dd : Nat} {args : List Value} {news : List (Addr × Obj)} {C : Obj → List (Addr × Obj)} {fg : Addr} {b : Nat}
    {mean : ExcName → Option Value} {mg mb : Str → Option Value} {dp un : Nat} {gd : Option (List Code)} {cn : Str} {cs : Scope} {a₀ : Addr} {ccd : Value} {cl : List (Str × Addr)} {outer : List Env} {A₀ : Around} {base h₀ : Heap} {L : Addr} {m : Str → Option Value} {s : Shared}
    {Q E : Value → Shared → Prop}
    (B : Below A₀ base outer h₀) (F : Fr h₀ L s.heap m) (X : (hd.heap_39 w.params).In h₀) (N : News h₀ L s.heap news) (T : Top hd.view_39 loose mean mg mb h₀) (hk : cs.kind = .function) (hd : dp + dd < recursionLimit) (hu : un + 8 * dd < cLine) (CC : Con w f dd args news (RPick C fg b))
    (ret : ∀ (v : Nat) (t' : Tok) (i' mx' : Int) (ti' tm' : Tok) (n' : Nat) (h' : Heap) (tk' : Nat), Fr h₀ L h' m → News h₀ L h' (C (poolOf fg i' mx' ti' tm' n')) → v < b → 0 ≤ i' → i' ≤ 1000 → 0 ≤ mx' → mx' ≤ 1009 → Q (Value.int v t') { s with heap := h', toks := tk' }) :
    wpAny (model PySem.Challenge.rw_nn0299_01.row.prog w) (ktrTop dp un gd cn cs L a₀ ccd cl outer) (call (.ref f) args) Q E s :=
  CC _ _ _ _ _ _ _ _ _ _ _ _ _ _ _ _ _ _ _ _ B F X N T hk hd hu fun r nx h' tk' F' N' ho => by
    obtain ⟨v, t', i', mx', ti', tm', n', rfl, hv, rfl, a1, a2, a3, a4⟩ := ho
    exact ret v t' i' mx' ti' tm' n' h' tk' F' N' hv a1 a2 a3 a4
theorem law_pick_any (w : World) (pl fg : Addr) (i mx : Int) (ti tm : Tok) (n : Nat) (vs : List Value) (ns : List Int) (k : Nat) (b : Nat) (t : Tok) (news : List (Addr × Obj)) (C : Obj → List (Addr × Obj))
    (U : UpdF pl (poolOf fg i mx ti tm n) news C) (hfg : (fg, W.listOf vs.toArray k) ∈ news) (hpf : fg ≠ pl) (hns : IntsAre vs ns) (hl : ns.length ≤ 1000) (hi : 0 ≤ i) (hi2 : i ≤ 1000) (hm : 0 ≤ mx) (hm2 : mx ≤ 1009) (hb : 1 ≤ b) :
    Con w 146 1 [.ref pl, .int b t] news (RPick C fg b) := by
  obtain ⟨pre, post, rfl, hC, h1, h2⟩ := U.split
  unfold Con
  intro mean mg mb dp un gd cn cs a ccd cl outer A₀ base h₀ L m s Q E B F X N T hk hdp hun hret
  refine Con.use (law_pick_con w pl fg i mx ti tm n vs ns k b t (pre ++ post) (fun p hp => ?_) hpf hns hl hi hi2 hm hm2 hb) B F X (cb_drop N fun p hp => ?_) T hk hdp hun fun r nx h' tk' F' N' hr => ?_
  · rcases List.mem_append.mp hp with h | h
    · exact h1 p h
    · exact h2 p h
  · rcases List.mem_cons.mp hp with rfl | hp
    · simp
    rcases List.mem_cons.mp hp with rfl | hp
    · exact hfg
    rcases List.mem_append.mp hp with h | h
    · simp [h]
    · simp [h]
  · obtain ⟨v, t', i', mx', ti', tm', n', rfl, hv, rfl, q⟩ := hr
    refine hret _ (C (poolOf fg i' mx' ti' tm' n')) _ _ F' (cb_drop N' fun p hp => ?_) ⟨v, t', i', mx', ti', tm', n', rfl, hv, rfl, q⟩
    rw [hC] at hp
    rcases List.mem_append.mp hp with h | h
    · simp [h]
    · rcases List.mem_cons.mp h with rfl | h
      · simp
      · simp [h]
end Mine
namespace Mine
local macro_rules | `(tactic| walk_at $s:str) => `(tactic| k_extra $s)

theorem law_pool_con (w : World) (l : Addr) (vs : List Value) (ns : List Int) (hns : IntsAre vs ns) (hlen : ns.length ≤ 63) (news : List (Addr × Obj)) :
    ConB (fun base => base.IsList l vs.toArray) w 139 1 [.ref l] news (RPool news) := by
  k_with_none
  k_with "call builtin:len" => (k_here; (rename News _ _ _ _ => nE'); (simp only [List.push_toArray] at nE'); k_dflt (refine kst_len nE' (by k_memK) rfl (by simp only [List.length_append, List.length_cons, List.length_nil]; omega) ?_); k_whole)
  unfold ConB; intro mean mg mb dp un gd cn cs a ccd cl outer A₀ base h₀ L m s Q E B F X N T hk hdp hun hpre hret; refine wpAny_call ?_; k_dflt (refine' code_def ?k1 ?k2 ?k3 ?k4 ?k5 ?kA ?kF ?kK ?k6 ?k7 ?k8 ?k9 ?kB ?_ ?c2 ?c3 ?c4 ?c5; (case kA => exact rfl); (case kF => exact rfl); (case kK => assumption); (case k1 => k_asm); (case k2 => k_asm); (case k3 => k_asm); (case k4 => k_asm); (case k5 => k_asm); (case k6 => k_is); (case k7 => k_is); (case k8 => first | exact room0 (by assumption) | ktr_room); (case k9 => first | exact BindsTo.of_eq rfl | exact binds_K (by k_in) rfl (by k_is) rfl rfl rfl); (case c5 => decide); (case kB => exact locs rfl); (case c2 => exact rfl); (case c3 => exact rfl); (case c4 => exact rfl); k_whole; intro g' L' h' FG' F' N' B' X' T'; (try dsimp only); (try k_lift B'); (try k_fold))
  have hvl := IntsAre.length hns
  k_with "pyIter ref" => k_of "cell" => k_state (fun (_ : List Int) figs mix => figs.length ≤ 400 ∧ 0 ≤ mix ∧ mix < 1009) "figures" "mix"
  k_with "pyIter ref" => k_of "step" => k_state (fun pre figs rest => figs.length ≤ 400 + pre.length ∧ 0 ≤ rest) "figures" "rest"
  k_with "state" => (repeat' apply And.intro) <;> first
    | assumption
    | exact Int.fmod_nonneg_of_pos _ (by decide)
    | exact Int.fmod_lt_of_pos _ (by decide)
    | exact Int.fdiv_nonneg (by assumption) (by decide)
    | exact Nat.le_add_right_of_le (by assumption)
    | omega
    | (simp only [List.length_append, List.length_cons, List.length_nil] at *; omega)
  k_steps
  all_goals ((rename News h₀ _ _ _ => nE'); (try simp only [List.push_toArray] at nE'))
  all_goals exact pool_end hret (by assumption) nE' (by intro p hp; simp [hp]) (by first | exact And.left (by assumption) | exact And.left (And.right (by assumption)) | omega) (by assumption) (by kst_facts) (by first | exact Nat.le_trans (by assumption) (by decide) | omega | (simp only [List.length_append, List.length_cons, List.length_nil, rangeKs_length] at *; omega)) (by first | assumption | exact Int.fmod_nonneg_of_pos _ (by decide) | omega) (by first | exact Int.le_of_lt (by assumption) | exact Int.le_of_lt (Int.fmod_lt_of_pos _ (by decide)) | omega)
end Mine
namespace Mine
local macro_rules | `(tactic| walk_at $s:str) => `(tactic| k_extra $s)

/-- a digit's bits -/
def expand (k c : Nat) : List Nat := if c = 120 ∨ c = 122 ∨ c = 63 then List.replicate k c else bitsOf k (hexv c) 0
theorem expand_length (k c : Nat) : (expand k c).length = k := by
  unfold expand
  split
  · simp
  · exact bitsOf_length _ _ _
theorem expand_ok {k c : Nat} : ∀ d ∈ expand k c, DigOk 1 d := by
  intro d hd
  unfold expand at hd
  split at hd
  · rename_i h
    rw [(List.mem_replicate.mp hd).2]
    exact .x h
  · exact bitsOf_ok _ _ _ d hd
theorem grp_append (f : Nat → Nat) (a b : List Nat) : grpN f 1 (a ++ b) = grpN f 1 a * 2 ^ b.length + grpN f 1 b := by
  induction b using snoc_ind with
  | h0 => simp [grpN]
  | h1 l c ih =>
    rw [← List.append_assoc, grpN_snoc, grpN_snoc, ih, List.length_append, List.length_singleton, Nat.pow_one, Nat.pow_succ 2 l.length, Nat.add_mul, Nat.mul_assoc]
    exact Nat.add_assoc _ _ _
theorem grp_rep (f : Nat → Nat) (c k : Nat) : grpN f 1 (List.replicate k c) = f c * (2 ^ k - 1) := by
  induction k with
  | zero => simp [grpN]
  | succ k ih =>
    obtain ⟨q, hq⟩ := pow_succ_of k
    rw [List.replicate_succ', grpN_snoc, ih, Nat.pow_one, Nat.pow_succ, hq, Nat.succ_mul]
    exact (congrArg (· + f c) (Nat.mul_assoc (f c) q 2)).trans (Nat.mul_succ (f c) (q * 2)).symm
theorem low_expand {k c : Nat} (h : DigOk k c) : grpN (dlow 1) 1 (expand k c) = dlow (2 ^ k - 1) c := by
  unfold expand
  split
  · rename_i hc
    rw [grp_rep]
    unfold dlow
    split
    · exact Nat.one_mul _
    · rename_i h1
      rw [if_pos (hc.resolve_left h1)]
      exact Nat.zero_mul _
  · rename_i hc
    have e : grpN (dlow 1) 1 (bitsOf k (hexv c) 0) = hexv c % 2 ^ k := low_bits _ _ _
    rw [e, Nat.mod_eq_of_lt (h.d hc).2]
    unfold dlow
    rw [if_neg fun z => hc (.inl z), if_neg fun z => hc (.inr z)]
theorem high_expand (k c : Nat) : grpN (dhigh 1) 1 (expand k c) = dhigh (2 ^ k - 1) c := by
  unfold expand
  split
  · rename_i hc
    rw [grp_rep]
    unfold dhigh
    rw [if_pos hc, if_pos hc]; exact Nat.one_mul _
  · rename_i hc
    have e : grpN (dhigh 1) 1 (bitsOf k (hexv c) 0) = 0 % 2 ^ k := high_bits _ _ _
    rw [e, Nat.zero_mod]
    unfold dhigh
    rw [if_neg hc]
theorem flat_length (k : Nat) (ds : List Nat) : (ds.flatMap (expand k)).length = k * ds.length := by
  induction ds with
  | nil => rfl
  | cons a r ih => rw [List.flatMap_cons, List.length_append, ih, expand_length, List.length_cons, Nat.mul_succ]; exact Nat.add_comm _ _
theorem flat_ok (k : Nat) (ds : List Nat) : ∀ d ∈ ds.flatMap (expand k), DigOk 1 d := by
  intro d hd
  obtain ⟨c, _, h⟩ := List.mem_flatMap.mp hd
  exact expand_ok d h
theorem low_flat {k : Nat} {ds : List Nat} (h : ∀ c ∈ ds, DigOk k c) : grpN (dlow 1) 1 (ds.flatMap (expand k)) = grpN (dlow (2 ^ k - 1)) k ds := by
  induction ds using snoc_ind with
  | h0 => rfl
  | h1 l c ih =>
    rw [List.flatMap_append, List.flatMap_singleton, grp_append, grpN_snoc, ih fun d hd => h d (by simp [hd]), expand_length, low_expand (h c (by simp))]
theorem high_flat {k : Nat} {ds : List Nat} : grpN (dhigh 1) 1 (ds.flatMap (expand k)) = grpN (dhigh (2 ^ k - 1)) k ds := by
  induction ds using snoc_ind with
  | h0 => rfl
  | h1 l c ih =>
    rw [List.flatMap_append, List.flatMap_singleton, grp_append, grpN_snoc, ih, expand_length, high_expand]

/-- the bits that a whole number needs, one at least -/
def blen (v : Nat) : Nat := if v = 0 then 1 else v.log2 + 1
theorem bitsOf_succ (k v : Nat) : bitsOf (k + 1) v 0 = sgn v 0 k :: bitsOf k v 0 := by
  unfold bitsOf
  rw [List.range_succ_eq_map, List.map_cons, List.map_map]
  congr 1
  refine List.map_congr_left fun j hj => ?_
  have := List.mem_range.mp hj
  simp only [Function.comp_apply]
  exact congrArg (sgn v 0) ((congrArg (k - ·) (Nat.add_comm j 1)).trans (Nat.sub_sub k 1 j).symm)
theorem sg2_bit : ∀ a, a < 2 → sg2 a 0 = 48 + a := by decide
theorem sgn_bit (v k : Nat) : sgn v 0 k = 48 + v / 2 ^ k % 2 := by
  show sg2 _ (0 / 2 ^ k % 2) = _
  rw [Nat.zero_div]
  exact sg2_bit _ (two_lt _)
theorem blen_of {v k : Nat} (h1 : 1 ≤ k) (h2 : v < 2 ^ k) (h3 : k = 1 ∨ 2 ^ (k - 1) ≤ v) : k = blen v := by
  unfold blen
  by_cases h0 : v = 0
  · rw [if_pos h0]
    exact h3.resolve_right fun h => Nat.not_lt_zero _ (Nat.lt_of_lt_of_le (Nat.two_pow_pos (k - 1)) (h0 ▸ h))
  · rw [if_neg h0]
    have a := (Nat.log2_lt h0).mpr h2
    rcases h3 with h | h
    · rw [h] at a ⊢
      rw [Nat.lt_one_iff.mp a]
    · exact Nat.le_antisymm (Nat.le_add_of_sub_le ((Nat.le_log2 h0).mpr h)) a
theorem blen_pos (v : Nat) : 1 ≤ blen v := by
  unfold blen
  split
  · decide
  · exact Nat.le_add_left _ _
theorem lt_blen (v : Nat) : v < 2 ^ blen v := by
  unfold blen
  split
  · subst_vars; decide
  · exact Nat.lt_log2_self
theorem decN_lt (l : List Nat) (h : ∀ c ∈ l, 48 ≤ c ∧ c ≤ 57) : decN l < 10 ^ l.length := by
  induction l using snoc_ind with
  | h0 => decide
  | h1 l c ih =>
    have e : decN (l ++ [c]) = decN l * 10 + (c - 48) := by simp [decN]
    have hc := h c (by simp)
    have hi := ih fun d hd => h d (by simp [hd])
    rw [e, List.length_append, List.length_singleton, Nat.pow_succ]
    exact Nat.lt_of_lt_of_le (Nat.add_lt_add_left (Nat.lt_of_le_of_lt (Nat.sub_le_sub_right hc.2 48) (by decide : 57 - 48 < 10)) _) (by rw [← Nat.succ_mul]; exact Nat.mul_le_mul_right _ hi)
theorem blen_le {v k : Nat} (h : v < 2 ^ k) (hk : 1 ≤ k) : blen v ≤ k := by
  unfold blen
  split
  · exact hk
  · rename_i h0
    exact (Nat.log2_lt h0).mpr h
theorem blen_dec {l : List Nat} (h : ∀ c ∈ l, 48 ≤ c ∧ c ≤ 57) (hl : l.length ≤ 40) : blen (decN l) ≤ 160 := by
  refine blen_le (Nat.lt_of_lt_of_le (decN_lt l h) ?_) (by decide)
  refine Nat.le_trans (Nat.pow_le_pow_right (by decide) hl) ?_
  decide +kernel
end Mine
namespace Mine
local macro_rules | `(tactic| walk_at $s:str) => `(tactic| k_extra $s)

theorem fold_rep (c : Nat) : ∀ (k : Nat) (a : Array Nat), (List.replicate k #[c]).foldl (· ++ ·) a = a ++ (List.replicate k c).toArray
  | 0, a => by simp
  | k + 1, a => by
    rw [List.replicate_succ, List.foldl_cons, fold_rep c k, List.replicate_succ, Array.append_assoc]
    congr 1
    simp
theorem mul_sgn (c : Nat) (n : Int) : Txt.mul ⟨#[c]⟩ n = ⟨(List.replicate n.toNat c).toArray⟩ := by
  unfold Txt.mul
  split
  · have : n.toNat = 0 := Int.toNat_of_nonpos (Int.lt_add_one_iff.mp (by assumption))
    rw [this]; rfl
  · split
    · rename_i h1 h2
      have h3 : n = 1 := by
        rcases Bool.or_eq_true_iff.mp h2 with h | h
        · simpa using h
        · exact absurd h (by simp [Str.length])
      subst h3
      rfl
    · congr 1
      show (List.replicate n.toNat #[c]).foldl (· ++ ·) #[] = _
      rw [fold_rep]
      simp
theorem mul_rule {prog : Program} {w : World} {A : Around} {E : Value → Shared → Prop} {s : Shared} {t u : Tok} {Q : Value → Shared → Prop} {c : Nat} {n : Int} (h0 : 0 ≤ n) (h1 : n ≤ 1000) (h : ∀ t' k, (⟨(List.replicate n.toNat c).toArray⟩ : Str).length = n.toNat → Q (.str ⟨(List.replicate n.toNat c).toArray⟩ t') { s with toks := k }) :
    wpAny (model prog w) A (binaryOp .Mult (.str ⟨#[c]⟩ t) (.int n u)) Q E s := by
  refine SB.mul (mulOk_of 1 1000 (Nat.le_refl _) (by omega) (by omega) (by decide) (by decide)) ?_
  intro t' k
  rw [mul_sgn]
  exact h t' k (by rw [mk_length, List.length_replicate])
theorem cat_mk2 (a b : List Nat) : (⟨a.toArray⟩ : Str) ++ ⟨b.toArray⟩ = ⟨(a ++ b).toArray⟩ := by
  refine PySem.Str.ext' (Array.toList_inj.mp ?_)
  rw [PySem.Str.cps_append]
  simp
theorem flat_snoc (k : Nat) (pre : List Int) (n : Nat) : ((pre ++ [(n : Int)]).map Int.toNat).flatMap (expand k) = (pre.map Int.toNat).flatMap (expand k) ++ expand k n := by
  rw [List.map_append, List.flatMap_append, List.map_singleton, Int.toNat_natCast, List.flatMap_singleton]
theorem item01All : ∀ a : Nat, a < 2 → Txt.item (Str.ofString "01") (a : Int) = ⟨#[48 + a]⟩ := by decide +kernel
theorem item01 {r : Int} {v k : Nat} (hr : r = ((v / 2 ^ k : Nat) : Int)) : Txt.item (Str.ofString "01") (r.fmod 2) = ⟨#[sgn v 0 k]⟩ := by
  have h : v / 2 ^ k % 2 < 2 := Nat.mod_lt _ (by decide)
  have e : r.fmod 2 = ((v / 2 ^ k % 2 : Nat) : Int) := by rw [hr, Int.fmod_eq_emod_of_nonneg _ (by decide)]; rfl
  rw [e, sgn_bit]
  exact item01All _ h
theorem cat_mk (c : Nat) (l : List Nat) : (⟨#[c]⟩ : Str) ++ ⟨l.toArray⟩ = ⟨(c :: l).toArray⟩ := by
  refine PySem.Str.ext' (Array.toList_inj.mp ?_)
  rw [PySem.Str.cps_append]
  simp
theorem row_turn {r : Int} {x : Str} {v k : Nat} (hr : r = ((v / 2 ^ k : Nat) : Int)) (hx : x = ⟨(bitsOf k v 0).toArray⟩) :
    r.fdiv 2 = ((v / 2 ^ (k + 1) : Nat) : Int) ∧ Txt.item (Str.ofString "01") (r.fmod 2) ++ x = (⟨(bitsOf (k + 1) v 0).toArray⟩ : Str) := by
  refine ⟨?_, ?_⟩
  · rw [hr, Int.fdiv_eq_ediv_of_nonneg _ (by decide), Nat.pow_succ, ← Nat.div_div_eq_div_mul]
    rfl
  · rw [item01 hr, hx, bitsOf_succ, cat_mk]
end Mine
namespace Mine
local macro_rules | `(tactic| walk_at $s:str) => `(tactic| k_extra $s)

theorem any_dig {l : List Nat} (h : ∀ c ∈ l, 48 ≤ c ∧ c ≤ 57) (h1 : 1 ≤ l.length) : ([Str.ofString "x", Str.ofString "z", Str.ofString "?"].any fun q => q == (⟨l.toArray⟩ : Str)) = false := by
  cases l with
  | nil => simp at h1
  | cons c r =>
    have hc := h c (by simp)
    have ne : ∀ d : Nat, 57 < d → ((⟨#[d]⟩ : Str) == (⟨(c :: r).toArray⟩ : Str)) = false := by
      intro d hd
      refine beq_eq_false_iff_ne.mpr fun q => Nat.not_le_of_lt hd ?_
      injection q with q
      have e : d = c := (List.cons.inj (congrArg Array.toList q)).1
      rw [e]
      exact hc.2
    have e1 := ne 120 (by decide)
    have e2 := ne 122 (by decide)
    have e3 := ne 63 (by decide)
    simp only [List.any_cons, List.any_nil, Bool.or_false]
    rw [show (Str.ofString "x" == (⟨(c :: r).toArray⟩ : Str)) = false from e1, show (Str.ofString "z" == (⟨(c :: r).toArray⟩ : Str)) = false from e2, show (Str.ofString "?" == (⟨(c :: r).toArray⟩ : Str)) = false from e3]
    rfl
theorem int_of {l : List Nat} (h : ∀ c ∈ l, 48 ≤ c ∧ c ≤ 57) (h1 : 1 ≤ l.length) (hl : l.length ≤ 40) : PySem.intText? ⟨l.toArray⟩ = some ((decN l : Nat) : Int) := by
  have := PySem.intText_digits (x := ⟨l.toArray⟩) h (by intro q; rw [show (⟨l.toArray⟩ : Str).cps.toList = l from rfl] at q; rw [q] at h1; simp at h1) (by rw [mk_length]; omega)
  exact this
def BW (v : Nat) (r : Int) (x : Str) : Prop := r = ((v / 2 ^ x.length : Nat) : Int) ∧ x = ⟨(bitsOf x.length v 0).toArray⟩ ∧ (x.length ≤ 1 ∨ 2 ^ (x.length - 1) ≤ v) ∧ x.length ≤ 160
theorem bw_start (v : Nat) : BW v (v : Int) (Str.ofString "") := by
  have e : (Str.ofString "").length = 0 := rfl
  refine ⟨by rw [e, Nat.pow_zero, Nat.div_one], ?_, ?_, ?_⟩ <;> rw [e]
  · rfl
  · exact .inl (by decide)
  · decide
theorem bw_step {v : Nat} {r : Int} {x : Str} (h : BW v r x) (hv : v < 2 ^ 160) (hc : 0 < r ∨ x.length = 0) : BW v (r.fdiv 2) (Txt.item (Str.ofString "01") (r.fmod 2) ++ x) := by
  obtain ⟨h1, h2, h3, h4⟩ := h
  have e1 := item01 h1
  have e2 : (Txt.item (Str.ofString "01") (r.fmod 2) ++ x) = ⟨(bitsOf (x.length + 1) v 0).toArray⟩ := by
    rw [e1, bitsOf_succ]
    exact (congrArg (fun q => (⟨#[sgn v 0 x.length]⟩ : Str) ++ q) h2).trans (cat_mk _ _)
  have e3 : (Txt.item (Str.ofString "01") (r.fmod 2) ++ x).length = x.length + 1 := by rw [e2, mk_length, bitsOf_length]
  have hp : x.length = 0 ∨ 2 ^ x.length ≤ v := by
    rcases hc with hc | hc
    · right
      rw [h1] at hc
      have : 0 < v / 2 ^ x.length := Int.natCast_pos.mp hc
      exact (Nat.div_pos_iff.mp this).2
    · exact .inl hc
  refine ⟨?_, ?_, ?_, ?_⟩
  · rw [e3, h1, Int.fdiv_eq_ediv_of_nonneg _ (by decide), Nat.pow_succ, ← Nat.div_div_eq_div_mul]
    rfl
  · rw [e3]; exact e2
  · rw [e3]
    rcases hp with hp | hp
    · left; rw [hp]; exact Nat.le_refl _
    · right; exact hp
  · rw [e3]
    rcases hp with hp | hp
    · rw [hp]; decide
    · have : 2 ^ x.length < 2 ^ 160 := Nat.lt_of_le_of_lt hp hv
      exact (Nat.pow_lt_pow_iff_right (by decide : 1 < 2)).mp this
theorem bw_end {v : Nat} {r : Int} {x : Str} (h : BW v r x) (hc : ¬ 0 < r) (hx : x.length ≠ 0) : x = ⟨(bitsOf (blen v) v 0).toArray⟩ := by
  obtain ⟨h1, h2, h3, h4⟩ := h
  have e : x.length = blen v := by
    refine blen_of (Nat.pos_of_ne_zero hx) ?_ ?_
    · have h0 : v / 2 ^ x.length = 0 := Nat.eq_zero_of_not_pos fun z => hc (by rw [h1]; exact Int.natCast_pos.mpr z)
      exact (Nat.div_eq_zero_iff_lt (Nat.two_pow_pos _)).mp h0
    · rcases h3 with h | h
      · left; exact Nat.le_antisymm h (Nat.pos_of_ne_zero hx)
      · right; exact h
  rw [e] at h2
  exact h2
theorem len_empty {x : Str} (h : (x == Str.ofString "") = true) : x.length = 0 := by
  rw [beq_iff_eq.mp h]; rfl
theorem len_full {x : Str} (h : (x == Str.ofString "") = false) : x.length ≠ 0 := by
  intro q
  have e : x = Str.ofString "" := by
    obtain ⟨⟨l⟩⟩ := x
    cases l with
    | nil => rfl
    | cons a r => simp [Str.length] at q
  rw [e] at h
  exact absurd h (by decide)
theorem bw_less {v : Nat} {r : Int} {x : Str} (h : BW v r x) (hc : 0 < r ∨ x.length = 0) : (r.fdiv 2).toNat + (if (Txt.item (Str.ofString "01") (r.fmod 2) ++ x).length = 0 then 1 else 0) < r.toNat + (if x.length = 0 then 1 else 0) := by
  have e3 : (Txt.item (Str.ofString "01") (r.fmod 2) ++ x).length = x.length + 1 := by
    rw [Str.length_append, item01 h.1]
    exact Nat.add_comm _ _
  rw [e3, if_neg (Nat.succ_ne_zero _), Nat.add_zero]
  have e4 : (r.fdiv 2).toNat = v / 2 ^ x.length / 2 := by
    rw [h.1, Int.fdiv_eq_ediv_of_nonneg _ (by decide)]; rfl
  have e5 : r.toNat = v / 2 ^ x.length := by rw [h.1]; rfl
  rw [e4, e5]
  by_cases hx : x.length = 0
  · rw [if_pos hx]
    exact Nat.lt_succ_of_le (Nat.div_le_self _ _)
  · rw [if_neg hx, Nat.add_zero]
    have hp := hc.resolve_right hx
    rw [h.1] at hp
    exact Nat.div_lt_self (Int.natCast_pos.mp hp) (by decide)
theorem decN_160 {l : List Nat} (h : ∀ c ∈ l, 48 ≤ c ∧ c ≤ 57) (hl : l.length ≤ 40) : decN l < 2 ^ 160 := by
  refine Nat.lt_of_lt_of_le (decN_lt l h) (Nat.le_trans (Nat.pow_le_pow_right (by decide) hl) ?_)
  decide +kernel
theorem law_bits_plain (w : World) (b : Str) (t2 : Tok) (ds : List Nat) (t : Tok) (hdg : ∀ c ∈ ds, 48 ≤ c ∧ c ≤ 57) (h1 : 1 ≤ ds.length) (hl : ds.length ≤ 40) (hb : ([Str.ofString "", Str.ofString "d"].any fun x => x == b) = true) (news : List (Addr × Obj)) :
    Con w 153 1 [.str b t2, .str ⟨ds.toArray⟩ t] news (RStr news ⟨(bitsOf (blen (decN ds)) (decN ds) 0).toArray⟩) := by
  k_with_none
  k_with "call type:int" => (k_here; (refine KIN.call_text (int_of (by assumption) (by assumption) (by assumption)) (by rw [mk_length]; omega) ?_))
  unfold Con; intro mean mg mb dp un gd cn cs a ccd cl outer A₀ base h₀ L m s Q E B F X N T hk hdp hun hret; refine wpAny_call ?_; k_dflt (refine' code_def ?k1 ?k2 ?k3 ?k4 ?k5 ?kA ?kF ?kK ?k6 ?k7 ?k8 ?k9 ?kB ?_ ?c2 ?c3 ?c4 ?c5; (case kA => exact rfl); (case kF => exact rfl); (case kK => assumption); (case k1 => k_asm); (case k2 => k_asm); (case k3 => k_asm); (case k4 => k_asm); (case k5 => k_asm); (case k6 => k_is); (case k7 => k_is); (case k8 => first | exact room0 (by assumption) | ktr_room); (case k9 => first | exact BindsTo.of_eq rfl | exact binds_K (by k_in) rfl (by k_is) rfl rfl rfl); (case c5 => decide); (case kB => exact locs rfl); (case c2 => exact rfl); (case c3 => exact rfl); (case c4 => exact rfl); k_whole; intro g' L' h' FG' F' N' B' X' T'; (try dsimp only); (try k_fold))
  have hlx := mk_length ds
  have hv := decN_160 hdg hl
  have hany := any_dig hdg h1
  k_with "exec While BoolOp cons nil" => k_while (fun _ r x => BW (decN ds) r x ∧ x.length ≤ 160) (fun _ r x => r.toNat + (if x.length = 0 then 1 else 0)) "rest" "bits"
  k_with "state" => (first | exact ⟨bw_start _, by decide⟩ | (have q9 := bw_step (by assumption) hv (by first | (left; omega) | (right; exact len_empty (by assumption))); exact ⟨q9, q9.2.2.2⟩))
  k_with "measure" => exact bw_less (by assumption) (by first | (left; omega) | (right; exact len_empty (by assumption)))
  k_steps
  all_goals exact hret _ _ _ _ (by assumption) (news_drop1 (news_drop1 (news_drop1 (by assumption)))) (RStr.mk (bw_end (by assumption) (by assumption) (len_full (by assumption))))
theorem law_bits_xz (w : World) (b : Str) (t2 : Tok) (c : Nat) (t : Tok) (hc : c = 120 ∨ c = 122 ∨ c = 63) (hb : ([Str.ofString "", Str.ofString "d"].any fun x => x == b) = true) (news : List (Addr × Obj)) :
    Con w 153 1 [.str b t2, .str ⟨#[c]⟩ t] news (RStr news ⟨#[c]⟩) := by
  k_with_none
  k_with "call type:int" => (k_here; (refine KIN.call_text (int_of (by assumption) (by assumption) (by assumption)) (by rw [mk_length]; omega) ?_))
  unfold Con; intro mean mg mb dp un gd cn cs a ccd cl outer A₀ base h₀ L m s Q E B F X N T hk hdp hun hret; refine wpAny_call ?_; k_dflt (refine' code_def ?k1 ?k2 ?k3 ?k4 ?k5 ?kA ?kF ?kK ?k6 ?k7 ?k8 ?k9 ?kB ?_ ?c2 ?c3 ?c4 ?c5; (case kA => exact rfl); (case kF => exact rfl); (case kK => assumption); (case k1 => k_asm); (case k2 => k_asm); (case k3 => k_asm); (case k4 => k_asm); (case k5 => k_asm); (case k6 => k_is); (case k7 => k_is); (case k8 => first | exact room0 (by assumption) | ktr_room); (case k9 => first | exact BindsTo.of_eq rfl | exact binds_K (by k_in) rfl (by k_is) rfl rfl rfl); (case c5 => decide); (case kB => exact locs rfl); (case c2 => exact rfl); (case c3 => exact rfl); (case c4 => exact rfl); k_whole; intro g' L' h' FG' F' N' B' X' T'; (try dsimp only); (try k_fold))
  have hany := any_xz (c := c)
  rw [decide_eq_true hc] at hany
  k_steps
  all_goals exact hret _ _ _ _ (by assumption) (news_drop1 (news_drop1 (by assumption))) (RStr.mk rfl)
end Mine
namespace Mine
local macro_rules | `(tactic| walk_at $s:str) => `(tactic| k_extra $s)

theorem index_hex {prog : Program} {w : World} {A : Around} {E : Value → Shared → Prop} {s : Shared} {t u : Tok} {Q : Value → Shared → Prop} {c : Nat} (hA : A.handled = none) (hc : (48 ≤ c ∧ c ≤ 57) ∨ (97 ≤ c ∧ c ≤ 102)) (h : Q (.int (hexv c : Nat) s.toks) { s with toks := s.toks + 1 }) :
    wpAny (model prog w) A (call (.builtin "str.index") [.str (Str.ofString "0123456789abcdef") t, .str ⟨#[c]⟩ u]) Q E s := by
  have e := find_hex hc
  refine index_or hA (fun q => ?_) fun _ _ => ?_
  · rw [e] at q; exact absurd (show (0 : Int) ≤ -1 from q ▸ Int.natCast_nonneg (hexv c)) (by decide)
  · rw [e]; exact h
theorem hex_of {k c : Nat} (h : DigOk k c) (hn : ¬ (c = 120 ∨ c = 122 ∨ c = 63)) : (48 ≤ c ∧ c ≤ 57) ∨ (97 ≤ c ∧ c ≤ 102) := by
  exact (h.d hn).1
/-- how a turn of the inner loop ends -/
def RowEnd (h₀ : Heap) (L : Addr) (s : Shared) (led own : List (Addr × Obj)) (a : Int) (x : Str) (m₀ : Str → Option Value) (f : Flow) (s₂ : Shared) : Prop :=
  f = .next ∧ ∃ h' tk' m' nx t1' t2', s₂ = { s with heap := h', toks := tk' } ∧ Fr h₀ L h' m' ∧ News h₀ L h' nx ∧ (∀ p ∈ led ++ own, p ∈ nx) ∧ m' (Str.ofString "rest") = some (.int (a.fdiv 2) t1') ∧ m' (Str.ofString "row") = some (.str (Txt.item (Str.ofString "01") (a.fmod 2) ++ x) t2') ∧
    ∀ z, z ≠ Str.ofString "step" → z ≠ Str.ofString "rest" → z ≠ Str.ofString "row" → m' z = m₀ z
theorem RowEnd.mk {h₀ h' : Heap} {L : Addr} {s : Shared} {led own nx : List (Addr × Obj)} {a : Int} {x : Str} {m₀ m' : Str → Option Value} {tk' : Nat} {t1' t2' : Tok} (F : Fr h₀ L h' m') (N : News h₀ L h' nx) (hs : ∀ p ∈ led ++ own, p ∈ nx)
    (e1 : m' (Str.ofString "rest") = some (.int (a.fdiv 2) t1')) (e2 : m' (Str.ofString "row") = some (.str (Txt.item (Str.ofString "01") (a.fmod 2) ++ x) t2')) (e3 : ∀ z, z ≠ Str.ofString "step" → z ≠ Str.ofString "rest" → z ≠ Str.ofString "row" → m' z = m₀ z) :
    RowEnd h₀ L s led own a x m₀ .next { s with heap := h', toks := tk' } := ⟨rfl, h', tk', m', nx, t1', t2', rfl, F, N, hs, e1, e2, e3⟩
theorem row_iter {prog : Program} {w : World} {A : Around} {E : Value → Shared → Prop} {s : Shared} {env : Env} {h₀ : Heap} {body : List Stmt} {Q : Flow → Shared → Prop} {r : Addr} {t₀ u₀ v₀ : Tok} {c : Int} {m₀ : Str → Option Value} {led : List (Addr × Obj)} {v : Nat} {tr tw : Tok}
    (hh : A.handled = none) (hrg : IsRange s.heap r 0 c 1 t₀ u₀ v₀) (hc : 0 ≤ c ∧ c ≤ 1000) (F : Fr h₀ env.locals s.heap m₀) (N : News h₀ env.locals s.heap led)
    (kr : m₀ (Str.ofString "rest") = some (.int (v : Int) tr)) (kw : m₀ (Str.ofString "row") = some (.str (Str.ofString "") tw))
    (turn : ∀ (k : Nat) (a : Int) (x : Str) (t t1 t2 : Tok) (u : Str → Option Value) h tk own, OwnOff own (led.map (·.1)) → x.length = k → (k : Int) < c → a = ((v / 2 ^ k : Nat) : Int) → x = (⟨(bitsOf k v 0).toArray⟩ : Str) →
      Fr h₀ env.locals h (fun y => if y = Str.ofString "step" then some (.int (k : Int) t) else if y = Str.ofString "rest" then some (.int a t1) else if y = Str.ofString "row" then some (.str x t2) else m₀ y) → News h₀ env.locals h (led ++ own) →
      wpAny (model prog w) A (execs body env) (RowEnd h₀ env.locals s led own a x m₀) E { s with heap := h, toks := tk })
    (done : ∀ (a : Int) (t1 t2 : Tok) (u : Str → Option Value) h tk, Fr h₀ env.locals h (fun y => if y = Str.ofString "step" then u y else if y = Str.ofString "rest" then some (.int a t1) else if y = Str.ofString "row" then some (.str ⟨(bitsOf c.toNat v 0).toArray⟩ t2) else m₀ y) → News h₀ env.locals h led → (⟨(bitsOf c.toNat v 0).toArray⟩ : Str).length = c.toNat → Q .next { s with heap := h, toks := tk }) :
    wpAny (model prog w) A (pyIter (.ref r)) (fun it s₂ => LoopAtV prog w A h₀ env (Str.ofString "step") body Q E it s₂) E s := by
  refine kst_range (σ := Int × Nat × Str × Nat) (fun _ => led) (fun c => [(Str.ofString "rest", .int c.1 c.2.1), (Str.ofString "row", .str c.2.2.1 c.2.2.2)]) (fun _ => True) [] (fun pre c => c.1 = ((v / 2 ^ pre.length : Nat) : Int) ∧ c.2.2.1 = (⟨(bitsOf pre.length v 0).toArray⟩ : Str)) ((v : Int), tr, Str.ofString "", tw) hh hrg
    (small_one (by omega) (by omega) (by omega) (by omega)) (rangeSize_nat _ _) F N trivial ?_ ?_ ?_ ?_
  · intro p hp
    rcases List.mem_cons.mp hp with rfl | hp
    · exact kr
    · rw [List.mem_singleton.mp hp]; exact kw
  · exact ⟨by simp, rfl⟩
  · rintro ⟨a, t1, x, t2⟩ pre k t u h tk own hk hlt hoff _ ⟨h1, h2⟩ F1 N1
    dsimp only at h1 h2
    have ek : k = (pre.length : Int) := by omega
    subst ek
    simp only [kstB] at F1
    refine wpAny_mono (turn pre.length a x t t1 t2 u h tk own hoff (by rw [h2, mk_length, bitsOf_length]) (by omega) h1 h2 (by simpa using F1) N1) (fun f s₂ hq => ?_) fun _ _ q => q
    obtain ⟨rfl, h', tk', m', nx, t1', t2', rfl, F2, N2, hs, e1, e2, e3⟩ := hq
    obtain ⟨q1, q2⟩ := row_turn h1 h2
    refine kst_end (a.fdiv 2, t1', Txt.item (Str.ofString "01") (a.fmod 2) ++ x, t2') F2 N2 (fun p hp => hs p (List.mem_append_left _ hp)) (fun p hp => hs p (List.mem_append_right _ hp)) rfl trivial ?_ ?_ ?_
    · intro p hp
      rcases List.mem_cons.mp hp with rfl | hp
      · exact e1
      · rw [List.mem_singleton.mp hp]; exact e2
    · intro z hz hp _
      exact e3 z hz (hp _ (.head _)) (hp _ (.tail _ (.head _)))
    · rw [List.length_append, List.length_singleton]
      exact ⟨q1, q2⟩
  · rintro ⟨a, t1, x, t2⟩ u h tk _ ⟨h1, h2⟩ F1 N1
    rw [rangeKs_length] at h2
    simp only at h2
    subst h2
    have e0 : (c - 0).toNat = c.toNat := by rw [Int.sub_zero]
    rw [e0] at F1
    simp only [kstB] at F1
    exact done a t1 t2 u h tk (by simpa using F1) N1 (by rw [mk_length, bitsOf_length])
theorem grp_turnX {b : Str} {x : Str} {pre : List Int} {n : Nat} {c : Int} (hx : x = ⟨((pre.map Int.toNat).flatMap (expand (cntOf b))).toArray⟩) (hl : (x.length : Int) ≤ 4 * pre.length) (hc : n = 120 ∨ n = 122 ∨ n = 63) (hb : (c.toNat = cntOf b)) :
    x ++ ⟨(List.replicate c.toNat n).toArray⟩ = (⟨(((pre ++ [(n : Int)]).map Int.toNat).flatMap (expand (cntOf b))).toArray⟩ : Str) ∧ ((x ++ ⟨(List.replicate c.toNat n).toArray⟩ : Str).length : Int) ≤ 4 * ((pre ++ [(n : Int)]).length : Int) := by
  have h4 := (cntOf_le b).2
  refine ⟨?_, ?_⟩
  · rw [flat_snoc, hx, cat_mk2, hb]
    have e : expand (cntOf b) n = List.replicate (cntOf b) n := by unfold expand; rw [if_pos hc]
    rw [e]
  · rw [Str.length_append, mk_length (List.replicate _ _), List.length_replicate, List.length_append, List.length_singleton]
    omega
theorem grp_turnH {b : Str} {x : Str} {pre : List Int} {n : Nat} {c : Int} (hx : x = ⟨((pre.map Int.toNat).flatMap (expand (cntOf b))).toArray⟩) (hl : (x.length : Int) ≤ 4 * pre.length) (hc : ¬ (n = 120 ∨ n = 122 ∨ n = 63)) (hb : (c.toNat = cntOf b)) :
    x ++ ⟨(bitsOf c.toNat (hexv n) 0).toArray⟩ = (⟨(((pre ++ [(n : Int)]).map Int.toNat).flatMap (expand (cntOf b))).toArray⟩ : Str) ∧ ((x ++ ⟨(bitsOf c.toNat (hexv n) 0).toArray⟩ : Str).length : Int) ≤ 4 * ((pre ++ [(n : Int)]).length : Int) := by
  have h4 := (cntOf_le b).2
  refine ⟨?_, ?_⟩
  · rw [flat_snoc, hx, cat_mk2, hb]
    have e : expand (cntOf b) n = bitsOf (cntOf b) (hexv n) 0 := by unfold expand; rw [if_neg hc]
    rw [e]
  · rw [Str.length_append, mk_length (bitsOf _ _ _), bitsOf_length, List.length_append, List.length_singleton]
    omega
theorem look_cnt {b : Str} (hb : b = Str.ofString "b" ∨ b = Str.ofString "o" ∨ b = Str.ofString "h") {t0 t1 t2 u0 u1 u2 : Tok} :
    PySem.Spec.lookup (.str b) (strData [(.str (Str.ofString "b") t0, .int 1 u0), (.str (Str.ofString "o") t1, .int 3 u1), (.str (Str.ofString "h") t2, .int 4 u2)]) = some (.int (cntOf b : Nat)) := by
  rcases hb with rfl | rfl | rfl <;> rfl
theorem getItem_cnt {prog : Program} {w : World} {A : Around} {E : Value → Shared → Prop} {s : Shared} {d : Addr} {b : Str} {tb : Tok} {Q : Value → Shared → Prop} {t0 t1 t2 u0 u1 u2 : Tok} (hb : b = Str.ofString "b" ∨ b = Str.ofString "o" ∨ b = Str.ofString "h")
    (T : TabAt (strKind prog w) PyData.str s.heap d (strData [(.str (Str.ofString "b") t0, .int 1 u0), (.str (Str.ofString "o") t1, .int 3 u1), (.str (Str.ofString "h") t2, .int 4 u2)]))
    (h : ∀ t, Q (.int (cntOf b : Nat) t) { s with toks := s.toks + 1 }) : wpAny (model prog w) A (getItem (.ref d) (.str b tb)) Q E s := by
  refine getItem_tab PyProof.V.same_str (strKind_is _ _ _ _) T (look_cnt hb) fun v hv => ?_
  obtain ⟨t, rfl⟩ := hv.int_inv
  exact h t
theorem law_bits_grp (w : World) (b : Str) (t2 : Tok) (ds : List Nat) (t : Tok) (hdg : ∀ c ∈ ds, DigOk (cntOf b) c) (hl : ds.length ≤ 40) (hb : b = Str.ofString "b" ∨ b = Str.ofString "o" ∨ b = Str.ofString "h") (hb2 : ([Str.ofString "", Str.ofString "d"].any fun x => x == b) = false) (news : List (Addr × Obj)) :
    Con w 153 1 [.str b t2, .str ⟨ds.toArray⟩ t] news (RStr news ⟨(ds.flatMap (expand (cntOf b))).toArray⟩) := by
  k_with_none
  k_with "compareOp In str str" => (k_here; refine in_one in_xz ?_)
  k_with "call builtin:str.index" => (k_here; refine index_hex (by rfl) (hex_of (dig_of (by assumption) (by assumption)) (by first | assumption | (simp only [decide_eq_true_eq, decide_eq_false_iff_not] at *; assumption))) ?_)
  k_with "binaryOp Mult str int" => (k_here; (refine mul_rule (by assumption) (by assumption) ?_); intro _ _ _)
  k_with "exec For Name Call cons nil" => (k_here; (rename Fr _ _ _ _ => lF'); (with_unfolding_all refine For_invVF lF' (by exact rfl) (by exact rfl) ?_; k_whole))
  k_with "pyIter ref" => (k_here; (rename Fr _ _ _ _ => lF'); (rename News _ _ _ _ => lN'); (rename IsRange _ _ _ _ _ _ _ _ => rgX); k_dflt (refine' row_iter (by rfl) rgX ⟨by assumption, by assumption⟩ lF' lN' (by with_unfolding_all rfl) (by with_unfolding_all rfl) (fun k9 a9 x9 t9 u9 v9 w9 h9 n9 o9 hf9 hl9 hm9 ha9 hx9 F9 N9 => ?_) (fun a9 u9 v9 w9 h9 n9 F9 N9 hl9 => ?_)); (all_goals try k_fold))
  k_with "RowEnd" => (refine RowEnd.mk (by assumption) (by assumption) (fun _ h => h) (by with_unfolding_all rfl) (by with_unfolding_all rfl) ?_; (intro z h1 h2 h3; simp [h1, h2, h3]))
  k_with "getItem ref str" => (k_here; k_dflt (refine getItem_cnt (by assumption) (by k_tabat) ?_); intro _)
  unfold Con; intro mean mg mb dp un gd cn cs a ccd cl outer A₀ base h₀ L m s Q E B F X N T hk hdp hun hret; refine wpAny_call ?_; k_dflt (refine' code_def ?k1 ?k2 ?k3 ?k4 ?k5 ?kA ?kF ?kK ?k6 ?k7 ?k8 ?k9 ?kB ?_ ?c2 ?c3 ?c4 ?c5; (case kA => exact rfl); (case kF => exact rfl); (case kK => assumption); (case k1 => k_asm); (case k2 => k_asm); (case k3 => k_asm); (case k4 => k_asm); (case k5 => k_asm); (case k6 => k_is); (case k7 => k_is); (case k8 => first | exact room0 (by assumption) | ktr_room); (case k9 => first | exact BindsTo.of_eq rfl | exact binds_K (by k_in) rfl (by k_is) rfl rfl rfl); (case c5 => decide); (case kB => exact locs rfl); (case c2 => exact rfl); (case c3 => exact rfl); (case c4 => exact rfl); k_whole; intro g' L' h' FG' F' N' B' X' T'; (try dsimp only); (try k_fold))
  have hlx := mk_length ds
  have hc1 : (0 : Int) ≤ (cntOf b : Nat) := Int.natCast_nonneg _
  have hc4 : ((cntOf b : Nat) : Int) ≤ 4 := Int.ofNat_le.mpr (cntOf_le b).2
  have hcx : ((cntOf b : Nat) : Int) ≤ 1000 := Int.le_trans hc4 (by decide)
  k_with "pyIter str" => k_state (fun pre x => x = (⟨((pre.map Int.toNat).flatMap (expand (cntOf b))).toArray⟩ : Str) ∧ (x.length : Int) ≤ 4 * pre.length) "bits"
  k_with "state" => (first | exact ⟨rfl, by decide⟩ | exact grp_turnX (by assumption) (by assumption) (by assumption) (Int.toNat_natCast _) | exact grp_turnH (by assumption) (by assumption) (by assumption) (Int.toNat_natCast _))
  k_steps
  all_goals refine hret _ _ _ _ (by assumption) (news_drop1 (news_drop1 (news_drop1 (by assumption)))) (RStr.mk (Eq.trans (by assumption) ?_))
  all_goals (rw [codes_mk, toNat_map])
end Mine
namespace Mine
local macro_rules | `(tactic| walk_at $s:str) => `(tactic| k_extra $s)

def numText (n x y : Nat) (sg sz : Bool) : Str :=
  if sz = false ∧ sg = true ∧ n = 32 ∧ y = 0 ∧ x < 2 ^ 31 then Str.ofString (toString (x : Int))
  else (if sz then Str.ofString (toString (n : Int)) else ⟨#[]⟩) ++ (if sg then Str.ofString "'sb" else Str.ofString "'b") ++ ⟨(bitsOf n x y).toArray⟩
theorem numText_s (n x y : Nat) (sg : Bool) : numText n x y sg true = Str.empty ++ Str.ofString (toString (n : Int)) ++ (if sg then Str.ofString "'sb" else Str.ofString "'b") ++ ⟨(bitsOf n x y).toArray⟩ := by
  unfold numText
  rw [if_neg (by simp), if_pos rfl, Str.empty_append]
theorem numText_u {n x y : Nat} {sg : Bool} (h : ¬ (sg = true ∧ n = 32 ∧ y = 0 ∧ x < 2 ^ 31)) : numText n x y sg false = Str.empty ++ (if sg then Str.ofString "'sb" else Str.ofString "'b") ++ ⟨(bitsOf n x y).toArray⟩ := by
  unfold numText
  rw [if_neg (fun q => h q.2), if_neg (by simp)]
  rfl
theorem numText_p {n x y : Nat} (h1 : n = 32) (h2 : y = 0) (h3 : x < 2 ^ 31) : numText n x y true false = Str.ofString (toString (x : Int)) := by
  unfold numText
  rw [if_pos ⟨rfl, rfl, h1, h2, h3⟩]
theorem mk_bits_len (n x y : Nat) : (⟨(bitsOf n x y).toArray⟩ : Str).length = n := by rw [mk_length, bitsOf_length]
theorem num_len {n : Nat} (h : n ≤ 1000) : (Str.ofString (toString ((n : Nat) : Int))).length ≤ 10 := by
  have q := int_text_length_le10 (a := (n : Int)) (k := 9) (by decide) (by rw [Int.natAbs_natCast]; omega)
  rw [PySem.ofString_length]
  exact q
theorem len_app {a b : Str} {i j : Nat} (ha : a.length ≤ i) (hb : b.length ≤ j) : (a ++ b).length ≤ i + j := by rw [Str.length_append]; exact Nat.add_le_add ha hb
theorem len_line {a : Str} {i : Nat} (h : a.length ≤ i) (q : i ≤ 5000) : a.length ≤ sizeLine := by rw [sizeLine_eq]; exact Nat.le_trans h (Nat.le_trans q (by decide))
theorem numeral_text_con (w : World) (v : Addr) (n : Nat) (t : Tok) (x : Nat) (t2 : Tok) (y : Nat) (t3 : Tok) (sg sz : Bool) (rest : List (Addr × Obj)) (hn : n ≤ 1000) (hx : x < 2 ^ 1000) :
    Con w 132 3 [.ref v, .bool sg, .bool sz] ((v, tupOf [.int n t, .int x t2, .int y t3]) :: rest) (RStr ((v, tupOf [.int n t, .int x t2, .int y t3]) :: rest) (numText n x y sg sz)) := by
  k_with_none
  k_with "call ref" => (k_here; (with_reducible show wpAny _ _ (call (Value.ref 76) _) _ _ _); k_dflt (refine Con.useS (by k_asm) (by k_asm) (by k_asm) (by k_asm) (by k_asm) (by first | exact rfl | assumption) (by first | exact room1 (by assumption) (by exact rfl) | ktr_room) (by first | exact room1 (by assumption) (by exact rfl) | ktr_units) (bits_text_con _ _ _ _ _ _ _ _ _ (by omega)) ?_; k_whole; intro t9 h9 tk9 F9 N9; (try dsimp only); (try k_fold)))
  k_with "formatField str" => (k_here; (refine formatField_str ?_ (len_line (by assumption) (by decide))); intro _ _)
  k_with "And" => (k_here; (refine And.intro (by first | exact len_line (len_app (by assumption) (by assumption)) (by decide) | exact len_line (len_app (len_app (by assumption) (by assumption)) (by assumption)) (by decide) | exact len_line (len_app (len_app (len_app (by assumption) (by assumption)) (by assumption)) (by assumption)) (by decide)) ?_))
  k_with "joinParts" => (k_here; (first | (with_reducible show wpAny _ _ (joinParts _ []) _ _ _) | (with_reducible show wpAny _ _ (joinParts _ (evalEach [] _)) _ _ _)); k_dflt (refine joinParts_nil ?_ (by first | exact len_line (len_app (len_app (by assumption) (by assumption)) (by assumption)) (by decide) | exact len_line (len_app (len_app (len_app (by assumption) (by assumption)) (by assumption)) (by assumption)) (by decide))))
  unfold Con; intro mean mg mb dp un gd cn cs a ccd cl outer A₀ base h₀ L m s Q E B F X N T hk hdp hun hret; refine wpAny_call ?_; k_dflt (refine' code_def ?k1 ?k2 ?k3 ?k4 ?k5 ?kA ?kF ?kK ?k6 ?k7 ?k8 ?k9 ?kB ?_ ?c2 ?c3 ?c4 ?c5; (case kA => exact rfl); (case kF => exact rfl); (case kK => assumption); (case k1 => k_asm); (case k2 => k_asm); (case k3 => k_asm); (case k4 => k_asm); (case k5 => k_asm); (case k6 => k_is); (case k7 => k_is); (case k8 => first | exact room0 (by assumption) | ktr_room); (case k9 => first | exact BindsTo.of_eq rfl | exact binds_K (by k_in) rfl (by k_is) rfl rfl rfl); (case c5 => decide); (case kB => exact locs rfl); (case c2 => exact rfl); (case c3 => exact rfl); (case c4 => exact rfl); k_whole; intro g' L' h' FG' F' N' B' X' T'; (try dsimp only); (try k_fold))
  have hl1 : (⟨(bitsOf n x y).toArray⟩ : Str).length ≤ 1000 := by rw [mk_bits_len]; exact hn
  have hl2 : (Str.ofString (toString ((n : Nat) : Int))).length ≤ 10 := num_len hn
  have hl3 : (Str.ofString "'sb").length ≤ 3 := Nat.le_refl _
  have hl4 : (Str.ofString "'b").length ≤ 2 := Nat.le_refl _
  have hl5 : Str.empty.length ≤ 0 := Nat.le_refl _
  k_steps
  all_goals refine hret _ _ _ _ (by assumption) (by assumption) (RStr.mk ?_)
  all_goals subst_vars
  · rw [numText_s]; rfl
  · rw [numText_s]; rfl
  · refine (numText_p (by omega) (by omega) ?_).symm
    have e : n = 32 := by omega
    subst e
    have e2 : (((32 : Nat) : Int) - 1).toNat = 31 := by decide
    rename _ < _ => hq
    rw [e2] at hq
    omega
  · refine Eq.trans ?_ (numText_u (n := n) (x := x) (y := y) (sg := true) fun hq => ?_).symm
    · rfl
    have e : n = 32 := by omega
    subst e
    have e2 : (((32 : Nat) : Int) - 1).toNat = 31 := by decide
    rename ¬ _ < _ => hw
    rw [e2] at hw
    omega
  · exact Eq.trans rfl (numText_u (n := n) (x := x) (y := y) (sg := true) fun hq => by omega).symm
  · exact Eq.trans rfl (numText_u (n := n) (x := x) (y := y) (sg := true) fun hq => by omega).symm
  · exact Eq.trans rfl (numText_u (n := n) (x := x) (y := y) (sg := false) fun hq => by simp at hq).symm
end Mine
namespace Mine
local macro_rules | `(tactic| walk_at $s:str) => `(tactic| k_extra $s)

def GoodSize (size : Str) (v : Nat) : Prop := ∃ z r, size = ⟨(List.replicate z 48 ++ r).toArray⟩ ∧ (∀ c ∈ r, 48 ≤ c ∧ c ≤ 57) ∧ 1 ≤ r.length ∧ r.length ≤ 5 ∧ r.head? ≠ some 48 ∧ z ≤ 100 ∧ decN r = v ∧ 1 ≤ v ∧ v ≤ 1000
theorem size_con (w : World) {size : Str} {v : Nat} (h : GoodSize size v) (t1 : Tok) (k : Int) (t2 : Tok) (news : List (Addr × Obj)) : Con w 97 3 [.str size t1, .int k t2] news (RInt news (v : Nat)) := by
  obtain ⟨z, r, rfl, h1, h2, h3, h4, h5, rfl, h6, h7⟩ := h
  exact size_value_con w z r t1 k t2 news h1 h2 h3 h4 h5 (by omega)
theorem first_item (c : Nat) (r : List Nat) : Txt.item ⟨(c :: r).toArray⟩ 0 = ⟨#[c]⟩ := by
  unfold Txt.item Txt.charAt
  have e : seqIndex? 0 (⟨(c :: r).toArray⟩ : Str).length = some 0 := by rw [mk_length]; simp [seqIndex?]
  rw [e]
  simp
theorem char0 (c : Nat) (r : List Nat) : (Txt.charAt ⟨(c :: r).toArray⟩ 0).getD 0 = c := by
  have q := first_item c r
  unfold Txt.item at q
  injection q with q
  have := congrArg Array.toList q
  simpa using this
theorem first_rule {prog : Program} {w : World} {A : Around} {E : Value → Shared → Prop} {s : Shared} {value slice : PySem.Expr} {t u : Tok} {c : Nat} {r : List Nat} {Q : Value → Shared → Prop} (hl : (c :: r).length ≤ 1000)
    (h : Q (.str ⟨#[c]⟩ s.toks) { s with toks := s.toks + 1 })
    (hs : subscripted slice false (.str ⟨(c :: r).toArray⟩ t) (.int 0 u) = operate [.str ⟨(c :: r).toArray⟩ t, .int 0 u] (getItem (.str ⟨(c :: r).toArray⟩ t) (.int 0 u)) := by with_unfolding_all rfl)
    (ht : ∀ q, letTemporaryGo value (.str ⟨(c :: r).toArray⟩ t) q = pure () := by intro _; with_unfolding_all rfl) :
    wpAny (model prog w) A (subscriptTail value slice (.str ⟨(c :: r).toArray⟩ t) (.int 0 u)) Q E s :=
  KXi.item (n := (c :: r).length) (mk_length _) (by omega) (by rw [List.length_cons]; omega) (by omega) (fun _ => by rw [first_item]; exact h) hs ht
def RNum (news : List (Addr × Obj)) (n x y : Nat) (sg sz : Bool) (r : Value) (nx : List (Addr × Obj)) : Prop :=
  ∃ a v t u q, r = .ref a ∧ (a, tupOf [.ref v, .bool sg, .bool sz]) :: (v, tupOf [.int n t, .int x u, .int y q]) :: news = nx ∧ @LT.lt Nat _ v a ∧ ∀ p ∈ news, p.1 < v
theorem Con.useN {w : World} {f : Addr} {dd : Nat} {args : List Value} {news : List (Addr × Obj)} {n x y : Nat} {sg sz : Bool}
    {mean : ExcName → Option Value} {mg mb : Str → Option Value} {dp un : Nat} {gd : Option (List Code)} {cn : Str} {cs : Scope} {a₀ : Addr} {ccd : Value} {cl : List (Str × Addr)} {outer : List Env} {A₀ : Around} {base h₀ : Heap} {L : Addr} {m : Str → Option Value} {s : Shared}
    {Q E : Value → Shared → Prop}
    (B : Below A₀ base outer h₀) (F : Fr h₀ L s.heap m) (X : (hd.heap_39 w.params).In h₀) (N : News h₀ L s.heap news) (T : Top hd.view_39 loose mean mg mb h₀) (hk : cs.kind = .function) (hd : dp + dd < recursionLimit) (hu : un + 8 * dd < cLine) (CC : Con w f dd args news (RNum news n x y sg sz))
    (ret : ∀ (a v : Addr) (t u q : Tok) (h' : Heap) (tk' : Nat), Fr h₀ L h' m → News h₀ L h' ((a, tupOf [.ref v, .bool sg, .bool sz]) :: (v, tupOf [.int n t, .int x u, .int y q]) :: news) → @LT.lt Nat _ v a → (∀ p ∈ news, p.1 < v) → Q (.ref a) { s with heap := h', toks := tk' }) :
    wpAny (model PySem.Challenge.rw_nn0299_01.row.prog w) (ktrTop dp un gd cn cs L a₀ ccd cl outer) (call (.ref f) args) Q E s :=
  CC _ _ _ _ _ _ _ _ _ _ _ _ _ _ _ _ _ _ _ _ B F X N T hk hd hu fun r nx h' tk' F' N' ho => by
    obtain ⟨a, v, t, u, q, rfl, rfl, l, l2⟩ := ho
    exact ret a v t u q h' tk' F' N' l l2
theorem padded_con (w : World) {N K X Y : Int} {n k x y c : Nat} (t1 t2 t3 t4 t5 : Tok) (news : List (Addr × Obj)) (hN : N = n) (hK : K = k) (hX : X = x) (hY : Y = y) (h1 : n ≤ 1000) (hk : k ≤ 1000) (hx : x < 2 ^ k) (hy : y < 2 ^ k) :
    Con w 118 3 [.int N t1, .int K t2, .int X t3, .int Y t4, .str ⟨#[c]⟩ t5] news (RTrip news n (padN n k (c = 120) x : Nat) (padN n k (c = 120 ∨ c = 122 ∨ c = 63) y : Nat)) := by
  subst hN; subst hK; subst hX; subst hY
  exact padded_vec_con w n t1 k t2 x t3 y t4 c t5 news h1 hk hx hy
theorem max_nat {prog : Program} {w : World} {A : Around} {E : Value → Shared → Prop} {s : Shared} {h₀ : Heap} {L : Addr} {m : Str → Option Value} {news : List (Addr × Obj)} {X Y : Int} {x y : Nat} {t u : Tok} {Q : Value → Shared → Prop} (hX : X = x) (hY : Y = y) (hh : A.handled = none) (F : Fr h₀ L s.heap m) (N : News h₀ L s.heap news)
    (h : ∀ h' tk t', Fr h₀ L h' m → News h₀ L h' news → Q (.int ((max x y : Nat) : Int) t') { s with heap := h', toks := tk }) :
    wpAny (model prog w) A (call (.builtin "max") [.int X t, .int Y u]) Q E s := by
  subst hX
  subst hY
  refine max_two_N hh F N fun h' tk F' N' => ?_
  have e : (if (y : Int) > (x : Int) then (y : Int) else (x : Int)) = ((max x y : Nat) : Int) := by
    split
    · exact congrArg Nat.cast (Nat.max_eq_right (Nat.le_of_lt (Int.ofNat_lt.mp (by assumption)))).symm
    · exact congrArg Nat.cast (Nat.max_eq_left (Int.ofNat_le.mp (Int.not_lt.mp (by assumption)))).symm
  rw [e]
  exact h h' tk _ F' N'
theorem hsize_of {size : Str} {v : Nat} (h : (size == Str.ofString "") = false → GoodSize size v) (h2 : (size == Str.ofString "") = false) : GoodSize size v := h h2
theorem cast0 : (0 : Int) = ((0 : Nat) : Int) := rfl
theorem cast32 : (32 : Int) = ((32 : Nat) : Int) := rfl
theorem cast1 : (1 : Int) = ((1 : Nat) : Int) := rfl
theorem cast_succ (a : Nat) : (a : Int) + 1 = ((a + 1 : Nat) : Int) := rfl
theorem intBits_nat (v : Nat) : Builtin.Int.intBits ((v : Nat) : Int) = if v = 0 then 0 else v.log2 + 1 := by
  unfold Builtin.Int.intBits
  by_cases h : v = 0
  · subst h; rfl
  · rw [if_neg (by simpa using h), if_neg h, Int.natAbs_natCast]
theorem max_blen {prog : Program} {w : World} {A : Around} {E : Value → Shared → Prop} {s : Shared} {h₀ : Heap} {L : Addr} {m : Str → Option Value} {news : List (Addr × Obj)} {v : Nat} {t u : Tok} {Q : Value → Shared → Prop} (hh : A.handled = none) (F : Fr h₀ L s.heap m) (N : News h₀ L s.heap news)
    (h : ∀ h' tk t', Fr h₀ L h' m → News h₀ L h' news → Q (.int ((blen v : Nat) : Int) t') { s with heap := h', toks := tk }) :
    wpAny (model prog w) A (call (.builtin "max") [.int ((Builtin.Int.intBits ((v : Nat) : Int) : Nat) : Int) t, .int 1 u]) Q E s := by
  have e : max (Builtin.Int.intBits ((v : Nat) : Int)) 1 = blen v := by
    rw [intBits_nat]
    unfold blen
    split <;> first | rfl | exact Nat.max_eq_left (Nat.succ_le_succ (Nat.zero_le _)) | omega
  refine max_nat (x := Builtin.Int.intBits ((v : Nat) : Int)) (y := 1) rfl rfl hh F N fun h' tk t' F' N' => ?_
  rw [e]
  exact h h' tk t' F' N'
theorem num_end {h₀ h' : Heap} {L a v : Addr} {m : Str → Option Value} {Q : Value → Shared → Prop} {s : Shared} {n x y : Int} {n' x' y' : Nat} {sg sz sz' : Bool} {t u q : Tok} {tk : Nat} {news rest : List (Addr × Obj)}
    (hret : ∀ r nx h' tk', Fr h₀ L h' m → News h₀ L h' nx → RNum news n' x' y' sg sz r nx → Q r { s with heap := h', toks := tk' }) (F : Fr h₀ L h' m)
    (N : News h₀ L h' ((a, tupOf [.ref v, .bool sg, .bool sz']) :: (v, tupOf [.int n t, .int x u, .int y q]) :: rest)) (hs : ∀ p ∈ news, p ∈ rest) (h1 : @LT.lt Nat _ v a) (h2 : ∀ p ∈ rest, p.1 < v) (hn : n = n') (hx : x = x') (hy : y = y') (hz : sz' = sz) :
    Q (.ref a) { s with heap := h', toks := tk } := by
  subst hn; subst hx; subst hy; subst hz
  refine hret _ ((a, tupOf [.ref v, .bool sg, .bool sz']) :: (v, tupOf [.int n' t, .int x' u, .int y' q]) :: news) _ _ F (cb_drop N fun p hp => ?_) ⟨a, v, t, u, q, rfl, rfl, h1, fun p hp => h2 p (hs p hp)⟩
  rcases List.mem_cons.mp hp with rfl | hp
  · exact .head _
  rcases List.mem_cons.mp hp with rfl | hp
  · exact .tail _ (.head _)
  · exact .tail _ (.tail _ (hs p hp))
/-- the width of a numeral's vector -/
def outW (size : Str) (sv W : Nat) : Nat := if (size == Str.ofString "") = true then max 32 W else sv
theorem outW_t {size : Str} {sv W : Nat} (h : (size == Str.ofString "") = true) : outW size sv W = max 32 W := if_pos h
theorem outW_f {size : Str} {sv W : Nat} (h : (size == Str.ofString "") = false) : outW size sv W = sv := if_neg (by rw [h]; decide)
theorem padN_no {n k : Nat} {p : Prop} [Decidable p] {x : Nat} (h : ¬ p) : padN n k p x = x % 2 ^ n := by unfold padN; rw [if_neg (fun q => h q.2)]
end Mine
namespace Mine
local macro_rules | `(tactic| walk_at $s:str) => `(tactic| k_extra $s)

theorem RaisedE.mono {base : Heap} {l : List Env} {e d : Addr} {news news' : List (Addr × Obj)} {h : Heap} (R : RaisedE base l e d news h) (hs : ∀ p ∈ news', p ∈ news) : RaisedE base l e d news' h := by
  obtain ⟨B, h1, h2, h3, h4, h5, h6⟩ := R
  exact ⟨B, h1, fun q hq => h2 q (hs q hq), h3, h4, h5, h6⟩
theorem bad_end {h₀ g₂ h' base : Heap} {L e dx : Addr} {m : Str → Option Value} {E : Value → Shared → Prop} {s : Shared} {k : Int} {l : List Env} {D : Obj} {news rest : List (Addr × Obj)} {tk : Nat}
    (hret : ∀ e dx D h' tk' g₂, Fr h₀ L g₂ m → g₂.UpToSlots h' → ExcDict k D → RaisedE base l e dx ((dx, D) :: news) h' → (∀ p ∈ news, @LT.lt Nat _ p.1 dx) → E (.ref e) { s with heap := h', toks := tk' })
    (F : Fr h₀ L g₂ m) (U : g₂.UpToSlots h') (hD : ExcDict k D) (R : RaisedE base l e dx ((dx, D) :: rest) h') (hl : ∀ p ∈ rest, @LT.lt Nat _ p.1 dx) (hs : ∀ p ∈ news, p ∈ rest) : E (.ref e) { s with heap := h', toks := tk } :=
  hret _ _ _ _ _ _ F U hD (R.mono fun p hp => by
    rcases List.mem_cons.mp hp with rfl | hp
    · exact .head _
    · exact .tail _ (hs p hp)) fun p hp => hl p (hs p hp)
end Mine
namespace Mine
local macro_rules | `(tactic| walk_at $s:str) => `(tactic| k_extra $s)

section
variable {w : World} {A : Around} {E : Value → Shared → Prop} {K : Frag} {x : Addr} {ox D : Obj} {name : Str} {expr : Bool} {Q : Value → Shared → Prop} {v : Value} {h : Heap} {g : Array GenState} {dr : Drawn} {t : Nat} {os : OsState}
open Builtin Builtin.ObjectAttr PySem.Calls
theorem isBase45 {M : Model} (X : (hd.heap_39 w.params).In h) {od : Option Obj} (I : InstAt h x ox 45 od) : Looks M h (isInstance (.ref x) (.type "BaseException")) true := by
  obtain ⟨nm, q, N, bs, sn, sub, ab, col, dd, k0, k1, k2, k3, k5, ho⟩ := look45 w
  obtain ⟨cd, hc, hm⟩ : ∃ cd, clsIn (hd.heap_39 w.params) 45 = some cd ∧ cd.mro = .ref 45 :: bm45 := ⟨_, by unfold clsIn; rw [ho], rfl⟩
  exact I.type.andThen (looks_mroIn X (by unfold mroIn; rw [hc, Option.bind_some, hm]; rfl))
theorem exc_entry {tk : Tok} {Q : PySem.Fin → Shared → Prop} (X : (hd.heap_39 w.params).In h) (I : InstAt h x ox 45 (some D)) (hf : findObj (hd.heap_39 w.params) 45 (some D) name = some (.value v)) (hq : Q (.done (.ret v)) ⟨h, g, dr, t, os⟩) :
    wpAny (model PySem.Challenge.rw_nn0299_01.row.prog w) A (Builtin.«object.__getattribute__» ⟨[.ref x, .str name tk], []⟩) Q E ⟨h, g, dr, t, os⟩ := by
  have L0 := I.type (M := model PySem.Challenge.rw_nn0299_01.row.prog w)
  have L1 := looks_find (M := model PySem.Challenge.rw_nn0299_01.row.prog w) X I hf
  refine wpAny_bind (wpAny_pure ?_)
  refine wpAny_bind (wpAny_pure (wpAny_bind (L0.at (wpAny_bind (L1.at ?_)))))
  exact wpAny_pure hq
theorem exc_getcall {tk : Tok} {R : Result → Shared → Prop} (X : (hd.heap_39 w.params).In h) (I : InstAt h x ox 45 (some D)) (hf : findObj (hd.heap_39 w.params) 45 (some D) name = some (.value v)) (hq : R (.ok (.ret v)) ⟨h, g, dr, t, os⟩) :
    codeAny (model PySem.Challenge.rw_nn0299_01.row.prog w) A (.call (.builtin "BaseException.__getattribute__") ⟨[.ref x, .str name tk], []⟩) R ⟨h, g, dr, t, os⟩ := by
  have hk : builtinKind "BaseException.__getattribute__" = some .slot := by decide +kernel
  have hs : splitId "BaseException.__getattribute__" = some ("BaseException", "__getattribute__") := by decide +kernel
  have ha := PySem.F.args_bexc_ga (.ref x) (.str name tk)
  have hi := isBase45 (M := model PySem.Challenge.rw_nn0299_01.row.prog w) X I
  refine codeAny_call_builtin PySem.F.attr_Exception.ga.plain PySem.F.entry_bexc_ga ?_
  refine @check_slot (model PySem.Challenge.rw_nn0299_01.row.prog w) _ _ ⟨h, g, dr, t, os⟩ "BaseException.__getattribute__" "BaseException" "__getattribute__" (.ref x) [.str name tk] [] _ hk hs hi ha ?_
  exact exc_entry X I hf hq
theorem get_exc (X : (hd.heap_39 w.params).In h) (I : InstAt h x ox 45 (some D)) (hf : findObj (hd.heap_39 w.params) 45 (some D) name = some (.value v)) (hh : handedOut v = pure v) (hq : Q v ⟨h, g, dr, t + 1, os⟩) :
    wpAny (model PySem.Challenge.rw_nn0299_01.row.prog w) A (getAttr (.ref x) name expr) Q E ⟨h, g, dr, t, os⟩ := by
  have L0 := I.type (M := model PySem.Challenge.rw_nn0299_01.row.prog w)
  have L1 := looks_findIn (M := model PySem.Challenge.rw_nn0299_01.row.prog w) X (find_getattribute w)
  have L2 := looks_findIn (M := model PySem.Challenge.rw_nn0299_01.row.prog w) X (find_getattr w)
  have f3 := PySem.F.attr_Exception.ga.bind (.ref x)
  have hx0 : (expr && onTheHeap (Value.builtin "BaseException.__getattribute__")) = false := by cases expr <;> rfl
  have hx2 : (Value.builtin "BaseException.__getattribute__" == Value.builtin "object.__getattribute__") = false := by decide +kernel
  have hx1 : (onTheHeap (Value.ref 45) && Value.builtin "BaseException.__getattribute__" == Value.builtin "object.__getattribute__") = false := by rw [hx2]; rfl
  unfold getAttr getAttrBy
  refine wpAny_bind (wpAny_mkText (wpAny_holding (wpAny_bind (L0.at (wpAny_bind (L1.at ?_))))))
  dsimp only
  rw [hx1]
  show wpAny _ _ (getAttrByItsOwn _ _ _ _ _ _) _ _ _
  unfold getAttrByItsOwn hookBefore
  refine wpAny_bind (L2.at ?_)
  unfold callGetattribute
  rw [hx0]
  repeat (any_goals (first | assumption | wp_step))
  refine exc_getcall X I hf ?_
  show wpAny _ _ (handedOut v) _ _ _
  rw [hh]
  exact wpAny_pure hq
end
end Mine
namespace Mine
local macro_rules | `(tactic| walk_at $s:str) => `(tactic| k_extra $s)

section
variable {w : World} {A : Around} {E : Value → Shared → Prop} {s : Shared} {h₀ : Heap} {L x d : Addr} {m : Str → Option Value} {ox D : Obj} {name : Str} {expr : Bool} {Q : Value → Shared → Prop} {v : Value} {news : List (Addr × Obj)}
theorem get_excN (F : Fr h₀ L s.heap m) (X : (hd.heap_39 w.params).In h₀) (N : News h₀ L s.heap ((x, ox) :: (d, D) :: news)) (h1 : ox.cls = .ref 45) (h2 : ox.dict = some d) (h3 : notCls ox = true)
    (hf : findObj (hd.heap_39 w.params) 45 (some D) name = some (.value v)) (hh : handedOut v = pure v) (hq : Q v { s with toks := s.toks + 1 }) :
    wpAny (model PySem.Challenge.rw_nn0299_01.row.prog w) A (getAttr (.ref x) name expr) Q E s := by
  obtain ⟨h, g, dr, t, os⟩ := s
  exact get_exc (X.keeps F.keep) ⟨(N _ (.head _)).1, h1, h3, by rw [h2]; exact (N _ (.tail _ (.head _))).1⟩ hf hh hq
theorem has45d (w : World) : hasDictIn (hd.heap_39 w.params) 45 = true := by
  obtain ⟨cd, hc, h⟩ := has45dict w
  unfold hasDictIn
  rw [hc]
  exact h
theorem find_kind (w : World) : findIn (hd.heap_39 w.params) (.ref 45) (Str.ofString "kind") = some none := by k_is
theorem find_at (w : World) : findIn (hd.heap_39 w.params) (.ref 45) (Str.ofString "at") = some none := by k_is
theorem obj_kind {w : World} {k : Int} {D : Obj} (h : ExcDict k D) : ∃ t, findObj (hd.heap_39 w.params) 45 (some D) (Str.ofString "kind") = some (.value (.str (Str.ofString "bad_size") t)) := by
  cases h with | mk tk ta tv h1 h2 h3 u1 u2 u3 =>
  exact ⟨tk, findObj_own (has45d w) (find_kind w) rfl rfl⟩
theorem obj_at {w : World} {k : Int} {D : Obj} (h : ExcDict k D) : ∃ t, findObj (hd.heap_39 w.params) 45 (some D) (Str.ofString "at") = some (.value (.int k t)) := by
  cases h with | mk tk ta tv h1 h2 h3 u1 u2 u3 =>
  exact ⟨ta, findObj_own (has45d w) (find_at w) rfl rfl⟩
end
end Mine
namespace Mine
local macro_rules | `(tactic| walk_at $s:str) => `(tactic| k_extra $s)

section
variable {w : World} {A₀ : Around} {E : Value → Shared → Prop} {s' : Shared} {h₀ h : Heap} {outer : List Env} {L a e d : Addr} {m : Str → Option Value} {name : Str} {scope : Scope} {cd : Value}
  {n : Str} {b₀ : Stmt} {suite : List Stmt} {pos np : Pos} {rest : List ExceptHandler} {Q : Flow → Shared → Prop} {news : List (Addr × Obj)}
  {cl : List (Str × Addr)} {p : Program} {loose : List Str} {mean : ExcName → Option Value} {mg mb : Str → Option Value} {D : Obj}
theorem caughtX (K : Below A₀ h₀ outer h₀) (F : Fr h₀ L h m) (hsm : h.UpToSlots s'.heap) (R : RaisedE h₀ (envX name scope L a cd cl :: outer) e d ((d, D) :: news) s'.heap)
    (X : (hd.heap_39 w.params).In h₀) (T : TopRead p loose mg mb h₀) (ex : nsIn (hd.heap_39 w.params) mainGlobals (Str.ofString "SourceError") = some (some (.ref 45)))
    (k : ∀ h' oe tk, Fr h₀ L h' (fun y => if y = n then some (.ref e) else m y) → News h₀ L h' ((e, oe) :: (d, D) :: news) → oe.cls = .ref 45 → oe.dict = some d → notCls oe = true →
      wpAny (model PySem.Challenge.rw_nn0299_01.row.prog w) ((A₀.deeper (envX name scope L a cd cl)).mark (some (.ref e))) (execs (b₀ :: suite) (envX name scope L a cd cl))
        (fun f s₄ => wpAny (model PySem.Challenge.rw_nn0299_01.row.prog w) (A₀.deeper (envX name scope L a cd cl)) (do bindName (envX name scope L a cd cl) n .none; unbindBehindTheSuite (envX name scope L a cd cl) n pos) (fun _ s₅ => Q f s₅) E s₄)
        (AsSuiteRaised (model PySem.Challenge.rw_nn0299_01.row.prog w) ((A₀.deeper (envX name scope L a cd cl)).mark (some (.ref e))) (envX name scope L a cd cl) n pos (notedBy (model PySem.Challenge.rw_nn0299_01.row.prog w) ((A₀.deeper (envX name scope L a cd cl)).mark (some (.ref e))) (envX name scope L a cd cl) (cameBackBy (model PySem.Challenge.rw_nn0299_01.row.prog w) (A₀.deeper (envX name scope L a cd cl)) (envX name scope L a cd cl) E)))
        { s' with heap := h', toks := tk })
    (hk : scope.kind = .function := by rfl) (hlo : (envX name scope L a cd cl).kindOf n = some .local := by rfl) (hx : (envX name scope L a cd cl).kindOf (Str.ofString "SourceError") = some .globalImplicit := by rfl) :
    wpAny (model PySem.Challenge.rw_nn0299_01.row.prog w) (A₀.deeper (envX name scope L a cd cl)) (noteFrame (.ref e) (envX name scope L a cd cl))
      (fun _ s₂ => wpAny (model PySem.Challenge.rw_nn0299_01.row.prog w) (A₀.deeper (envX name scope L a cd cl)) (setFlight (.ref e) none) (fun _ s₃ =>
        wpAny (model PySem.Challenge.rw_nn0299_01.row.prog w) (A₀.deeper (envX name scope L a cd cl)) (handleBy (.ref e) (envX name scope L a cd cl) (.ExceptHandler (some (.Name (Str.ofString "SourceError") np)) (some n) (b₀ :: suite) pos :: rest)) Q E s₃) E s₂) E s' := by
  obtain ⟨B, hB, hl, f1, f2, f3, f4⟩ := R
  have hL : B.get? L = none := by
    obtain ⟨_, ⟨L', _, hf, hn', _⟩, _⟩ := f3
    obtain rfl : L = L' := Option.some.inj hf
    exact hn'
  refine noteD_next (Around.frames_deeper K.stack) f3 rfl f4 f1 f2 fun h₄ y₄ => flightD y₄.stays y₄.frames y₄.traced fun h₅ y₅ => ?_
  have hsm₅ := hsm.trans (y₄.slots.trans y₅.slots)
  have F₅ : Fr h₀ L h₅ m := F.of_stays (fun b o q => y₅.stays _ _ (hB _ _ q)) hsm₅
  have X₅ := X.keeps F₅.keep
  refine wpAny_handleBy_cons (codeAny_handlers_test (nameX_K F₅ X T ex ?_ hk hx (by decide))) (by intro q; cases q)
  obtain ⟨nm, q, N, bs, sn, sub, ab, col, dd, k0, k1, k2, k3, k5, ho⟩ := look45 w
  obtain ⟨ob, _, _, _, _, hob, hobc, _, _, _, _, _, _, _, _⟩ := id y₅.traced
  refine wpAny_excMatches_sub_self (X₅ _ _ ho) hob hobc (by decide +kernel) (codeAny_handlers_suite_as ?_)
  refine flightD y₅.stays y₅.frames y₅.traced fun h₆ y₆ => ?_
  have F₆ : Fr h₀ L h₆ m := F.of_stays (fun b o q => y₆.stays _ _ (hB _ _ q)) (hsm₅.trans y₆.slots)
  obtain ⟨oe, vs, _, _, _, hoe, hoec, hoedd, hoed, _, _, _, _, _, _⟩ := y₆.traced
  have N₆ : News h₀ L h₆ ((e, oe) :: (d, D) :: news) := News.more F₆ (fun q hq => ⟨y₆.stays _ _ (hl q hq).1, (fun z => by have := (hl q hq).1; rw [z, hL] at this; cases this), (hl q hq).2⟩) hoe (fun es n q => by rw [hoed] at q; cases q) (fresh_of_stays hB f2)
  refine storeX_L F₆ N₆ (fun h₇ F₇ N₇ => ?_) hk hlo
  exact k h₇ oe _ F₇ N₇ hoec hoedd (by unfold notCls; rw [hoed])
end
theorem name_goes_X {M : Model} {A : Around} {E : Value → Shared → Prop} {s : Shared} {h₀ : Heap} {L a : Addr} {m : Str → Option Value} {cn : Str} {cs : Scope} {ccd : Value} {cl : List (Str × Addr)} {n : Str} {pos : Pos} {Q : Unit → Shared → Prop} (F : Fr h₀ L s.heap m)
    (h : ∀ h' v, Fr h₀ L h' (fun x => if x = n then v else m x) → Q () { s with heap := h', toks := s.toks + 1 })
    (hk : cs.kind = .function := by rfl) (hl : (envX cn cs L a ccd cl).kindOf n = some .local := by rfl) :
    wpAny M A (do bindName (envX cn cs L a ccd cl) n .none; unbindBehindTheSuite (envX cn cs L a ccd cl) n pos) Q E s :=
  wpAny_nameGoes_keeps hl F.ns (by show (cs.kind == .class || (cs.kind == .module && L != mainGlobals)) = false; rw [hk]; rfl) fun h' v hn hs => h h' v (F.set hn hs)
end Mine
namespace Mine
local macro_rules | `(tactic| walk_at $s:str) => `(tactic| k_extra $s)

open PySem.Builtin.Str in
theorem slice_neg {l : List Nat} {w k : Nat} (hw : 1 ≤ w) (hl : l.length = w + k) : Txt.slice ⟨l.toArray⟩ (some (-(w : Int))) none = ⟨(l.drop k).toArray⟩ := by
  have hx : (⟨l.toArray⟩ : Str).length = l.length := mk_length l
  have e : Txt.slice ⟨l.toArray⟩ (some (-(w : Int))) none = Txt.slice ⟨l.toArray⟩ (some (k : Int)) none := by
    unfold Txt.slice
    have q : strSliceIndices (some (-(w : Int))) none 1 (⟨l.toArray⟩ : Str).length = strSliceIndices (some (k : Int)) none 1 (⟨l.toArray⟩ : Str).length := by
      have h1 : -(w : Int) < 0 := Int.neg_neg_of_pos (Int.ofNat_lt.mpr hw)
      have h2 : ¬ (k : Int) < 0 := Int.not_lt.mpr (Int.natCast_nonneg k)
      have h3 : -(w : Int) + ((w + k : Nat) : Int) = (k : Int) := by rw [Int.natCast_add, ← Int.add_assoc, Int.add_left_neg, Int.zero_add]
      simp only [strSliceIndices, hx, hl, h1, h2, if_true, if_false, h3]
    rw [q]
  rw [e, slice_from_eq (b := ((w + k : Nat) : Int)) (Int.natCast_nonneg k) (by rw [hx, hl]; exact Int.ofNat_le.mpr (Nat.le_add_left k w)) (by rw [hx, hl])]
  refine congrArg (fun q : List Nat => (⟨q.toArray⟩ : Str)) ?_
  show ((l.drop ((k : Int)).toNat).take _) = _
  rw [Int.toNat_natCast]
  exact List.take_of_length_le (by rw [List.length_drop, hl, Int.toNat_sub]; exact Nat.le_refl _)
theorem slice_pos {l : List Nat} {k : Nat} (hk : k ≤ l.length) : Txt.slice ⟨l.toArray⟩ (some (k : Int)) none = ⟨(l.drop k).toArray⟩ := by
  have hx : (⟨l.toArray⟩ : Str).length = l.length := mk_length l
  rw [slice_from_eq (b := (l.length : Int)) (Int.natCast_nonneg k) (by rw [hx]; exact Int.ofNat_le.mpr hk) (by rw [hx])]
  refine congrArg (fun q : List Nat => (⟨q.toArray⟩ : Str)) ?_
  show ((l.drop ((k : Int)).toNat).take _) = _
  rw [Int.toNat_natCast]
  exact List.take_of_length_le (by rw [List.length_drop, Int.toNat_sub]; exact Nat.le_refl _)
theorem split_two {c : Nat} {a b : List Nat} (ha : c ∉ a) (hb : c ∉ b) : Txt.split ⟨(a ++ c :: b).toArray⟩ ⟨#[c]⟩ = [⟨a.toArray⟩, ⟨b.toArray⟩] := by
  have h1 := split_len ⟨(a ++ c :: b).toArray⟩ c
  have h2 := StrLaws.join_split ⟨(a ++ c :: b).toArray⟩ ⟨#[c]⟩
  have h3 := StrLaws.split_free ⟨(a ++ c :: b).toArray⟩ c
  rw [show (⟨(a ++ c :: b).toArray⟩ : Str).cps.toList = a ++ c :: b from rfl, cnt_append, cnt_cons, cnt_none c a ha, cnt_none c b hb] at h1
  generalize Txt.split ⟨(a ++ c :: b).toArray⟩ ⟨#[c]⟩ = ps at h1 h2 h3
  have hl : ps.length = 2 := by rw [if_pos rfl] at h1; omega
  match ps, hl, h2, h3 with
  | [⟨⟨p⟩⟩, ⟨⟨q⟩⟩], _, h2, h3 =>
    have hp : c ∉ p := h3 ⟨⟨p⟩⟩ (by simp)
    have e : p ++ c :: q = a ++ c :: b := by
      have z := congrArg (fun x : Str => x.cps.toList) h2
      simpa [Str.join, PySem.Str.cps_append] using z
    have key : ∀ (p a : List Nat), c ∉ p → c ∉ a → p ++ c :: q = a ++ c :: b → p = a ∧ q = b := by
      intro p
      induction p with
      | nil =>
        intro a _ ha e
        cases a with
        | nil => simpa using e
        | cons d r => simp at e; exact absurd e.1 (fun z => ha (by simp [z]))
      | cons d r ih =>
        intro a hp ha e
        cases a with
        | nil => simp at e; exact absurd e.1 (fun z => hp (by simp [z]))
        | cons d' r' =>
          simp only [List.cons_append, List.cons.injEq] at e
          obtain ⟨i1, i2⟩ := ih r' (fun z => hp (.tail _ z)) (fun z => ha (.tail _ z)) e.2
          exact ⟨by rw [e.1, i1], i2⟩
    obtain ⟨rfl, rfl⟩ := key p a hp ha e
    rfl
/-- a decimal text -/
def DecText (r : List Nat) (n : Nat) : Prop := (∀ c ∈ r, 48 ≤ c ∧ c ≤ 57) ∧ 1 ≤ r.length ∧ r.length ≤ 10 ∧ decN r = n
theorem dec_text {n : Nat} (h : n < 10 ^ 10) : ∃ r, Str.ofString (toString (n : Int)) = ⟨r.toArray⟩ ∧ DecText r n := by
  refine ⟨(Str.ofString (toString ((n : Nat) : Int))).cps.toList, by simp, ?_, ?_, ?_, ?_⟩
  · intro c hc
    rw [KIN.signs_num] at hc
    obtain ⟨ch, hch, e⟩ := List.mem_map.mp hc
    have r := digit_range (Nat.isDigit_of_mem_toDigits (by decide) (by decide) hch)
    rw [← e]
    exact r
  · rw [KIN.signs_num, List.length_map]
    exact toDigits_len_ge 10 n
  · rw [KIN.signs_num, List.length_map]
    exact digits10_le (by decide) h
  · rw [KIN.signs_num]
    exact KIN.val_back n
/-- what fills a numeral -/
def fillOf (c : Nat) : Nat := if c = 120 ∨ c = 122 ∨ c = 63 then c else 48
theorem fill_ok (c : Nat) : DigOk 1 (fillOf c) := by
  unfold fillOf
  split
  · exact .x (by assumption)
  · exact sg2_ok 0 (by decide) 0 (by decide)
theorem low_fill (c : Nat) : dlow 1 (fillOf c) = if c = 120 then 1 else 0 := by
  unfold fillOf
  split
  · rename_i h
    unfold dlow
    by_cases q : c = 120
    · rw [if_pos q, if_pos q]
    · rw [if_neg q, if_neg q, if_pos (h.resolve_left q)]
  · rename_i h
    rw [if_neg fun z => h (.inl z)]
    rfl
theorem high_fill (c : Nat) : dhigh 1 (fillOf c) = if c = 120 ∨ c = 122 ∨ c = 63 then 1 else 0 := by
  unfold fillOf
  split
  · rename_i h
    exact if_pos h
  · rfl
theorem grp_drop {f : Nat → Nat} (l : List Nat) (k : Nat) (hf : ∀ c ∈ l, f c < 2) : grpN f 1 (l.drop k) = grpN f 1 l % 2 ^ (l.drop k).length := by
  have e : grpN f 1 l = grpN f 1 (l.take k ++ l.drop k) := by rw [List.take_append_drop]
  have hlt := grpN_lt (f := f) (k := 1) (l.drop k) fun c hc => by rw [Nat.pow_one]; exact hf c (List.mem_of_mem_drop hc)
  rw [Nat.one_mul] at hlt
  rw [e, grp_append, Nat.mul_comm, Nat.mul_add_mod, Nat.mod_eq_of_lt hlt]
theorem grp_due {f : Nat → Nat} {c n k : Nat} {p : Prop} [Decidable p] {bits : List Nat} (hk : bits.length = k) (hf : ∀ d ∈ bits, f d < 2) (hc : f (fillOf c) = if p then 1 else 0) :
    grpN f 1 ((List.replicate n (fillOf c) ++ bits).drop k) = padN n k p (grpN f 1 bits) := by
  have hf2 : ∀ d ∈ List.replicate n (fillOf c) ++ bits, f d < 2 := by
    intro d hd
    rcases List.mem_append.mp hd with h | h
    · rw [(List.mem_replicate.mp h).2, hc]; split <;> decide
    · exact hf d h
  have hl : ((List.replicate n (fillOf c) ++ bits).drop k).length = n := by rw [List.length_drop, List.length_append, List.length_replicate, hk, Nat.add_sub_cancel]
  rw [grp_drop _ _ hf2, hl, grp_append, grp_rep, hc, hk]
  generalize grpN f 1 bits = G
  have pn : 0 < 2 ^ n := Nat.two_pow_pos n
  unfold padN
  by_cases hp : p
  · rw [if_pos hp, Nat.one_mul]
    by_cases hkn : k < n
    · rw [if_pos ⟨hkn, hp⟩]
      have e1 : 2 ^ n = 2 ^ (n - k) * 2 ^ k := by rw [← Nat.pow_add, Nat.sub_add_cancel (Nat.le_of_lt hkn)]
      have e2 : (2 ^ n - 1) * 2 ^ k + G = ((2 ^ (n - k) - 1) * 2 ^ k + G) + 2 ^ n * (2 ^ k - 1) := by
        have pk : 0 < 2 ^ k := Nat.two_pow_pos k
        have ple : 2 ^ k ≤ 2 ^ n := Nat.pow_le_pow_right (by decide) (Nat.le_of_lt hkn)
        rw [Nat.sub_mul, Nat.sub_mul, Nat.one_mul, ← e1, Nat.mul_sub, Nat.mul_one, ← Nat.sub_add_sub_cancel (Nat.le_mul_of_pos_right _ pk) ple, Nat.add_assoc]
        exact Nat.add_comm _ _
      rw [e2, Nat.add_mul_mod_self_left]
    · rw [if_neg fun q => hkn q.1]
      have e1 : 2 ^ k = 2 ^ n * 2 ^ (k - n) := by rw [← Nat.pow_add, Nat.add_sub_of_le (Nat.le_of_not_lt hkn)]
      rw [e1, Nat.mul_left_comm, Nat.add_comm, Nat.add_mul_mod_self_left]
  · rw [if_neg hp, Nat.zero_mul, Nat.zero_mul, Nat.zero_add, if_neg fun q => hp q.2]
theorem dlow_two {c : Nat} (h : DigOk 1 c) : dlow 1 c < 2 := by have := dlow_lt h; simpa using this
theorem dhigh_two (c : Nat) : dhigh 1 c < 2 := by have := dhigh_lt 1 c; simpa using this
theorem due_low {c n k : Nat} {bits : List Nat} (hk : bits.length = k) (h : ∀ d ∈ bits, DigOk 1 d) : grpN (dlow 1) 1 ((List.replicate n (fillOf c) ++ bits).drop k) = padN n k (c = 120) (grpN (dlow 1) 1 bits) :=
  grp_due hk (fun d hd => dlow_two (h d hd)) (low_fill c)
theorem due_high {c n k : Nat} {bits : List Nat} (hk : bits.length = k) : grpN (dhigh 1) 1 ((List.replicate n (fillOf c) ++ bits).drop k) = padN n k (c = 120 ∨ c = 122 ∨ c = 63) (grpN (dhigh 1) 1 bits) :=
  grp_due hk (fun d _ => dhigh_two d) (high_fill c)
theorem due_length {c n k : Nat} {bits : List Nat} (hk : bits.length = k) : ((List.replicate n (fillOf c) ++ bits).drop k).length = n := by
  rw [List.length_drop, List.length_append, List.length_replicate, hk, Nat.add_sub_cancel]
theorem due_ok {c n k : Nat} {bits : List Nat} (h : ∀ d ∈ bits, DigOk 1 d) : ∀ d ∈ (List.replicate n (fillOf c) ++ bits).drop k, DigOk 1 d := by
  intro d hd
  rcases List.mem_append.mp (List.mem_of_mem_drop hd) with h' | h'
  · rw [(List.mem_replicate.mp h').2]; exact fill_ok c
  · exact h d h'
theorem padN_lt {n k x : Nat} {p : Prop} [Decidable p] : padN n k p x < 2 ^ n := Nat.mod_lt _ (Nat.two_pow_pos n)
theorem padN_same {n x : Nat} {p : Prop} [Decidable p] (h : x < 2 ^ n) : padN n n p x = x := by unfold padN; rw [if_neg fun q => Nat.lt_irrefl _ q.1, Nat.mod_eq_of_lt h]
end Mine
namespace Mine
local macro_rules | `(tactic| walk_at $s:str) => `(tactic| k_extra $s)

/-- the end of a piece of a body -/
def CutE (s₀ : Shared) (h₀ : Heap) (L : Addr) (P : Addr → (Str → Option Value) → List (Addr × Obj) → Prop) (f : Flow) (s : Shared) : Prop :=
  f = .next ∧ ∃ h' tk m news, s = { s₀ with heap := h', toks := tk } ∧ Fr h₀ L h' m ∧ News h₀ L h' news ∧ P L m news
theorem CutE.mk {s₀ : Shared} {h₀ h' : Heap} {L : Addr} {P : Addr → (Str → Option Value) → List (Addr × Obj) → Prop} {tk : Nat} {m : Str → Option Value} {news : List (Addr × Obj)} (F : Fr h₀ L h' m) (N : News h₀ L h' news) (h : P L m news) :
    CutE s₀ h₀ L P .next { s₀ with heap := h', toks := tk } := ⟨rfl, h', tk, m, news, rfl, F, N, h⟩
theorem execs_app {M : Model} {A : Around} {E : Value → Shared → Prop} {env : Env} {R : Shared → Prop} {Q : Flow → Shared → Prop} {l₁ l₂ : List Stmt} {s : Shared} (h : wpAny M A (execs l₁ env) (fun f s' => f = .next ∧ R s') E s) (k : ∀ s, R s → wpAny M A (execs l₂ env) Q E s) :
    wpAny M A (execs (l₁ ++ l₂) env) Q E s := by
  intro Γ p hΓ
  replace h := h Γ p hΓ
  induction l₁ generalizing p s with
  | nil => exact k s h.2 Γ p hΓ
  | cons st r ih =>
    rw [List.cons_append]
    rw [execs_cons, Sem.wp_bind'] at h ⊢
    refine Sem.wp_mono M Γ _ (fun f p' s' q => ?_) (fun _ _ _ q => q) _ _ h
    cases f with
    | next => exact ih _ q
    | _ => cases q.1
theorem execs_cut {M : Model} {A : Around} {E : Value → Shared → Prop} {env : Env} {Q : Flow → Shared → Prop} {l l₁ l₂ : List Stmt} {s : Shared} {h₀ : Heap} {L : Addr} {m : Str → Option Value} (n : Nat) (P : Addr → (Str → Option Value) → List (Addr × Obj) → Prop) (F0 : Fr h₀ L s.heap m) (e1 : l.take n = l₁) (e2 : l.drop n = l₂)
    (h : wpAny M A (execs l₁ env) (CutE s h₀ L P) E s) (k : ∀ h' tk m' news', Fr h₀ L h' m' → News h₀ L h' news' → P L m' news' → wpAny M A (execs l₂ env) Q E { s with heap := h', toks := tk }) : wpAny M A (execs l env) Q E s := by
  rw [← List.take_append_drop n l, e1, e2]
  refine execs_app (R := fun s' => ∃ h' tk m news, s' = { s with heap := h', toks := tk } ∧ Fr h₀ L h' m ∧ News h₀ L h' news ∧ P L m news) h fun s' hs => ?_
  obtain ⟨h', tk, m', news', rfl, F, N, hP⟩ := hs
  exact k h' tk m' news' F N hP
theorem fr_pick {h₀ h : Heap} {L : Addr} {m : Str → Option Value} (F : Fr h₀ L h m) {x : Str} {v : Value} (e : m x = some v) : Fr h₀ L h (fun y => if y = x then some v else m y) := by
  have q : (fun y => if y = x then some v else m y) = m := by
    funext y
    split
    · subst_vars; exact e.symm
    · rfl
  rw [q]
  exact F
/-- the pool in its cell -/
inductive PoolAt (L : Addr) (news : List (Addr × Obj)) : Prop
  | mk (pl fg : Addr) (i mx : Int) (ti tm : Tok) (n : Nat) (vs : List Value) (ns : List Int) (k : Nat) (oa op : Obj) (va : Option Value) (z1 : news = [(pl, poolOf fg i mx ti tm n), (fg, W.listOf vs.toArray k), (L + 1 + 1, oa), (L + 1, op)]) (z2 : oa.data = .cell va) (z3 : op.data = .cell (some (.ref pl))) (z4 : @LT.lt Nat _ fg pl) (z5 : @LT.lt Nat _ (L + 1 + 1) fg) (z6 : IntsAre vs ns) (z7 : ns.length ≤ 1000) (z8 : 0 ≤ i) (z9 : i ≤ 1000) (z10 : 0 ≤ mx) (z11 : mx ≤ 1009)
/-- the bases -/
def IsBase (b : Str) : Prop := b = Str.ofString "" ∨ b = Str.ofString "h" ∨ b = Str.ofString "b" ∨ b = Str.ofString "o" ∨ b = Str.ofString "d"
theorem News.sub {h₀ h : Heap} {L : Addr} {news news' : List (Addr × Obj)} (N : News h₀ L h news) (hs : ∀ p ∈ news', p ∈ news) : News h₀ L h news' := fun p hp => N p (hs p hp)
theorem end_pool {s₀ : Shared} {h₀ h' : Heap} {L pl fg : Addr} {P : Addr → (Str → Option Value) → List (Addr × Obj) → Prop} {tk : Nat} {m : Str → Option Value} {news : List (Addr × Obj)} {i mx : Int} {ti tm : Tok} {n k : Nat} {vs : List Value} {ns : List Int} {oa op : Obj} {va : Option Value}
    (F : Fr h₀ L h' m) (N : News h₀ L h' news) (m1 : (L + 1 + 1, oa) ∈ news) (m2 : (L + 1, op) ∈ news) (c1 : op.data = .cell (some (.ref pl))) (c2 : oa.data = .cell va) (m3 : (pl, poolOf fg i mx ti tm n) ∈ news) (m4 : (fg, W.listOf vs.toArray k) ∈ news)
    (l1 : @LT.lt Nat _ fg pl) (l2 : @LT.lt Nat _ (L + 1 + 1) fg) (hI : IntsAre vs ns) (hl : ns.length ≤ 1000) (h0 : 0 ≤ i) (h1 : i ≤ 1000) (h2 : 0 ≤ mx) (h3 : mx ≤ 1009)
    (hP : ∀ news, PoolAt L news → P L m news) : CutE s₀ h₀ L P .next { s₀ with heap := h', toks := tk } :=
  CutE.mk F (Mine.News.sub N (news' := [(pl, poolOf fg i mx ti tm n), (fg, W.listOf vs.toArray k), (L + 1 + 1, oa), (L + 1, op)]) fun p hp => by
    simp only [List.mem_cons, List.not_mem_nil, or_false] at hp
    rcases hp with rfl | rfl | rfl | rfl <;> assumption) (hP _ ⟨pl, fg, i, mx, ti, tm, n, vs, ns, k, oa, op, va, rfl, c2, c1, l1, l2, hI, hl, h0, h1, h2, h3⟩)
inductive P1 (L : Addr) (m : Str → Option Value) (news : List (Addr × Obj)) : Prop
  | mk (b : Str) (t : Tok) (z1a : m (Str.ofString "base") = some (.str b t)) (z1b : IsBase b) (z2 : PoolAt L news)
def SizeOk (size : Str) : Prop := size = Str.ofString "" ∨ BadSize size ∨ ∃ v, v ≤ 75 ∧ GoodSize size v
inductive P2 (L : Addr) (m : Str → Option Value) (news : List (Addr × Obj)) : Prop
  | mk (b : Str) (tb : Tok) (size : Str) (ts : Tok) (sg : Bool) (z1a : m (Str.ofString "base") = some (.str b tb)) (z1b : m (Str.ofString "size") = some (.str size ts)) (z1c : m (Str.ofString "signed") = some (.bool sg)) (z1d : IsBase b) (z1e : SizeOk size) (z1f : (b = Str.ofString "" → size = Str.ofString "" ∧ sg = true)) (z2 : PoolAt L news)
def digsOk (n : Nat) : Bool := let r := (Str.ofString (toString (n : Int))).cps.toList
  r.all (fun c => 48 ≤ c && c ≤ 57) && (1 ≤ r.length && r.length ≤ 5) && r.head? != some 48 && decN r == n
theorem digs75 : ∀ n, n < 76 → 1 ≤ n → digsOk n = true := by decide +kernel
theorem digs_ok {n : Nat} (h1 : 1 ≤ n) (h2 : n ≤ 75) : ∃ r : List Nat, Str.ofString (toString (n : Int)) = ⟨r.toArray⟩ ∧ (∀ c ∈ r, 48 ≤ c ∧ c ≤ 57) ∧ 1 ≤ r.length ∧ r.length ≤ 5 ∧ r.head? ≠ some 48 ∧ decN r = n := by
  have h := digs75 n (by omega) h1
  unfold digsOk at h
  simp only [Bool.and_eq_true, List.all_eq_true, decide_eq_true_eq, bne_iff_ne, beq_iff_eq] at h
  exact ⟨_, rfl, h.1.1.1, h.1.1.2.1, h.1.1.2.2, h.1.2, h.2⟩
theorem good_size {z n : Nat} (hz : z ≤ 2) (h1 : 1 ≤ n) (h2 : n ≤ 75) : SizeOk ((⟨(List.replicate z 48).toArray⟩ : Str) ++ Str.ofString (toString (n : Int))) := by
  obtain ⟨r, e, a, b, c, d, f⟩ := digs_ok h1 h2
  refine .inr (.inr ⟨n, h2, z, r, ?_, a, b, c, d, by omega, f, h1, by omega⟩)
  rw [e, cat_mk2]
theorem add_size {prog : Program} {w : World} {A : Around} {E : Value → Shared → Prop} {s : Shared} {t u : Tok} {Q : Value → Shared → Prop} {v W : Nat} (hv : v < 3) (h5 : 5 ≤ W) (h80 : W < 80) (h : ∀ size t' tk, SizeOk size → Q (.str size t') { s with toks := tk }) :
    wpAny (model prog w) A (binaryOp .Add (.str (Txt.mul (Str.ofString "0") (v : Int)) t) (.str (Str.ofString (toString ((W : Int) - 4))) u)) Q E s := by
  have e : ((W : Int) - 4) = ((W - 4 : Nat) : Int) := by omega
  have e2 : Txt.mul (Str.ofString "0") (v : Int) = ⟨(List.replicate v 48).toArray⟩ := mul_sgn 48 v
  have g := good_size (z := v) (n := W - 4) (by omega) (by omega) (by omega)
  obtain ⟨r, er, _, _, hl, _⟩ := digs_ok (n := W - 4) (by omega) (by omega)
  rw [e, e2]
  refine SBL.add (fun t' tk _ => h _ t' tk g) ?_
  rw [er, mk_length, mk_length, List.length_replicate, sizeLine_eq]
  omega
theorem bad_of (h : size ∈ [Str.ofString "0", Str.ofString "000", Str.ofString "65537", Str.ofString "123456"]) : SizeOk size := by
  simp only [List.mem_cons, List.not_mem_nil, or_false] at h
  exact .inr (.inl h)
end Mine
namespace Mine
local macro_rules | `(tactic| walk_at $s:str) => `(tactic| k_extra $s)

/-- the digits that a base allows -/
def alw (b : Str) : List Nat :=
  if b = Str.ofString "" then (Str.ofString "0123456789").cps.toList else if b = Str.ofString "d" then (Str.ofString "0123456789").cps.toList
  else if b = Str.ofString "b" then (Str.ofString "01xz?").cps.toList else if b = Str.ofString "o" then (Str.ofString "01234567xz?").cps.toList else (Str.ofString "0123456789abcdefxz?").cps.toList
theorem look_alw {b : Str} (h : IsBase b) {t0 t1 t2 t3 t4 u0 u1 u2 u3 u4 : Tok} :
    PySem.Spec.lookup (.str b) (strData [(.str (Str.ofString "") t0, .str (Str.ofString "0123456789") u0), (.str (Str.ofString "d") t1, .str (Str.ofString "0123456789") u1), (.str (Str.ofString "b") t2, .str (Str.ofString "01xz?") u2), (.str (Str.ofString "o") t3, .str (Str.ofString "01234567xz?") u3), (.str (Str.ofString "h") t4, .str (Str.ofString "0123456789abcdefxz?") u4)]) = some (.str ⟨(alw b).toArray⟩) := by
  rcases h with rfl | rfl | rfl | rfl | rfl <;> rfl
theorem alw_len {b : Str} : 1 ≤ (alw b).length ∧ (alw b).length ≤ 19 := by
  unfold alw
  repeat' split
  all_goals decide
theorem alw_dec {b : Str} (h : b = Str.ofString "" ∨ b = Str.ofString "d") : ∀ c ∈ alw b, 48 ≤ c ∧ c ≤ 57 := by
  rcases h with rfl | rfl <;> decide
theorem alw_grp {b : Str} (h : b = Str.ofString "b" ∨ b = Str.ofString "o" ∨ b = Str.ofString "h") : ∀ c ∈ alw b, DigOk (cntOf b) c := by
  rcases h with rfl | rfl | rfl <;> (unfold DigOk; decide +kernel)
theorem getItem_alw {prog : Program} {w : World} {A : Around} {E : Value → Shared → Prop} {s : Shared} {d : Addr} {b : Str} {tb : Tok} {Q : Value → Shared → Prop} {t0 t1 t2 t3 t4 u0 u1 u2 u3 u4 : Tok} (hb : IsBase b)
    (T : TabAt (strKind prog w) PyData.str s.heap d (strData [(.str (Str.ofString "") t0, .str (Str.ofString "0123456789") u0), (.str (Str.ofString "d") t1, .str (Str.ofString "0123456789") u1), (.str (Str.ofString "b") t2, .str (Str.ofString "01xz?") u2), (.str (Str.ofString "o") t3, .str (Str.ofString "01234567xz?") u3), (.str (Str.ofString "h") t4, .str (Str.ofString "0123456789abcdefxz?") u4)]))
    (h : ∀ t, Q (.str ⟨(alw b).toArray⟩ t) { s with toks := s.toks + 1 }) : wpAny (model prog w) A (getItem (.ref d) (.str b tb)) Q E s := by
  refine getItem_tab PyProof.V.same_str (strKind_is _ _ _ _) T (look_alw hb) fun v hv => ?_
  obtain ⟨t, rfl⟩ := hv.str_inv
  exact h t
end Mine
namespace Mine
local macro_rules | `(tactic| walk_at $s:str) => `(tactic| k_extra $s)

section
variable {prog : Program} {w : World} {A : Around} {h₀ : Heap} {L : Addr} {m : Str → Option Value} {env : Env} {elt : Expr} {x : Str} {scope : Scope} {cl : List (Str × Addr)} {s : Shared} {S : List (Addr × Obj) → Prop} {P : Nat → Value → Prop} {Fin : List Value → List (Addr × Obj) → Prop}
/-- a turn of the block that draws the digits -/
def PickEl (Inv : List (Addr × Obj) → Prop) (Ok : Nat → Prop) (y : Value) (news' : List (Addr × Obj)) : Prop := Inv news' ∧ ∃ c t, y = .str ⟨#[c]⟩ t ∧ Ok c
theorem pick_rest {Inv : List (Addr × Obj) → Prop} {Ok : Nat → Prop} {n : Nat} {news : List (Addr × Obj)} (h0 : Inv news)
    (turn : ∀ I oI C oC D m₂ ys h tk (E' : Value → Shared → Prop) news, Inv news → LCg.NsObj oC m₂ → Fr h₀ L h m → News h₀ L h ((I, oI) :: (C, oC) :: (D, LCg.lst ys) :: news) → LCg.Off3 I C D news → ((@Ne Nat I C) ∧ (@Ne Nat I D) ∧ (@Ne Nat C D)) →
      wpAny (model prog w) A (eval elt (compEnvC scope cl C env)) (LCg.CompEnd h₀ L m { s with heap := h, toks := tk } I oI C oC D (LCg.lst ys) S (PickEl Inv Ok)) E' { s with heap := h, toks := tk })
    (fin : ∀ ys (ds : List Nat) news, Inv news → StrsAre ys (ds.map fun k => (⟨#[k]⟩ : Str)) → ds.length = n → (∀ c ∈ ds, Ok c) → Fin ys news) : LCg.CompRest prog w A h₀ L m env elt x scope cl s S P Fin n 0 [] news := by
  have key : ∀ (j i : Nat) (ys : List Value) (ds : List Nat) (news : List (Addr × Obj)), i + j = n → Inv news → StrsAre ys (ds.map fun k => (⟨#[k]⟩ : Str)) → ds.length = i → (∀ c ∈ ds, Ok c) → LCg.CompRest prog w A h₀ L m env elt x scope cl s S P Fin j i ys news := by
    intro j
    induction j with
    | zero =>
      intro i ys ds news hi hI hy hl hok
      exact LCg.CompRest.zero (fin ys ds news hI hy (by omega) hok)
    | succ j ih =>
      intro i ys ds news hi hI hy hl hok
      refine LCg.CompRest.succ ?_
      intro v I oI C oC D m₂ h tk E' hv hC hx F N off ne
      refine wpAny_mono (turn I oI C oC D m₂ ys h tk E' news hI hC F N off ne) (fun y s₂ hq => ?_) fun _ _ e => e
      obtain ⟨h', tk', nw, e, F', N', off', hS, hI', c, t', rfl, hc⟩ := hq
      refine ⟨h', tk', nw, e, F', N', off', hS, ?_⟩
      refine ih (i + 1) _ (ds ++ [c]) nw (by omega) hI' ?_ (by simp [hl]) (fun d hd => ?_)
      · rw [List.map_append]
        exact StrsAre.append' hy (.cons _ _ .nil)
      · rcases List.mem_append.mp hd with h | h
        · exact hok d h
        · rw [List.mem_singleton.mp h]; exact hc
  exact key n 0 [] [] news (by omega) h0 .nil rfl (by simp)
end
/-- the pool in its cell, and what stands in the other cell -/
inductive PoolV (va : Option Value) (L : Addr) (news : List (Addr × Obj)) : Prop
  | mk (pl fg : Addr) (i mx : Int) (ti tm : Tok) (n : Nat) (vs : List Value) (ns : List Int) (k : Nat) (oa op : Obj) (z1 : news = [(pl, poolOf fg i mx ti tm n), (fg, W.listOf vs.toArray k), (L + 1 + 1, oa), (L + 1, op)]) (z2 : oa.data = .cell va) (z3 : op.data = .cell (some (.ref pl))) (z4 : @LT.lt Nat _ fg pl) (z5 : @LT.lt Nat _ (L + 1 + 1) fg) (z6 : IntsAre vs ns) (z7 : ns.length ≤ 1000) (z8 : 0 ≤ i) (z9 : i ≤ 1000) (z10 : 0 ≤ mx) (z11 : mx ≤ 1009)
theorem item_at {l : List Nat} {v : Nat} (hv : v < l.length) : Txt.item ⟨l.toArray⟩ (v : Int) = ⟨#[l[v]]⟩ :=
  PyProof.Rows.item_meets (Int.natCast_nonneg v) (by
    show l.toArray[v]? = _
    rw [List.getElem?_toArray]
    exact List.getElem?_eq_getElem hv)
theorem item_alw {prog : Program} {w : World} {A : Around} {E : Value → Shared → Prop} {s : Shared} {value slice : PySem.Expr} {t u : Tok} {l : List Nat} {v : Nat} {Q : Value → Shared → Prop} (hl : l.length ≤ 1000) (hv : v < l.length)
    (h : ∀ c, c ∈ l → Q (.str ⟨#[c]⟩ s.toks) { s with toks := s.toks + 1 })
    (hs : subscripted slice false (.str ⟨l.toArray⟩ t) (.int v u) = operate [.str ⟨l.toArray⟩ t, .int v u] (getItem (.str ⟨l.toArray⟩ t) (.int v u)) := by with_unfolding_all rfl)
    (ht : ∀ q, letTemporaryGo value (.str ⟨l.toArray⟩ t) q = pure () := by intro _; with_unfolding_all rfl) :
    wpAny (model prog w) A (subscriptTail value slice (.str ⟨l.toArray⟩ t) (.int v u)) Q E s :=
  KXi.item (n := l.length) (mk_length _) (by omega) (by omega) (by omega) (fun _ => by rw [item_at hv]; exact h _ (List.getElem_mem hv)) hs ht
inductive P3 (L : Addr) (m : Str → Option Value) (news : List (Addr × Obj)) : Prop
  | mk (b : Str) (tb : Tok) (size : Str) (ts : Tok) (sg : Bool) (ta : Tok) (z1 : m (Str.ofString "base") = some (.str b tb)) (z2 : m (Str.ofString "size") = some (.str size ts)) (z3 : m (Str.ofString "signed") = some (.bool sg)) (z4 : IsBase b) (z5 : SizeOk size) (z6 : (b = Str.ofString "" → size = Str.ofString "" ∧ sg = true)) (z7 : PoolV (some (.str ⟨(alw b).toArray⟩ ta)) L news)
theorem end_poolV {s₀ : Shared} {h₀ h' : Heap} {L pl fg : Addr} {P : Addr → (Str → Option Value) → List (Addr × Obj) → Prop} {tk : Nat} {m : Str → Option Value} {news : List (Addr × Obj)} {i mx : Int} {ti tm : Tok} {n k : Nat} {vs : List Value} {ns : List Int} {oa op : Obj} {va : Option Value}
    (F : Fr h₀ L h' m) (N : News h₀ L h' news) (m1 : (L + 1 + 1, oa) ∈ news) (m2 : (L + 1, op) ∈ news) (c1 : op.data = .cell (some (.ref pl))) (c2 : oa.data = .cell va) (m3 : (pl, poolOf fg i mx ti tm n) ∈ news) (m4 : (fg, W.listOf vs.toArray k) ∈ news)
    (l1 : @LT.lt Nat _ fg pl) (l2 : @LT.lt Nat _ (L + 1 + 1) fg) (hI : IntsAre vs ns) (hl : ns.length ≤ 1000) (h0 : 0 ≤ i) (h1 : i ≤ 1000) (h2 : 0 ≤ mx) (h3 : mx ≤ 1009)
    (hP : ∀ news, PoolV va L news → P L m news) : CutE s₀ h₀ L P .next { s₀ with heap := h', toks := tk } :=
  CutE.mk F (Mine.News.sub N (news' := [(pl, poolOf fg i mx ti tm n), (fg, W.listOf vs.toArray k), (L + 1 + 1, oa), (L + 1, op)]) fun p hp => by
    simp only [List.mem_cons, List.not_mem_nil, or_false] at hp
    rcases hp with rfl | rfl | rfl | rfl <;> assumption) (hP _ ⟨pl, fg, i, mx, ti, tm, n, vs, ns, k, oa, op, rfl, c2, c1, l1, l2, hI, hl, h0, h1, h2, h3⟩)
theorem fr_same {h₀ h : Heap} {L : Addr} {m m' : Str → Option Value} (F : Fr h₀ L h m) (q : m' = m) : Fr h₀ L h m' := by
  rw [q]; exact F
theorem fr_pick3 {h₀ h : Heap} {L : Addr} {m : Str → Option Value} (F : Fr h₀ L h m) {x1 x2 x3 : Str} {v1 v2 v3 : Value} (e1 : m x1 = some v1) (e2 : m x2 = some v2) (e3 : m x3 = some v3) :
    Fr h₀ L h (fun y => if y = x1 then some v1 else if y = x2 then some v2 else if y = x3 then some v3 else m y) := by
  refine fr_same F ?_
  funext y
  repeat' split
  all_goals (try subst_vars); simp_all
theorem fr_pick4 {h₀ h : Heap} {L : Addr} {m : Str → Option Value} (F : Fr h₀ L h m) {x1 x2 x3 x4 : Str} {v1 v2 v3 v4 : Value} (e1 : m x1 = some v1) (e2 : m x2 = some v2) (e3 : m x3 = some v3) (e4 : m x4 = some v4) :
    Fr h₀ L h (fun y => if y = x1 then some v1 else if y = x2 then some v2 else if y = x3 then some v3 else if y = x4 then some v4 else m y) := by
  refine fr_same F ?_
  funext y
  repeat' split
  all_goals (try subst_vars); simp_all
theorem fr_pick5 {h₀ h : Heap} {L : Addr} {m : Str → Option Value} (F : Fr h₀ L h m) {x1 x2 x3 x4 x5 : Str} {v1 v2 v3 v4 v5 : Value} (e1 : m x1 = some v1) (e2 : m x2 = some v2) (e3 : m x3 = some v3) (e4 : m x4 = some v4) (e5 : m x5 = some v5) :
    Fr h₀ L h (fun y => if y = x1 then some v1 else if y = x2 then some v2 else if y = x3 then some v3 else if y = x4 then some v4 else if y = x5 then some v5 else m y) := by
  refine fr_same F ?_
  funext y
  repeat' split
  all_goals (try subst_vars); simp_all
inductive P4 (L : Addr) (m : Str → Option Value) (news : List (Addr × Obj)) : Prop
  | mk (b : Str) (tb : Tok) (size : Str) (ts : Tok) (sg : Bool) (ds : List Nat) (td : Tok) (z1 : m (Str.ofString "base") = some (.str b tb)) (z2 : m (Str.ofString "size") = some (.str size ts)) (z3 : m (Str.ofString "signed") = some (.bool sg)) (z4 : m (Str.ofString "digits") = some (.str ⟨ds.toArray⟩ td)) (z5 : IsBase b) (z6 : SizeOk size) (z7 : (b = Str.ofString "" → size = Str.ofString "" ∧ sg = true)) (z8 : 1 ≤ ds.length) (z9 : ds.length ≤ 40) (z10 : (∀ c ∈ ds, c ∈ alw b)) (z11 : PoolAt L news)
theorem len_list {prog : Program} {w : World} {A : Around} {E : Value → Shared → Prop} {s : Shared} {l : List Nat} {t : Tok} {Q : Value → Shared → Prop} (hl : l.length ≤ 1000) (h : Q (.int l.length (s.toks + 1)) { s with toks := s.toks + 1 + 1 }) :
    wpAny (model prog w) A (call (.builtin "len") [.str ⟨l.toArray⟩ t]) Q E s := by
  have e : (⟨l.toArray⟩ : Str).length = l.length := mk_length l
  refine len_str (by rw [e]; omega) ?_
  rw [e]
  exact h
theorem ones_weight (l : List Nat) : ((l.map fun k => (⟨#[k]⟩ : Str)).map (·.length)).sum + (l.map fun k => (⟨#[k]⟩ : Str)).length = l.length + l.length := by
  rw [List.length_map, List.map_map]
  have e : ∀ l : List Nat, (l.map ((fun (q : Str) => q.length) ∘ fun k => (⟨#[k]⟩ : Str))).sum = l.length := by
    intro l
    induction l with
    | nil => rfl
    | cons a r ih => rw [List.map_cons, List.sum_cons, ih, List.length_cons]; show 1 + _ = _; omega
  rw [e]
theorem join_digs {prog : Program} {w : World} {A : Around} {E : Value → Shared → Prop} {s : Shared} {D : Addr} {vs : List Value} {ds : List Nat} {t : Tok} {Q : Value → Shared → Prop} (hl : s.heap.IsList D vs.toArray) (hi : StrsAre vs (ds.map fun k => (⟨#[k]⟩ : Str))) (hd : ds.length ≤ 1000)
    (h : ∀ t' k, Q (.str ⟨ds.toArray⟩ t') { s with toks := k }) : wpAny (model prog w) A (call (.builtin "str.join") [.str (Str.ofString "") t, .ref D]) Q E s := by
  refine join_listW hl hi (by decide +kernel) (by rw [ones_weight]; omega) fun t' k => ?_
  have e : Txt.join (Str.ofString "") (ds.map fun k => (⟨#[k]⟩ : Str)) = ⟨ds.toArray⟩ := by
    show Builtin.Str.glued _ _ = _
    rw [StrLaws.glued_eq_join]
    exact join_ones _
  rw [e]
  exact h t' k
end Mine
namespace Mine
local macro_rules | `(tactic| walk_at $s:str) => `(tactic| k_extra $s)

/-- the digits of a numeral -/
def DigsOk (b : Str) (ds : List Nat) : Prop :=
  ((b = Str.ofString "" ∨ b = Str.ofString "d") ∧ ∀ c ∈ ds, 48 ≤ c ∧ c ≤ 57) ∨ (b = Str.ofString "d" ∧ ∃ c, ds = [c] ∧ (c = 120 ∨ c = 122 ∨ c = 63)) ∨
  ((b = Str.ofString "b" ∨ b = Str.ofString "o" ∨ b = Str.ofString "h") ∧ ∀ c ∈ ds, DigOk (cntOf b) c)
inductive P5 (L : Addr) (m : Str → Option Value) (news : List (Addr × Obj)) : Prop
  | mk (b : Str) (tb : Tok) (size : Str) (ts : Tok) (sg : Bool) (ds : List Nat) (td : Tok) (z1 : m (Str.ofString "base") = some (.str b tb)) (z2 : m (Str.ofString "size") = some (.str size ts)) (z3 : m (Str.ofString "signed") = some (.bool sg)) (D : Str) (z4a : m (Str.ofString "digits") = some (.str D td)) (z4b : D = ⟨ds.toArray⟩) (z5 : SizeOk size) (z6 : (b = Str.ofString "" → size = Str.ofString "" ∧ sg = true)) (z7 : 1 ≤ ds.length) (z8 : ds.length ≤ 40) (z9 : DigsOk b ds)
theorem digs_all {b : Str} {ds : List Nat} (hb : IsBase b) (h : ∀ c ∈ ds, c ∈ alw b) : DigsOk b ds := by
  rcases hb with rfl | rfl | rfl | rfl | rfl
  · exact .inl ⟨.inl rfl, fun c hc => alw_dec (.inl rfl) c (h c hc)⟩
  · exact .inr (.inr ⟨.inr (.inr rfl), fun c hc => alw_grp (.inr (.inr rfl)) c (h c hc)⟩)
  · exact .inr (.inr ⟨.inl rfl, fun c hc => alw_grp (.inl rfl) c (h c hc)⟩)
  · exact .inr (.inr ⟨.inr (.inl rfl), fun c hc => alw_grp (.inr (.inl rfl)) c (h c hc)⟩)
  · exact .inl ⟨.inr rfl, fun c hc => alw_dec (.inr rfl) c (h c hc)⟩
def xz3 (v : Nat) : Nat := if v = 0 then 120 else if v = 1 then 122 else 63
theorem item3All : ∀ v : Nat, v < 3 → Txt.item (Str.ofString "xz?") (v : Int) = ⟨[xz3 v].toArray⟩ ∧ (xz3 v = 120 ∨ xz3 v = 122 ∨ xz3 v = 63) := by decide +kernel
theorem item3 {v : Nat} (h : v < 3) : ∃ c, Txt.item (Str.ofString "xz?") (v : Int) = ⟨[c].toArray⟩ ∧ (c = 120 ∨ c = 122 ∨ c = 63) := ⟨_, item3All v h⟩
theorem end_digs {s₀ : Shared} {h₀ h' : Heap} {L : Addr} {tk : Nat} {m : Str → Option Value} {news : List (Addr × Obj)} {b size D : Str} {tb ts td : Tok} {sg : Bool} {ds : List Nat} (F : Fr h₀ L h' m) (N : News h₀ L h' news)
    (mb : m (Str.ofString "base") = some (.str b tb)) (ms : m (Str.ofString "size") = some (.str size ts)) (mg : m (Str.ofString "signed") = some (.bool sg)) (md : m (Str.ofString "digits") = some (.str D td)) (e : D = ⟨ds.toArray⟩)
    (hs : SizeOk size) (hbs : b = Str.ofString "" → size = Str.ofString "" ∧ sg = true) (h1 : 1 ≤ ds.length) (h2 : ds.length ≤ 40) (hd : DigsOk b ds) : CutE s₀ h₀ L P5 .next { s₀ with heap := h', toks := tk } :=
  CutE.mk F N ⟨b, tb, size, ts, sg, ds, td, mb, ms, mg, D, md, e, hs, hbs, h1, h2, hd⟩
end Mine
namespace Mine
local macro_rules | `(tactic| walk_at $s:str) => `(tactic| k_extra $s)

/-- the bits as the law writes them -/
def lawBits (b : Str) (ds : List Nat) : List Nat :=
  if b = Str.ofString "" ∨ b = Str.ofString "d" then (if ∀ c ∈ ds, 48 ≤ c ∧ c ≤ 57 then bitsOf (blen (decN ds)) (decN ds) 0 else ds) else ds.flatMap (expand (cntOf b))
theorem lawBits_plain {b : Str} {ds : List Nat} (hb : b = Str.ofString "" ∨ b = Str.ofString "d") (h : ∀ c ∈ ds, 48 ≤ c ∧ c ≤ 57) : lawBits b ds = bitsOf (blen (decN ds)) (decN ds) 0 := by
  unfold lawBits; rw [if_pos hb, if_pos h]
theorem xz_no {c : Nat} (h : c = 120 ∨ c = 122 ∨ c = 63) : ¬ (48 ≤ c ∧ c ≤ 57) := by rcases h with rfl | rfl | rfl <;> decide
theorem lawBits_xz {b : Str} {c : Nat} (hb : b = Str.ofString "" ∨ b = Str.ofString "d") (h : c = 120 ∨ c = 122 ∨ c = 63) : lawBits b [c] = [c] := by
  unfold lawBits; rw [if_pos hb, if_neg fun q => xz_no h (q c (.head _))]
theorem lawBits_grp {b : Str} {ds : List Nat} (hb : ¬ (b = Str.ofString "" ∨ b = Str.ofString "d")) : lawBits b ds = ds.flatMap (expand (cntOf b)) := by
  unfold lawBits; rw [if_neg hb]
theorem grp_not {b : Str} (hb : b = Str.ofString "b" ∨ b = Str.ofString "o" ∨ b = Str.ofString "h") : ¬ (b = Str.ofString "" ∨ b = Str.ofString "d") := by
  rcases hb with rfl | rfl | rfl <;> decide
theorem any_plain {b : Str} (hb : b = Str.ofString "" ∨ b = Str.ofString "d") : ([Str.ofString "", Str.ofString "d"].any fun x => x == b) = true := by
  rcases hb with rfl | rfl <;> decide
theorem any_not {b : Str} (hb : ¬ (b = Str.ofString "" ∨ b = Str.ofString "d")) : ([Str.ofString "", Str.ofString "d"].any fun x => x == b) = false := by
  rw [Bool.eq_false_iff]
  intro q
  simp only [List.any_cons, List.any_nil, Bool.or_false, Bool.or_eq_true, beq_iff_eq] at q
  exact hb (q.elim (fun z => .inl z.symm) fun z => .inr z.symm)
theorem law_bits_any (w : World) (b : Str) (t2 : Tok) (ds : List Nat) (t : Tok) (hd : DigsOk b ds) (h1 : 1 ≤ ds.length) (hl : ds.length ≤ 40) (news : List (Addr × Obj)) :
    Con w 153 1 [.str b t2, .str ⟨ds.toArray⟩ t] news (RStr news ⟨(lawBits b ds).toArray⟩) := by
  rcases hd with ⟨hb, hdg⟩ | ⟨hb, c, rfl, hc⟩ | ⟨hb, hdg⟩
  · rw [lawBits_plain hb hdg]
    exact law_bits_plain w b t2 ds t hdg h1 hl (any_plain hb) news
  · rw [lawBits_xz (.inr hb) hc]
    exact law_bits_xz w b t2 c t hc (any_plain (.inr hb)) news
  · rw [lawBits_grp (grp_not hb)]
    exact law_bits_grp w b t2 ds t hdg hl hb (any_not (grp_not hb)) news
/-- with the sign's bit of a plain number -/
def dueBits (b size : Str) (sg : Bool) (ds : List Nat) : List Nat :=
  if size = Str.ofString "" ∧ sg = true ∧ (b = Str.ofString "" ∨ b = Str.ofString "d") ∧ ∀ c ∈ ds, 48 ≤ c ∧ c ≤ 57 then 48 :: lawBits b ds else lawBits b ds
theorem lawBits_ok {b : Str} {ds : List Nat} (hd : DigsOk b ds) : ∀ d ∈ lawBits b ds, DigOk 1 d := by
  rcases hd with ⟨hb, hdg⟩ | ⟨hb, c, rfl, hc⟩ | ⟨hb, hdg⟩
  · rw [lawBits_plain hb hdg]; exact bitsOf_ok _ _ _
  · rw [lawBits_xz (.inr hb) hc]
    intro d h
    rw [List.mem_singleton.mp h]
    exact DigOk.x hc
  · rw [lawBits_grp (grp_not hb)]; exact flat_ok _ _
theorem lawBits_len {b : Str} {ds : List Nat} (hd : DigsOk b ds) (hl : ds.length ≤ 40) : (lawBits b ds).length ≤ 160 := by
  rcases hd with ⟨hb, hdg⟩ | ⟨hb, c, rfl, hc⟩ | ⟨hb, hdg⟩
  · rw [lawBits_plain hb hdg, bitsOf_length]; exact blen_dec hdg hl
  · rw [lawBits_xz (.inr hb) hc]; simp
  · rw [lawBits_grp (grp_not hb), flat_length]
    exact Nat.mul_le_mul (cntOf_le b).2 hl
theorem dueBits_ok {b size : Str} {sg : Bool} {ds : List Nat} (hd : DigsOk b ds) : ∀ d ∈ dueBits b size sg ds, DigOk 1 d := by
  have h := lawBits_ok hd
  unfold dueBits
  split
  · intro d hm
    rcases List.mem_cons.mp hm with rfl | hm
    · exact .inr (.inr (.inr (by decide)))
    · exact h d hm
  · exact h
theorem dueBits_len {b size : Str} {sg : Bool} {ds : List Nat} (hd : DigsOk b ds) (hl : ds.length ≤ 40) : (dueBits b size sg ds).length ≤ 161 := by
  have h := lawBits_len hd hl
  unfold dueBits
  split
  · rw [List.length_cons]; omega
  · omega
/-- the vector that is due -/
def dueW (b size : Str) (sg : Bool) (sv : Nat) (ds : List Nat) : Nat := outW size sv (dueBits b size sg ds).length
def dueX (b size : Str) (sg : Bool) (sv : Nat) (ds : List Nat) : Nat := padN (dueW b size sg sv ds) (dueBits b size sg ds).length (ds.head? = some 120) (grpN (dlow 1) 1 (dueBits b size sg ds))
def dueY (b size : Str) (sg : Bool) (sv : Nat) (ds : List Nat) : Nat := padN (dueW b size sg sv ds) (dueBits b size sg ds).length (ds.head? = some 120 ∨ ds.head? = some 122 ∨ ds.head? = some 63) (grpN (dhigh 1) 1 (dueBits b size sg ds))
theorem padN_iff {n k x : Nat} {p q : Prop} [Decidable p] [Decidable q] (h : p ↔ q) : padN n k p x = padN n k q x := by
  unfold padN
  by_cases hp : p
  · have hq : q := h.mp hp
    simp only [hp, hq]
  · have hq : ¬ q := fun z => hp (h.mpr z)
    simp only [hp, hq]
theorem low_bitsN {v : Nat} : grpN (dlow 1) 1 (bitsOf (blen v) v 0) = v := (low_bits _ _ _).trans (Nat.mod_eq_of_lt (lt_blen v))
theorem high_bitsN {v : Nat} : grpN (dhigh 1) 1 (bitsOf (blen v) v 0) = 0 := (high_bits _ _ _).trans (Nat.zero_mod _)
theorem grp_zero {f : Nat → Nat} (h : f 48 = 0) (l : List Nat) : grpN f 1 (48 :: l) = grpN f 1 l := by
  have e := grp_append f [48] l
  rw [List.singleton_append] at e
  rw [e]
  simp [grpN, h]
end Mine
namespace Mine
local macro_rules | `(tactic| walk_at $s:str) => `(tactic| k_extra $s)

/-- a good size, or none -/
def SzOk (size : Str) (sv : Nat) : Prop := ((size == Str.ofString "") = false → GoodSize size sv) ∧ 1 ≤ sv ∧ sv ≤ 75
theorem sz_cases {size : Str} (h : SizeOk size) : BadSize size ∨ ∃ sv, SzOk size sv := by
  rcases h with rfl | h | ⟨v, hv, h⟩
  · exact .inr ⟨1, (fun q => absurd q (by decide)), by omega, by omega⟩
  · exact .inl h
  · obtain ⟨z, r, e, a, b, c, d, f, g, h1, h2⟩ := h
    exact .inr ⟨v, (fun _ => ⟨z, r, e, a, b, c, d, f, g, h1, h2⟩), h1, hv⟩
theorem decN_zeros (z : Nat) (r : List Nat) : decN (List.replicate z 48 ++ r) = decN r := by
  induction z with
  | zero => rfl
  | succ z ih => rw [List.replicate_succ, List.cons_append]; show decN (List.replicate z 48 ++ r) = _; exact ih
theorem GoodSize.val {size : Str} {v : Nat} (h : GoodSize size v) : decN size.cps.toList = v := by
  obtain ⟨z, r, rfl, _, _, _, _, _, e, _⟩ := h
  exact (decN_zeros z r).trans e
theorem GoodSize.ne {size : Str} {v : Nat} (h : GoodSize size v) : (size == Str.ofString "") = false := by
  have e := h.val
  obtain ⟨z, r, rfl, _, h1, _, _, _, _, hv, _⟩ := h
  exact mk_ne_empty (by rw [List.length_append]; omega)
theorem bad_not {size : Str} {v : Nat} (h : SzOk size v) : ([Str.ofString "0", Str.ofString "000", Str.ofString "65537", Str.ofString "123456"].any fun x => x == size) = false := by
  rw [Bool.eq_false_iff]
  intro q
  simp only [List.any_cons, List.any_nil, Bool.or_false, Bool.or_eq_true, beq_iff_eq] at q
  rcases q with rfl | rfl | rfl | rfl
  · have g := h.1 (by decide)
    have e : v = 0 := g.val.symm
    have := h.2.1
    omega
  · have g := h.1 (by decide)
    have e : v = 0 := g.val.symm
    have := h.2.1
    omega
  · have g := h.1 (by decide)
    have e : v = 65537 := g.val.symm
    have := h.2.2
    omega
  · have g := h.1 (by decide)
    have e : v = 123456 := g.val.symm
    have := h.2.2
    omega
theorem bad_in {size : Str} (h : BadSize size) : ([Str.ofString "0", Str.ofString "000", Str.ofString "65537", Str.ofString "123456"].any fun x => x == size) = true := by
  rcases h with rfl | rfl | rfl | rfl <;> decide
theorem int_size {size : Str} {v : Nat} (h : GoodSize size v) : PySem.intText? size = some ((v : Nat) : Int) ∧ size.length ≤ 640 := by
  have e := h.val
  obtain ⟨z, r, rfl, h1, h2, h3, _, hz, _, _⟩ := h
  have hl : (⟨(List.replicate z 48 ++ r).toArray⟩ : Str).length ≤ 640 := by rw [mk_length, List.length_append, List.length_replicate]; omega
  refine ⟨?_, hl⟩
  have := PySem.intText_digits (x := ⟨(List.replicate z 48 ++ r).toArray⟩) (fun c hc => ?_) (by intro q; have q2 : List.replicate z 48 ++ r = [] := q; have q3 := congrArg List.length q2; rw [List.length_append, List.length_nil] at q3; omega) (by omega)
  · rw [this]
    exact congrArg (fun q : Nat => some (q : Int)) e
  · rcases List.mem_append.mp hc with h | h
    · rw [(List.mem_replicate.mp h).2]; omega
    · exact h1 c h
section
variable {prog : Program} {w : World} {A : Around} {E : Value → Shared → Prop} {s : Shared} {t u : Tok} {Q : Value → Shared → Prop}
theorem add_lists {a b : List Nat} (ha : a.length ≤ 1000) (hb : b.length ≤ 1000) (h : ∀ t' k, Q (.str ⟨(a ++ b).toArray⟩ t') { s with toks := k }) : wpAny (model prog w) A (binaryOp .Add (.str ⟨a.toArray⟩ t) (.str ⟨b.toArray⟩ u)) Q E s := by
  refine SBL.add (fun t' tk _ => ?_) (by rw [mk_length, mk_length, sizeLine_eq]; omega)
  rw [cat_mk2]
  exact h t' tk
theorem add_zero {b : List Nat} (hb : b.length ≤ 1000) (h : ∀ t' k, Q (.str ⟨(48 :: b).toArray⟩ t') { s with toks := k }) : wpAny (model prog w) A (binaryOp .Add (.str (Str.ofString "0") t) (.str ⟨b.toArray⟩ u)) Q E s :=
  add_lists (a := [48]) (by simp) hb h
theorem int_rule {size : Str} {v : Nat} (hg : GoodSize size v) (h : Q (.int ((v : Nat) : Int) s.toks) { s with toks := s.toks + 1 }) : wpAny (model prog w) A (call (.type "int") [.str size t]) Q E s :=
  KIN.call_text (int_size hg).1 (int_size hg).2 h
theorem len_any {l : List Nat} (hl : l.length ≤ 1000) (h : Q (.int l.length (s.toks + 1)) { s with toks := s.toks + 1 + 1 }) : wpAny (model prog w) A (call (.builtin "len") [.str ⟨l.toArray⟩ t]) Q E s := len_list hl h
end
theorem law_vector_any (w : World) {X : Str} {ds : List Nat} (e : X = ⟨ds.toArray⟩) (t : Tok) (hdg : ∀ c ∈ ds, DigOk 1 c) (hl : ds.length ≤ 400) (news : List (Addr × Obj)) :
    Con w 160 1 [.str X t] news (RTrip news ds.length (grpN (dlow 1) 1 ds : Nat) (grpN (dhigh 1) 1 ds : Nat)) := by
  subst e
  exact law_vector_con w ds t hdg hl news
inductive P6Due (b size : Str) (sg : Bool) (ds : List Nat) (m : Str → Option Value) (news : List (Addr × Obj)) : Prop
  | mk (sv : Nat) (du v : Addr) (t u q : Tok) (z0 : SzOk size sv) (z1 : m (Str.ofString "due") = some (.ref du)) (z2 : @LT.lt Nat _ v du) (z3 : news = [(du, tupOf [.ref v, .bool sg, .bool (!(size == Str.ofString ""))]), (v, tupOf [.int (dueW b size sg sv ds) t, .int (dueX b size sg sv ds) u, .int (dueY b size sg sv ds) q])])
inductive P6 (L0 : Addr) (m : Str → Option Value) (news : List (Addr × Obj)) : Prop
  | mk (b : Str) (tb : Tok) (size : Str) (ts : Tok) (sg : Bool) (ds : List Nat) (D : Str) (td : Tok) (z1 : m (Str.ofString "base") = some (.str b tb)) (z2 : m (Str.ofString "size") = some (.str size ts)) (z3 : m (Str.ofString "signed") = some (.bool sg)) (z4 : m (Str.ofString "digits") = some (.str D td)) (z5 : D = ⟨ds.toArray⟩) (z6 : (b = Str.ofString "" → size = Str.ofString "" ∧ sg = true)) (z7 : 1 ≤ ds.length) (z8 : ds.length ≤ 40) (z9 : DigsOk b ds) (z10 : ((BadSize size ∧ m (Str.ofString "due") = some .none ∧ news = []) ∨ P6Due b size sg ds m news))
inductive P6a (b : Str) (tb : Tok) (size : Str) (ts : Tok) (sg : Bool) (ds : List Nat) (td : Tok) (L0 : Addr) (m : Str → Option Value) (news0 : List (Addr × Obj)) : Prop
  | mk (z1 : m (Str.ofString "base") = some (.str b tb)) (z2 : m (Str.ofString "size") = some (.str size ts)) (z3 : m (Str.ofString "signed") = some (.bool sg)) (z4 : m (Str.ofString "digits") = some (.str ⟨ds.toArray⟩ td)) (X : Str) (t : Tok) (z5 : m (Str.ofString "bits") = some (.str X t)) (z6 : X = ⟨(dueBits b size sg ds).toArray⟩)
theorem plain_of {b : Str} (h : ([Str.ofString "", Str.ofString "d"].any fun x => x == b) = true) : b = Str.ofString "" ∨ b = Str.ofString "d" := by
  by_cases hb : b = Str.ofString "" ∨ b = Str.ofString "d"
  · exact hb
  · rw [any_not hb] at h; exact absurd h (by decide)
theorem dueBits_yes {b size : Str} {sg : Bool} {ds : List Nat} (h1 : (size == Str.ofString "") = true) (h2 : sg = true) (h3 : ([Str.ofString "", Str.ofString "d"].any fun x => x == b) = true)
    (h4 : ([Str.ofString "x", Str.ofString "z", Str.ofString "?"].any fun x => x == (⟨ds.toArray⟩ : Str)) = false) (hd : DigsOk b ds) : (⟨(48 :: lawBits b ds).toArray⟩ : Str) = ⟨(dueBits b size sg ds).toArray⟩ := by
  have hb := plain_of h3
  have hdg : ∀ c ∈ ds, 48 ≤ c ∧ c ≤ 57 := by
    rcases hd with ⟨_, h⟩ | ⟨_, c, rfl, hc⟩ | ⟨h, _⟩
    · exact h
    · have := any_xz (c := c)
      rw [decide_eq_true hc] at this
      have e : ([Str.ofString "x", Str.ofString "z", Str.ofString "?"].any fun x => x == (⟨#[c]⟩ : Str)) = false := h4
      rw [this] at e
      exact absurd e (by decide)
    · exact absurd hb (grp_not h)
  unfold dueBits
  rw [if_pos ⟨beq_iff_eq.mp h1, h2, hb, hdg⟩]
theorem dueBits_no {b size : Str} {sg : Bool} {ds : List Nat} (hd1 : 1 ≤ ds.length) (h : (size == Str.ofString "") = false ∨ sg = false ∨ ([Str.ofString "", Str.ofString "d"].any fun x => x == b) = false ∨ ([Str.ofString "x", Str.ofString "z", Str.ofString "?"].any fun x => x == (⟨ds.toArray⟩ : Str)) = true) :
    (⟨(lawBits b ds).toArray⟩ : Str) = ⟨(dueBits b size sg ds).toArray⟩ := by
  unfold dueBits
  rw [if_neg]
  rintro ⟨h1, h2, h3, h4⟩
  rcases h with h | h | h | h
  · rw [beq_iff_eq.mpr h1] at h; exact absurd h (by decide)
  · rw [h2] at h; exact absurd h (by decide)
  · rw [any_plain h3] at h; exact absurd h (by decide)
  · rw [any_dig h4 hd1] at h; exact absurd h (by decide)
inductive P6b (b : Str) (tb : Tok) (size : Str) (ts : Tok) (sg : Bool) (sv : Nat) (c : Nat) (r : List Nat) (td : Tok) (L0 : Addr) (m : Str → Option Value) (news0 : List (Addr × Obj)) : Prop
  | mk (z1 : m (Str.ofString "base") = some (.str b tb)) (z2 : m (Str.ofString "size") = some (.str size ts)) (z3 : m (Str.ofString "signed") = some (.bool sg)) (z4 : m (Str.ofString "digits") = some (.str ⟨(c :: r).toArray⟩ td)) (t : Tok) (z5a : m (Str.ofString "bits") = some (.str ⟨(dueBits b size sg (c :: r)).toArray⟩ t)) (W : Int) (t : Tok) (z6a : m (Str.ofString "wide") = some (.int W t)) (z6b : W = (dueW b size sg sv (c :: r) : Nat)) (Y : Str) (t : Tok) (z7 : m (Str.ofString "fill") = some (.str Y t)) (z8 : Y = ⟨#[fillOf c]⟩)
theorem wide_t {b size : Str} {sg : Bool} {sv : Nat} {ds : List Nat} (h : (size == Str.ofString "") = true) : ((max 32 (dueBits b size sg ds).length : Nat) : Int) = (dueW b size sg sv ds : Nat) := by unfold dueW; rw [outW_t h]
theorem wide_f {b size : Str} {sg : Bool} {sv : Nat} {ds : List Nat} (h : (size == Str.ofString "") = false) : ((sv : Nat) : Int) = (dueW b size sg sv ds : Nat) := by unfold dueW; rw [outW_f h]
theorem fill_t {c : Nat} (h : c = 120 ∨ c = 122 ∨ c = 63) : (⟨#[c]⟩ : Str) = ⟨#[fillOf c]⟩ := by unfold fillOf; rw [if_pos h]
theorem fill_f {c : Nat} (h : ¬ (c = 120 ∨ c = 122 ∨ c = 63)) : Str.ofString "0" = ⟨#[fillOf c]⟩ := by unfold fillOf; rw [if_neg h]; rfl
theorem fr_pick7 {h₀ h : Heap} {L : Addr} {m : Str → Option Value} (F : Fr h₀ L h m) {x1 x2 x3 x4 x5 x6 x7 : Str} {v1 v2 v3 v4 v5 v6 v7 : Value} (e1 : m x1 = some v1) (e2 : m x2 = some v2) (e3 : m x3 = some v3) (e4 : m x4 = some v4) (e5 : m x5 = some v5) (e6 : m x6 = some v6) (e7 : m x7 = some v7) :
    Fr h₀ L h (fun y => if y = x1 then some v1 else if y = x2 then some v2 else if y = x3 then some v3 else if y = x4 then some v4 else if y = x5 then some v5 else if y = x6 then some v6 else if y = x7 then some v7 else m y) := by
  refine fr_same F ?_
  funext y
  repeat' split
  all_goals (try subst_vars); simp_all
theorem dueW_le {b size : Str} {sg : Bool} {sv : Nat} {ds : List Nat} (hs : SzOk size sv) (hd : DigsOk b ds) (hl : ds.length ≤ 40) : 1 ≤ dueW b size sg sv ds ∧ dueW b size sg sv ds ≤ 161 := by
  have h := dueBits_len (size := size) (sg := sg) hd hl
  have h1 := hs.2.1
  have h2 := hs.2.2
  unfold dueW outW
  split
  · exact ⟨Nat.le_trans (by decide) (Nat.le_max_left 32 _), Nat.max_le.mpr ⟨by decide, h⟩⟩
  · exact ⟨h1, Nat.le_trans h2 (by decide)⟩
theorem due_con (w : World) {b size : Str} {sg : Bool} {sv : Nat} {c : Nat} {r : List Nat} (hs : SzOk size sv) (hd : DigsOk b (c :: r)) (hl : (c :: r).length ≤ 40) (t : Tok) (news : List (Addr × Obj)) :
    Con w 160 1 [.str ⟨((List.replicate (dueW b size sg sv (c :: r)) (fillOf c) ++ dueBits b size sg (c :: r)).drop (dueBits b size sg (c :: r)).length).toArray⟩ t] news
      (RTrip news (dueW b size sg sv (c :: r) : Nat) (dueX b size sg sv (c :: r) : Nat) (dueY b size sg sv (c :: r) : Nat)) := by
  have hh : ∀ k : Nat, ((c :: r).head? = some k) ↔ c = k := fun k => by simp
  have hx : dueX b size sg sv (c :: r) = padN (dueW b size sg sv (c :: r)) (dueBits b size sg (c :: r)).length (c = 120) (grpN (dlow 1) 1 (dueBits b size sg (c :: r))) := padN_iff (hh 120)
  have hy : dueY b size sg sv (c :: r) = padN (dueW b size sg sv (c :: r)) (dueBits b size sg (c :: r)).length (c = 120 ∨ c = 122 ∨ c = 63) (grpN (dhigh 1) 1 (dueBits b size sg (c :: r))) := padN_iff (by rw [hh, hh, hh])
  have hok := dueBits_ok (size := size) (sg := sg) hd
  have hW := dueW_le (sg := sg) hs hd hl
  have e := law_vector_con w ((List.replicate (dueW b size sg sv (c :: r)) (fillOf c) ++ dueBits b size sg (c :: r)).drop (dueBits b size sg (c :: r)).length) t (due_ok hok) (by rw [due_length rfl]; omega) news
  rw [due_length rfl, due_low rfl hok, due_high rfl, ← hx, ← hy] at e
  exact e
section
variable {prog : Program} {w : World} {A : Around} {E : Value → Shared → Prop} {s : Shared} {t u : Tok} {Q : Value → Shared → Prop}
theorem mul_nat {c n : Nat} (h1 : n ≤ 1000) (h : ∀ t' k, Q (.str ⟨(List.replicate n c).toArray⟩ t') { s with toks := k }) : wpAny (model prog w) A (binaryOp .Mult (.str ⟨#[c]⟩ t) (.int (n : Int) u)) Q E s :=
  mul_rule (Int.natCast_nonneg _) (by omega) fun t' k _ => by rw [Int.toNat_natCast]; exact h t' k
theorem slice_last {value slice : PySem.Expr} {h₀ : Heap} {L : Addr} {m : Str → Option Value} {news : List (Addr × Obj)} {a b : List Nat} {w1 : Nat} {ui : Tok} (hw : 1 ≤ w1) (ha : a.length = w1) (hb : b.length ≤ 1000) (hw2 : w1 ≤ 1000) (hF : Fr h₀ L s.heap m) (hN : News h₀ L s.heap news)
    (h : ∀ h' t' k, Fr h₀ L h' m → News h₀ L h' news → Q (.str ⟨((a ++ b).drop b.length).toArray⟩ t') { s with heap := h', toks := k })
    (hs : subscripted slice false (.str ⟨(a ++ b).toArray⟩ t) (.ref s.heap.objs.size) = operate [.ref s.heap.objs.size, .str ⟨(a ++ b).toArray⟩ t] (getItem (.str ⟨(a ++ b).toArray⟩ t) (.ref s.heap.objs.size)) := by with_unfolding_all rfl)
    (ht : ∀ r, letTemporaryGo value (.str ⟨(a ++ b).toArray⟩ t) r = pure () := by intro _; with_unfolding_all rfl) :
    wpAny (model prog w) A (subscriptTail value slice (.str ⟨(a ++ b).toArray⟩ t) (.ref s.heap.objs.size)) Q E { s with heap := s.heap.push { cls := .type "slice", data := .fields #[.int (-(w1 : Int)) ui, .none, .none] } } := by
  refine slice_strN_sn hF hN (fun h' t' k F' N' => ?_) hs ht (by rw [mk_length, List.length_append, sizeLine_eq]; omega)
  rw [slice_neg hw (k := b.length) (by rw [List.length_append]; omega)]
  exact h h' t' k F' N'
end
theorem end_due {s₀ : Shared} {h₀ h' : Heap} {L p du : Addr} {tk : Nat} {m : Str → Option Value} {news : List (Addr × Obj)} {b size D : Str} {tb ts td t u q : Tok} {sg B : Bool} {sv : Nat} {ds : List Nat} (F : Fr h₀ L h' m)
    (N : News h₀ L h' ((du, tupOf [.ref p, .bool sg, .bool B]) :: (p, tupOf [.int (dueW b size sg sv ds) t, .int (dueX b size sg sv ds) u, .int (dueY b size sg sv ds) q]) :: news))
    (mb : m (Str.ofString "base") = some (.str b tb)) (ms : m (Str.ofString "size") = some (.str size ts)) (mg : m (Str.ofString "signed") = some (.bool sg)) (md : m (Str.ofString "digits") = some (.str D td)) (mdu : m (Str.ofString "due") = some (.ref du))
    (e : D = ⟨ds.toArray⟩) (hB : B = !(size == Str.ofString "")) (lt : @LT.lt Nat _ p du) (hbs : b = Str.ofString "" → size = Str.ofString "" ∧ sg = true) (h1 : 1 ≤ ds.length) (h2 : ds.length ≤ 40) (hd : DigsOk b ds) (hsv : SzOk size sv) :
    CutE s₀ h₀ L P6 .next { s₀ with heap := h', toks := tk } := by
  subst hB
  refine CutE.mk F (Mine.News.sub N fun p hp => ?_) ⟨b, tb, size, ts, sg, ds, D, td, mb, ms, mg, md, e, hbs, h1, h2, hd, .inr ⟨sv, du, p, t, u, q, hsv, mdu, lt, rfl⟩⟩
  simp only [List.mem_cons, List.not_mem_nil, or_false] at hp
  rcases hp with rfl | rfl
  · exact .head _
  · exact .tail _ (.head _)
end Mine
namespace Mine
local macro_rules | `(tactic| walk_at $s:str) => `(tactic| k_extra $s)

/-- a good size, or none -/
def SzG (size : Str) (sv : Nat) : Prop := ((size == Str.ofString "") = false → GoodSize size sv) ∧ sv ≤ 1000
inductive NP1 (nw : List (Addr × Obj)) (b size : Str) (sg : Bool) (ds : List Nat) (c : Nat) (at_ : Int) (ts tb td ta : Tok) (L : Addr) (m : Str → Option Value) (news : List (Addr × Obj)) : Prop
  | mk (z1 : news = nw) (z2 : m (Str.ofString "size") = some (.str size ts)) (z3 : m (Str.ofString "base") = some (.str b tb)) (z4 : m (Str.ofString "signed") = some (.bool sg)) (z5 : m (Str.ofString "digits") = some (.str ⟨ds.toArray⟩ td)) (z6 : m (Str.ofString "at") = some (.int at_ ta)) (t : Tok) (z7a : m (Str.ofString "first") = some (.str ⟨#[c]⟩ t)) (pl : Bool) (z8 : m (Str.ofString "plain") = some (.bool pl)) (z9 : pl = decide (b = Str.ofString "" ∨ b = Str.ofString "d"))
inductive NP2 (nw : List (Addr × Obj)) (size : Str) (sg : Bool) (c : Nat) (at_ : Int) (ts ta : Tok) (W A B : Nat) (L : Addr) (m : Str → Option Value) (news : List (Addr × Obj)) : Prop
  | mk (z1 : news = nw) (z2 : m (Str.ofString "size") = some (.str size ts)) (z3 : m (Str.ofString "signed") = some (.bool sg)) (z4 : m (Str.ofString "at") = some (.int at_ ta)) (t : Tok) (z5a : m (Str.ofString "first") = some (.str ⟨#[c]⟩ t)) (W' : Int) (t : Tok) (z6a : m (Str.ofString "width") = some (.int W' t)) (z6b : W' = (W : Int)) (A' : Int) (t : Tok) (z7a : m (Str.ofString "a") = some (.int A' t)) (z7b : A' = (A : Int)) (B' : Int) (t : Tok) (z8 : m (Str.ofString "b") = some (.int B' t)) (z9 : B' = (B : Int))
theorem plain_t {b : Str} (h : (b == Str.ofString "") = true) : (true : Bool) = decide (b = Str.ofString "" ∨ b = Str.ofString "d") := by rw [decide_eq_true (.inl (beq_iff_eq.mp h))]
theorem plain_t2 {b : Str} (h : (b == Str.ofString "") = true) : (b == Str.ofString "") = decide (b = Str.ofString "" ∨ b = Str.ofString "d") := by rw [h]; exact plain_t h
theorem plain_f {b : Str} (h : (b == Str.ofString "") = false) : (b == Str.ofString "d") = decide (b = Str.ofString "" ∨ b = Str.ofString "d") := by
  have h1 : b ≠ Str.ofString "" := fun z => by rw [z] at h; exact absurd h (by decide)
  by_cases h2 : b = Str.ofString "d"
  · rw [decide_eq_true (.inr h2), beq_iff_eq.mpr h2]
  · rw [decide_eq_false (fun z => z.elim h1 h2), beq_eq_false_iff_ne.mpr h2]
theorem due_plain {b size : Str} {sg : Bool} {ds : List Nat} (hb : b = Str.ofString "" ∨ b = Str.ofString "d") (hdg : ∀ d ∈ ds, 48 ≤ d ∧ d ≤ 57) :
    (dueBits b size sg ds).length = blen (decN ds) + (if sg = true ∧ (size == Str.ofString "") = true then 1 else 0) ∧ grpN (dlow 1) 1 (dueBits b size sg ds) = decN ds ∧ grpN (dhigh 1) 1 (dueBits b size sg ds) = 0 := by
  have el := lawBits_plain hb hdg
  unfold dueBits
  by_cases h : sg = true ∧ (size == Str.ofString "") = true
  · rw [if_pos ⟨beq_iff_eq.mp h.2, h.1, hb, hdg⟩, if_pos h, List.length_cons, el, bitsOf_length, grp_zero (by simp [dlow, hexv]), grp_zero (by simp [dhigh]), low_bitsN, high_bitsN]
    exact ⟨rfl, rfl, rfl⟩
  · rw [if_neg (fun q => h ⟨q.2.1, beq_iff_eq.mpr q.1⟩), if_neg h, el, bitsOf_length, low_bitsN, high_bitsN]
    exact ⟨rfl, rfl, rfl⟩
theorem due_xz {b size : Str} {sg : Bool} {c : Nat} (hb : b = Str.ofString "d") (hc : c = 120 ∨ c = 122 ∨ c = 63) : dueBits b size sg [c] = [c] := by
  unfold dueBits
  rw [if_neg fun q => xz_no hc (q.2.2.2 c (.head _)), lawBits_xz (.inr hb) hc]
theorem due_grp {b size : Str} {sg : Bool} {ds : List Nat} (hn : ¬ (b = Str.ofString "" ∨ b = Str.ofString "d")) : dueBits b size sg ds = ds.flatMap (expand (cntOf b)) := by
  unfold dueBits
  rw [if_neg (fun q => hn q.2.2.1), lawBits_grp hn]
theorem lawLen {b : Str} {ds : List Nat} (hd : DigsOk b ds) (hl : ds.length ≤ 200) (hl4 : (b = Str.ofString "" ∨ b = Str.ofString "d") → ds.length ≤ 40) : (lawBits b ds).length ≤ 800 := by
  rcases hd with ⟨hb, hdg⟩ | ⟨hb, c, rfl, hc⟩ | ⟨hb, hdg⟩
  · rw [lawBits_plain hb hdg, bitsOf_length]; exact Nat.le_trans (blen_dec hdg (hl4 hb)) (by decide)
  · rw [lawBits_xz (.inr hb) hc]; simp
  · rw [lawBits_grp (grp_not hb), flat_length]
    exact Nat.mul_le_mul (cntOf_le b).2 hl
theorem dueLen {b size : Str} {sg : Bool} {ds : List Nat} (hd : DigsOk b ds) (hl : ds.length ≤ 200) (hl4 : (b = Str.ofString "" ∨ b = Str.ofString "d") → ds.length ≤ 40) : (dueBits b size sg ds).length ≤ 1000 := by
  have h := lawLen hd hl hl4
  unfold dueBits
  split
  · rw [List.length_cons]; omega
  · omega
theorem dueLow {b size : Str} {sg : Bool} {ds : List Nat} (hd : DigsOk b ds) : grpN (dlow 1) 1 (dueBits b size sg ds) < 2 ^ (dueBits b size sg ds).length := by
  have h := grpN_lt (f := dlow 1) (k := 1) (dueBits b size sg ds) fun d h => dlow_two (dueBits_ok hd d h)
  rwa [Nat.one_mul] at h
theorem dueHigh {b size : Str} {sg : Bool} {ds : List Nat} : grpN (dhigh 1) 1 (dueBits b size sg ds) < 2 ^ (dueBits b size sg ds).length := by
  have h := grpN_lt (f := dhigh 1) (k := 1) (dueBits b size sg ds) fun d _ => dhigh_two d
  rwa [Nat.one_mul] at h
theorem w_yes {v : Nat} {sg : Bool} {size : Str} (h1 : sg = true) (h2 : (size == Str.ofString "") = true) : ((blen v : Nat) : Int) + 1 = ((blen v + (if sg = true ∧ (size == Str.ofString "") = true then 1 else 0) : Nat) : Int) := by rw [if_pos ⟨h1, h2⟩]; rfl
theorem w_no {v : Nat} {sg : Bool} {size : Str} (h : sg = false ∨ (size == Str.ofString "") = false) : ((blen v : Nat) : Int) = ((blen v + (if sg = true ∧ (size == Str.ofString "") = true then 1 else 0) : Nat) : Int) := by
  rw [if_neg (fun q => by rcases h with h | h <;> rw [h] at q <;> simp at q)]
  rfl
theorem numeral_all (w : World) (v : Addr) (size b : Str) (ts tb td : Tok) (sg : Bool) (c : Nat) (r : List Nat) (at_ : Int) (ta : Tok) (rest : List (Addr × Obj)) (sv : Nat)
    (pb pg : Prop) (hs : BadSize size ∧ pb ∨ SzG size sv ∧ pg) (hdo : DigsOk b (c :: r)) (hl : (c :: r).length ≤ 200) (hl4 : (b = Str.ofString "" ∨ b = Str.ofString "d") → (c :: r).length ≤ 40)
    (mean : ExcName → Option Value) (mg mb : Str → Option Value) (dp un : Nat) (gd : Option (List Code)) (cn : Str) (cs : Scope) (a : Addr) (ccd : Value) (cl : List (Str × Addr)) (outer : List Env) (A₀ : Around) (base h₀ : Heap) (L : Addr) (m : Str → Option Value) (s : Shared)
    (Q E : Value → Shared → Prop) (B : Below A₀ base outer h₀) (F : Fr h₀ L s.heap m) (X : (hd.heap_39 w.params).In h₀) (N : News h₀ L s.heap ((v, tupOf [.str size ts, .str b tb, .bool sg, .str ⟨(c :: r).toArray⟩ td]) :: rest)) (T : Top hd.view_39 loose mean mg mb h₀) (hk : cs.kind = .function) (hdp : dp + 7 < recursionLimit) (hun : un + 8 * 7 < cLine)
    (hgood : pg → ∀ q nx h' tk', Fr h₀ L h' m → News h₀ L h' nx → RNum ((v, tupOf [.str size ts, .str b tb, .bool sg, .str ⟨(c :: r).toArray⟩ td]) :: rest) (dueW b size sg sv (c :: r)) (padN (dueW b size sg sv (c :: r)) (dueBits b size sg (c :: r)).length (c = 120) (grpN (dlow 1) 1 (dueBits b size sg (c :: r)))) (padN (dueW b size sg sv (c :: r)) (dueBits b size sg (c :: r)).length (c = 120 ∨ c = 122 ∨ c = 63) (grpN (dhigh 1) 1 (dueBits b size sg (c :: r)))) sg (!(size == Str.ofString "")) q nx → Q q { s with heap := h', toks := tk' })
    (hbad : pb → ∀ e dx D h' tk' g₂, Fr h₀ L g₂ m → g₂.UpToSlots h' → ExcDict at_ D → RaisedE base (envX cn cs L a ccd cl :: outer) e dx ((dx, D) :: (v, tupOf [.str size ts, .str b tb, .bool sg, .str ⟨(c :: r).toArray⟩ td]) :: rest) h' → (∀ p ∈ (v, tupOf [.str size ts, .str b tb, .bool sg, .str ⟨(c :: r).toArray⟩ td]) :: rest, @LT.lt Nat _ p.1 dx) → E (.ref e) { s with heap := h', toks := tk' }) :
    wpAny (model PySem.Challenge.rw_nn0299_01.row.prog w) (ktrTop dp un gd cn cs L a ccd cl outer) (call (.ref 125) [.ref v, .int at_ ta]) Q E s := by
  k_with_none
  k_with "call builtin:max" => (k_here; (rename Fr _ _ _ _ => F'); (rename News _ _ _ _ => N'); k_dflt (first | refine max_blen (by rfl) F' N' ?_ | refine max_nat (by with_reducible first | exact cast32 | exact cast1 | exact rfl | exact cast_succ _) (by with_reducible first | exact cast32 | exact cast1 | exact rfl | exact cast_succ _) (by rfl) F' N' ?_); intro _ _ _ _ _)
  k_with "subscriptTail Name Constant str int" => (k_here; (with_reducible show wpAny _ _ (subscriptTail _ _ (Value.str _ _) (Value.int _ _)) _ _ _); k_dflt (refine first_rule (by assumption) ?_))
  k_with "call ref" => (k_here; (with_reducible show wpAny _ _ (call (Value.ref 111) _) _ _ _); k_dflt (refine Con.useT (by k_asm) (by k_asm) (by k_asm) (by k_asm) (by k_asm) (by first | exact rfl | assumption) (by first | exact room1 (by assumption) (by exact rfl) | ktr_room) (by first | exact room1 (by assumption) (by exact rfl) | ktr_units) (grouped_con _ _ _ _ _ (by assumption) (by omega) _) ?_; k_whole; intro p9 t9 u9 v9 h9 tk9 F9 N9 l9; (try dsimp only); (try k_fold)))
  k_with "call ref" => (k_here; (with_reducible show wpAny _ _ (call (Value.ref 90) _) _ _ _); k_dflt (refine Con.useI (by k_asm) (by k_asm) (by k_asm) (by k_asm) (by k_asm) (by first | exact rfl | assumption) (by first | exact room1 (by assumption) (by exact rfl) | ktr_room) (by first | exact room1 (by assumption) (by exact rfl) | ktr_units) (decimal_value_con _ _ _ (by assumption) _) ?_; k_whole; intro t9 h9 tk9 F9 N9; (try dsimp only); (try k_fold)))
  k_with "call ref" => (k_here; (with_reducible show wpAny _ _ (call (Value.ref 97) _) _ _ _); k_dflt (refine Con.useI (by k_asm) (by k_asm) (by k_asm) (by k_asm) (by k_asm) (by first | exact rfl | assumption) (by first | exact room1 (by assumption) (by exact rfl) | ktr_room) (by first | exact room1 (by assumption) (by exact rfl) | ktr_units) (size_con _ (hsize_of (by assumption) (by assumption)) _ _ _ _) ?_; k_whole; intro t9 h9 tk9 F9 N9; (try dsimp only); (try k_fold)))
  k_with "call ref" => (k_here; (with_reducible show wpAny _ _ (call (Value.ref 118) _) _ _ _); k_dflt (refine Con.useT (by k_asm) (by k_asm) (by k_asm) (by k_asm) (by k_asm) (by first | exact rfl | assumption) (by first | exact room1 (by assumption) (by exact rfl) | ktr_room) (by first | exact room1 (by assumption) (by exact rfl) | ktr_units) (padded_con _ _ _ _ _ _ _ (by with_reducible exact rfl) (by with_reducible exact rfl) (by with_reducible exact rfl) (by with_reducible exact rfl) (by omega) (by omega) (by assumption) (by assumption)) ?_; k_whole; intro p9 t9 u9 v9 h9 tk9 F9 N9 l9; (try dsimp only); (try k_fold)))
  k_with "call ref" => (k_here; (with_reducible show wpAny _ _ (call (Value.ref 97) _) _ _ _); k_dflt (refine ConE.use2 (by k_asm) (by k_asm) (by k_asm) (by k_asm) (by k_asm) (by first | exact rfl | assumption) (by first | exact room1 (by assumption) (by exact rfl) | ktr_room) (by first | exact room1 (by assumption) (by exact rfl) | ktr_units) (size_bad _ (by assumption) _ _ _ _) ?_; k_whole; intro e9 dx9 D9 h9 tk9 g9 F9 U9 hD9 R9 l9; (try dsimp only); (try k_fold)))
  k_with "leaving ref" => (k_here; k_dflt (refine leaveE_next2 (by assumption) (by assumption) (by assumption) (by assumption) ?_); k_whole; intro h' R' U'; (try dsimp only at R' U' ⊢))
  refine wpAny_call ?_; k_dflt (refine' code_def ?k1 ?k2 ?k3 ?k4 ?k5 ?kA ?kF ?kK ?k6 ?k7 ?k8 ?k9 ?kB ?_ ?c2 ?c3 ?c4 ?c5; (case kA => exact rfl); (case kF => exact rfl); (case kK => assumption); (case k1 => k_asm); (case k2 => k_asm); (case k3 => k_asm); (case k4 => k_asm); (case k5 => k_asm); (case k6 => k_is); (case k7 => k_is); (case k8 => first | exact room0 (by assumption) | ktr_room); (case k9 => first | exact BindsTo.of_eq rfl | exact binds_K (by k_in) rfl (by k_is) rfl rfl rfl); (case c5 => decide); (case kB => exact locs rfl); (case c2 => exact rfl); (case c3 => exact rfl); (case c4 => exact rfl); k_whole; intro g' L' h' FG' F' N' B' X' T'; (try dsimp only); (try k_fold))
  have hl2 : (c :: r).length ≤ 1000 := by omega
  have hlx := mk_length (c :: r)
  (rename Fr _ _ _ _ => F1)
  refine @execs_cut _ _ _ _ _ _ _ _ _ _ _ _ 4 (NP1 ((v, tupOf [.str size ts, .str b tb, .bool sg, .str ⟨(c :: r).toArray⟩ td]) :: rest) b size sg (c :: r) c at_ ts tb td ta) F1 rfl rfl ?_ ?_
  · dsimp only [List.take]
    clear hgood hbad
    k_steps
    all_goals refine CutE.mk (by assumption) (Mine.News.sub (by assumption) (news' := (v, tupOf [.str size ts, .str b tb, .bool sg, .str ⟨(c :: r).toArray⟩ td]) :: rest) (by intro p hp; simp [hp])) ⟨rfl, by with_unfolding_all rfl, by with_unfolding_all rfl, by with_unfolding_all rfl, by with_unfolding_all rfl, by with_unfolding_all rfl, _, by with_unfolding_all rfl, _, by with_unfolding_all rfl, ?_⟩
    all_goals first
      | exact plain_t (by assumption)
      | exact plain_t2 (by assumption)
      | exact plain_f (by assumption)
  · clear F1
    intro h1 tk1 m1 news1 F1 N1 hP
    obtain ⟨rfl, ms, mb, mg, md, ma, tf, mf, pl, mp, ep⟩ := hP
    dsimp only [List.drop]
    refine @execs_cut _ _ _ _ _ _ _ _ _ _ _ _ 1 (NP2 ((v, tupOf [.str size ts, .str b tb, .bool sg, .str ⟨(c :: r).toArray⟩ td]) :: rest) size sg c at_ ts ta (dueBits b size sg (c :: r)).length (grpN (dlow 1) 1 (dueBits b size sg (c :: r))) (grpN (dhigh 1) 1 (dueBits b size sg (c :: r)))) F1 rfl rfl ?_ ?_
    · dsimp only [List.take]
      clear hgood hbad
      replace F1 := fr_pick7 F1 ms mb mg md ma mf mp
      clear ms mb mg md ma mf mp
      rcases hdo with ⟨hb, hdg⟩ | ⟨hb, c', e, hc⟩ | ⟨hb, hdg⟩
      · have ep2 : pl = true := by rw [ep]; exact decide_eq_true hb
        subst ep2
        have hl40 := hl4 hb
        have hbl := blen_dec hdg hl40
        have hc := hdg c (by simp)
        have hxz := any_xz (c := c)
        rw [decide_eq_false fun q => xz_no q hc] at hxz
        obtain ⟨e1, e2, e3⟩ := due_plain (size := size) (sg := sg) hb hdg
        rw [e1, e2, e3]
        k_steps
        all_goals refine CutE.mk (by assumption) (Mine.News.sub (by assumption) (news' := (v, tupOf [.str size ts, .str b tb, .bool sg, .str ⟨(c :: r).toArray⟩ td]) :: rest) (by intro p hp; simp [hp])) ⟨rfl, by with_unfolding_all rfl, by with_unfolding_all rfl, by with_unfolding_all rfl, _, by with_unfolding_all rfl, _, _, by with_unfolding_all rfl, ?_, _, _, by with_unfolding_all rfl, ?_, _, _, by with_unfolding_all rfl, ?_⟩
        all_goals first
          | exact rfl
          | exact w_yes (by assumption) (by assumption)
          | exact w_no (.inl (by assumption))
          | exact w_no (.inr (by assumption))
      · have ep2 : pl = true := by rw [ep]; exact decide_eq_true (.inr hb)
        subst ep2
        obtain ⟨rfl, rfl⟩ : c = c' ∧ r = [] := by simpa using e
        have hd1 : ∀ d ∈ [c], DigOk (cntOf (Str.ofString "b")) d := by
          intro d hd
          rw [List.mem_singleton.mp hd]
          exact DigOk.x hc
        have hxz := any_xz (c := c)
        rw [decide_eq_true hc] at hxz
        rw [due_xz hb hc]
        k_steps
        all_goals refine CutE.mk (by assumption) (Mine.News.sub (by assumption) (news' := (v, tupOf [.str size ts, .str b tb, .bool sg, .str ⟨[c].toArray⟩ td]) :: rest) (by intro p hp; simp [hp])) ⟨rfl, by with_unfolding_all rfl, by with_unfolding_all rfl, by with_unfolding_all rfl, _, by with_unfolding_all rfl, _, _, by with_unfolding_all rfl, ?_, _, _, by with_unfolding_all rfl, ?_, _, _, by with_unfolding_all rfl, ?_⟩
        all_goals exact rfl
      · have hn := grp_not hb
        have ep2 : pl = false := by rw [ep]; exact decide_eq_false hn
        subst ep2
        rw [due_grp hn]
        k_steps
        all_goals refine CutE.mk (by assumption) (Mine.News.sub (by assumption) (news' := (v, tupOf [.str size ts, .str b tb, .bool sg, .str ⟨(c :: r).toArray⟩ td]) :: rest) (by intro p hp; simp [hp])) ⟨rfl, by with_unfolding_all rfl, by with_unfolding_all rfl, by with_unfolding_all rfl, _, by with_unfolding_all rfl, _, _, by with_unfolding_all rfl, ?_, _, _, by with_unfolding_all rfl, ?_, _, _, by with_unfolding_all rfl, ?_⟩
        · rw [flat_length]
        · rw [low_flat hdg]
        · rw [high_flat]
    · clear F1 N1
      intro h2 tk2 m2 news2 F2 N2 hP2
      obtain ⟨rfl, ns, ng, na, tf2, nf, W', tw, nw, eW, A', tA, nA, eA, B', tB, nB, eB⟩ := hP2
      subst eW; subst eA; subst eB
      dsimp only [List.drop]
      replace F2 := fr_pick7 F2 ns ng na nf nw nA nB
      clear ns ng na nf nw nA nB ms mb mg md ma mf mp hl2 hlx ep
      unfold dueW at hgood
      have hW := dueLen (size := size) (sg := sg) hdo hl hl4
      have hA := dueLow (size := size) (sg := sg) hdo
      have hB := dueHigh (b := b) (size := size) (sg := sg) (ds := c :: r)
      generalize (dueBits b size sg (c :: r)).length = W at *
      generalize grpN (dlow 1) 1 (dueBits b size sg (c :: r)) = A at *
      generalize grpN (dhigh 1) 1 (dueBits b size sg (c :: r)) = B9 at *
      rcases hs with ⟨hs, hp⟩ | ⟨hs, hp⟩
      · have hne := hs.ne
        replace hbad := hbad hp
        clear hgood
        k_steps
        all_goals exact bad_end hbad (by assumption) (by assumption) (by assumption) (by assumption) (by assumption) (by intro p hp; simp [hp])
      · replace hgood := hgood hp
        clear hbad
        have hsz := hs.1
        have hsv := hs.2
        k_steps
        all_goals ((rename News h₀ _ _ _ => nE'); (refine num_end hgood (by assumption) nE' (by intro p hp; simp [hp]) ?_ ?_ ?_ ?_ ?_ ?_))
        all_goals first
          | omega
          | assumption
          | (rename (size == Str.ofString "") = true => hq; rw [outW_t hq])
          | (rename (size == Str.ofString "") = false => hq; rw [outW_f hq])
          | (rename (size == Str.ofString "") = true => hq; rw [hq]; rfl)
          | (rename (size == Str.ofString "") = false => hq; rw [hq]; rfl)
          | (rename (size == Str.ofString "") = true => hq; rw [show size = Str.ofString "" from beq_iff_eq.mp hq]; decide)
          | (rename (size == Str.ofString "") = false => hq; simp [hq, bne])
theorem numeral_con (w : World) (v : Addr) (size b : Str) (ts tb td : Tok) (sg : Bool) (c : Nat) (r : List Nat) (at_ : Int) (ta : Tok) (rest : List (Addr × Obj)) (sv : Nat)
    (hs : SzG size sv) (hdo : DigsOk b (c :: r)) (hl : (c :: r).length ≤ 200) (hl4 : (b = Str.ofString "" ∨ b = Str.ofString "d") → (c :: r).length ≤ 40) :
    Con w 125 7 [.ref v, .int at_ ta] ((v, tupOf [.str size ts, .str b tb, .bool sg, .str ⟨(c :: r).toArray⟩ td]) :: rest)
      (RNum ((v, tupOf [.str size ts, .str b tb, .bool sg, .str ⟨(c :: r).toArray⟩ td]) :: rest) (dueW b size sg sv (c :: r)) (padN (dueW b size sg sv (c :: r)) (dueBits b size sg (c :: r)).length (c = 120) (grpN (dlow 1) 1 (dueBits b size sg (c :: r)))) (padN (dueW b size sg sv (c :: r)) (dueBits b size sg (c :: r)).length (c = 120 ∨ c = 122 ∨ c = 63) (grpN (dhigh 1) 1 (dueBits b size sg (c :: r)))) sg (!(size == Str.ofString ""))) :=
  fun mean mg mb dp un gd cn cs a ccd cl outer A₀ base h₀ L m s Q E B F X N T hk hdp hun hret =>
    numeral_all w v size b ts tb td sg c r at_ ta rest sv False True (.inr ⟨hs, trivial⟩) hdo hl hl4 mean mg mb dp un gd cn cs a ccd cl outer A₀ base h₀ L m s Q E B F X N T hk hdp hun (fun _ => hret) fun h => h.elim
theorem numeral_any (w : World) (v : Addr) (size b : Str) (ts tb td : Tok) (sg : Bool) (ds : List Nat) (at_ : Int) (ta : Tok) (rest : List (Addr × Obj)) (sv : Nat)
    (hsz : (size == Str.ofString "") = false → GoodSize size sv) (hsv : sv ≤ 1000) (hd : DigsOk b ds) (h1 : 1 ≤ ds.length) (hl : ds.length ≤ 40) :
    Con w 125 7 [.ref v, .int at_ ta] ((v, tupOf [.str size ts, .str b tb, .bool sg, .str ⟨ds.toArray⟩ td]) :: rest)
      (RNum ((v, tupOf [.str size ts, .str b tb, .bool sg, .str ⟨ds.toArray⟩ td]) :: rest) (dueW b size sg sv ds) (dueX b size sg sv ds) (dueY b size sg sv ds) sg (!(size == Str.ofString ""))) := by
  cases ds with
  | nil => simp at h1
  | cons c r =>
    have hh : ∀ k : Nat, ((c :: r).head? = some k) ↔ c = k := fun k => by simp
    have hx : dueX b size sg sv (c :: r) = padN (dueW b size sg sv (c :: r)) (dueBits b size sg (c :: r)).length (c = 120) (grpN (dlow 1) 1 (dueBits b size sg (c :: r))) := padN_iff (hh 120)
    have hy : dueY b size sg sv (c :: r) = padN (dueW b size sg sv (c :: r)) (dueBits b size sg (c :: r)).length (c = 120 ∨ c = 122 ∨ c = 63) (grpN (dhigh 1) 1 (dueBits b size sg (c :: r))) := padN_iff (by rw [hh, hh, hh])
    rw [hx, hy]
    exact numeral_con w v size b ts tb td sg c r at_ ta rest sv ⟨hsz, hsv⟩ hd (Nat.le_trans hl (by decide)) fun _ => hl
theorem numeral_bad (w : World) (v : Addr) (size b : Str) (ts tb td : Tok) (sg : Bool) (ds : List Nat) (at_ : Int) (ta : Tok) (rest : List (Addr × Obj))
    (hbad : BadSize size) (_ : b = Str.ofString "" → size = Str.ofString "" ∧ sg = true) (hd : DigsOk b ds) (h1 : 1 ≤ ds.length) (hl : ds.length ≤ 40) :
    ConE w 125 7 [.ref v, .int at_ ta] ((v, tupOf [.str size ts, .str b tb, .bool sg, .str ⟨ds.toArray⟩ td]) :: rest) at_ := by
  cases ds with
  | nil => simp at h1
  | cons c r =>
    exact fun mean mg mb dp un gd cn cs a ccd cl outer A₀ base h₀ L m s Q E B F X N T hk hdp hun hret =>
      numeral_all w v size b ts tb td sg c r at_ ta rest 0 True False (.inl ⟨hbad, trivial⟩) hd (Nat.le_trans hl (by decide)) (fun _ => hl) mean mg mb dp un gd cn cs a ccd cl outer A₀ base h₀ L m s Q E B F X N T hk hdp hun (fun h => h.elim) fun _ => hret
end Mine
namespace Mine
local macro_rules | `(tactic| walk_at $s:str) => `(tactic| k_extra $s)

theorem numeral_text_any (w : World) (v : Addr) (n : Nat) (t : Tok) (x : Nat) (t2 : Tok) (y : Nat) (t3 : Tok) (sg sz : Bool) (news : List (Addr × Obj)) (hv : (v, tupOf [.int n t, .int x t2, .int y t3]) ∈ news) (hn : n ≤ 1000) (hx : x < 2 ^ 1000) :
    Con w 132 3 [.ref v, .bool sg, .bool sz] news (RStr news (numText n x y sg sz)) := by
  unfold Con
  intro mean mg mb dp un gd cn cs a ccd cl outer A₀ base h₀ L m s Q E B F X N T hk hdp hun hret
  refine Con.use (numeral_text_con w v n t x t2 y t3 sg sz news hn hx) B F X (fun p hp => ?_) T hk hdp hun fun r nx h' tk' F' N' hr => ?_
  · rcases List.mem_cons.mp hp with rfl | hp
    · exact N _ hv
    · exact N _ hp
  · obtain ⟨rfl, t, rfl⟩ := hr
    exact hret _ _ _ _ F' (news_drop1 N') ⟨rfl, t, rfl⟩
theorem dueX_lt {b size : Str} {sg : Bool} {sv : Nat} {ds : List Nat} (hs : SzOk size sv) (hd : DigsOk b ds) (hl : ds.length ≤ 40) : dueX b size sg sv ds < 2 ^ dueW b size sg sv ds ∧ dueX b size sg sv ds < 2 ^ 1000 := by
  have h1 : dueX b size sg sv ds < 2 ^ dueW b size sg sv ds := padN_lt
  have h2 := dueW_le (sg := sg) hs hd hl
  exact ⟨h1, Nat.lt_of_lt_of_le h1 (Nat.pow_le_pow_right (by decide) (by omega))⟩
theorem dueY_lt {b size : Str} {sg : Bool} {sv : Nat} {ds : List Nat} : dueY b size sg sv ds < 2 ^ dueW b size sg sv ds := padN_lt
inductive P7 (n x y : Nat) (sg sz : Bool) (du dv : Addr) (t1 t2 t3 : Tok) (L0 : Addr) (m : Str → Option Value) (news : List (Addr × Obj)) : Prop
  | mk (z1 : m (Str.ofString "due") = some (.ref du)) (X : Str) (t : Tok) (z2a : m (Str.ofString "text") = some (.str X t)) (z2b : X = numText n x y sg sz) (z3 : news = [(du, tupOf [.ref dv, .bool sg, .bool sz]), (dv, tupOf [.int n t1, .int x t2, .int y t3])])
end Mine
namespace Mine
local macro_rules | `(tactic| walk_at $s:str) => `(tactic| k_extra $s)

/-- behind the tick -/
def tlOf (sg : Bool) (n x y : Nat) : List Nat := if sg = true then 115 :: 98 :: bitsOf n x y else 98 :: bitsOf n x y
theorem sgn_in (x y i : Nat) : sgn x y i = 48 ∨ sgn x y i = 49 ∨ sgn x y i = 122 ∨ sgn x y i = 120 := by
  unfold sgn
  repeat' split
  all_goals simp
theorem bits_no {n x y c : Nat} (h : c ≠ 48 ∧ c ≠ 49 ∧ c ≠ 122 ∧ c ≠ 120) : c ∉ bitsOf n x y := by
  intro hc
  obtain ⟨j, _, e⟩ := List.mem_map.mp hc
  exact (sgn_in x y (n - 1 - j)).elim (fun q => h.1 (e.symm.trans q)) fun q => q.elim (fun q => h.2.1 (e.symm.trans q)) fun q => q.elim (fun q => h.2.2.1 (e.symm.trans q)) fun q => h.2.2.2 (e.symm.trans q)
theorem tl_no {sg : Bool} {n x y : Nat} : 39 ∉ tlOf sg n x y := by
  have h : 39 ∉ bitsOf n x y := bits_no (by decide)
  unfold tlOf
  split
  · simp [h]
  · simp [h]
theorem ofs_mk (l : List Nat) : (⟨#[]⟩ : Str) ++ ⟨l.toArray⟩ = ⟨l.toArray⟩ := by
  have := cat_mk2 [] l
  simpa using this
theorem dec_no {r : List Nat} {n : Nat} (h : DecText r n) : 39 ∉ r := fun hm => by have := h.1 39 hm; omega
theorem dec_head {n : Nat} (h1 : 1 ≤ n) (h2 : n ≤ 75) : ∃ r : List Nat, Str.ofString (toString (n : Int)) = ⟨r.toArray⟩ ∧ 39 ∉ r ∧ r.length ≤ 10 ∧ SzOk ⟨r.toArray⟩ n ∧ ((⟨r.toArray⟩ : Str) == Str.ofString "") = false := by
  obtain ⟨r, e, a, b, c, d, f⟩ := digs_ok h1 h2
  refine ⟨r, e, fun hm => by have := a 39 hm; omega, by omega, ⟨fun _ => ⟨0, r, rfl, a, b, c, d, by omega, f, h1, by omega⟩, h1, h2⟩, mk_ne_empty b⟩
theorem text_cases {n x y : Nat} {sg sz : Bool} (h1 : 1 ≤ n) (ht : sz = true → n ≤ 75) (hf : sz = false → 32 ≤ n) :
    (∃ r : List Nat, numText n x y sg sz = ⟨r.toArray⟩ ∧ DecText r x ∧ n = 32 ∧ y = 0 ∧ x < 2 ^ 31 ∧ sg = true ∧ sz = false) ∨
    ∃ (fr : List Nat) (sv : Nat), numText n x y sg sz = ⟨(fr ++ 39 :: tlOf sg n x y).toArray⟩ ∧ 39 ∉ fr ∧ fr.length ≤ 10 ∧ SzOk ⟨fr.toArray⟩ sv ∧ (!((⟨fr.toArray⟩ : Str) == Str.ofString "")) = sz ∧ outW ⟨fr.toArray⟩ sv n = n := by
  have mid : ∀ fr : List Nat, (⟨fr.toArray⟩ : Str) ++ (if sg = true then Str.ofString "'sb" else Str.ofString "'b") ++ ⟨(bitsOf n x y).toArray⟩ = ⟨(fr ++ 39 :: tlOf sg n x y).toArray⟩ := by
    intro fr
    unfold tlOf
    cases sg
    · rw [if_neg (by decide), if_neg (by decide)]
      rw [show Str.ofString "'b" = ⟨([39, 98] : List Nat).toArray⟩ from rfl, cat_mk2, cat_mk2]
      simp
    · rw [if_pos rfl, if_pos rfl]
      rw [show Str.ofString "'sb" = ⟨([39, 115, 98] : List Nat).toArray⟩ from rfl, cat_mk2, cat_mk2]
      simp
  by_cases hp : sz = false ∧ sg = true ∧ n = 32 ∧ y = 0 ∧ x < 2 ^ 31
  · obtain ⟨r, e, hr⟩ := dec_text (n := x) (by omega)
    refine .inl ⟨r, ?_, hr, hp.2.2.1, hp.2.2.2.1, hp.2.2.2.2, hp.2.1, hp.1⟩
    unfold numText
    rw [if_pos hp]
    exact e
  · refine .inr ?_
    unfold numText
    rw [if_neg hp]
    cases sz
    · refine ⟨[], 1, ?_, by simp, by simp, ⟨fun q => absurd q (by decide), by omega, by omega⟩, by decide, ?_⟩
      · rw [if_neg (by decide)]
        exact mid []
      · have := hf rfl
        unfold outW
        rw [if_pos (by decide)]
        omega
    · obtain ⟨r, e, a, b, c, d⟩ := dec_head h1 (ht rfl)
      refine ⟨r, n, ?_, a, b, c, by rw [d]; rfl, ?_⟩
      · rw [if_pos rfl, e]
        exact mid r
      · unfold outW
        rw [if_neg (by rw [d]; decide)]
theorem bits_cons {n x y : Nat} (h : 1 ≤ n) : ∃ c r, bitsOf n x y = c :: r := by
  cases e : bitsOf n x y with
  | nil =>
    have := bitsOf_length n x y
    rw [e] at this
    simp at this
    omega
  | cons c r => exact ⟨c, r, rfl⟩
theorem back_bits (w : World) (v : Addr) (ts tb td : Tok) (fr : List Nat) (n x y : Nat) (sg sz : Bool) (at_ : Int) (ta : Tok) (rest : List (Addr × Obj)) (sv : Nat) (h1 : 1 ≤ n) (h2 : n ≤ 200) (hx : x < 2 ^ n) (hy : y < 2 ^ n)
    (hs : SzOk ⟨fr.toArray⟩ sv) (hz : (!((⟨fr.toArray⟩ : Str) == Str.ofString "")) = sz) (hW : outW ⟨fr.toArray⟩ sv n = n) :
    Con w 125 7 [.ref v, .int at_ ta] ((v, tupOf [.str ⟨fr.toArray⟩ ts, .str ⟨#[98]⟩ tb, .bool sg, .str ⟨(bitsOf n x y).toArray⟩ td]) :: rest)
      (RNum ((v, tupOf [.str ⟨fr.toArray⟩ ts, .str ⟨#[98]⟩ tb, .bool sg, .str ⟨(bitsOf n x y).toArray⟩ td]) :: rest) n x y sg sz) := by
  obtain ⟨c, r, e⟩ := bits_cons (n := n) (x := x) (y := y) h1
  have hlen := bitsOf_length n x y
  have hlo := low_bits n x y
  have hhi := high_bits n x y
  have hok := bitsOf_ok n x y
  rw [e] at hlen hlo hhi hok ⊢
  have g := numeral_con w v ⟨fr.toArray⟩ (Str.ofString "b") ts tb td sg c r at_ ta rest sv ⟨hs.1, Nat.le_trans hs.2.2 (by decide)⟩ (.inr (.inr ⟨.inl rfl, hok⟩)) (by rw [hlen]; exact h2) fun q => absurd q (grp_not (.inl rfl))
  have eb : dueBits (Str.ofString "b") ⟨fr.toArray⟩ sg (c :: r) = (c :: r).flatMap (expand 1) := due_grp (grp_not (.inl rfl))
  have eW : dueW (Str.ofString "b") ⟨fr.toArray⟩ sg sv (c :: r) = n := by
    unfold dueW
    rw [eb, flat_length, hlen, Nat.one_mul, hW]
  rw [eW, eb, flat_length, hlen, Nat.one_mul, low_flat hok, high_flat, show (2 ^ 1 - 1 : Nat) = 1 from rfl, hlo, hhi, Nat.mod_eq_of_lt hx, Nat.mod_eq_of_lt hy, padN_same hx, padN_same hy, hz] at g
  exact g
theorem back_plain (w : World) (v : Addr) (ts tb td : Tok) (r : List Nat) (n x y : Nat) (sg sz : Bool) (at_ : Int) (ta : Tok) (rest : List (Addr × Obj)) (hr : DecText r x) (hn : n = 32) (hy : y = 0) (hx : x < 2 ^ 31) (hg : sg = true) (hz : sz = false) :
    Con w 125 7 [.ref v, .int at_ ta] ((v, tupOf [.str (Str.ofString "") ts, .str (Str.ofString "") tb, .bool true, .str ⟨r.toArray⟩ td]) :: rest)
      (RNum ((v, tupOf [.str (Str.ofString "") ts, .str (Str.ofString "") tb, .bool true, .str ⟨r.toArray⟩ td]) :: rest) n x y sg sz) := by
  subst hn; subst hy; subst hg; subst hz
  obtain ⟨h1, h2, h3, h4⟩ := hr
  cases r with
  | nil => simp at h2
  | cons c r =>
    have hc := h1 c (.head _)
    have hl : (c :: r).length ≤ 40 := Nat.le_trans h3 (by decide)
    have g := numeral_con w v (Str.ofString "") (Str.ofString "") ts tb td true c r at_ ta rest 1 ⟨fun q => absurd q (by decide), by decide⟩ (.inl ⟨.inl rfl, h1⟩) (Nat.le_trans hl (by decide)) fun _ => hl
    have hb : blen x ≤ 31 := blen_le hx (by decide)
    obtain ⟨e1, e2, e3⟩ := due_plain (b := Str.ofString "") (size := Str.ofString "") (sg := true) (.inl rfl) h1
    rw [if_pos ⟨rfl, by decide⟩, h4] at e1
    have eW : dueW (Str.ofString "") (Str.ofString "") true 1 (c :: r) = 32 := by
      unfold dueW outW
      rw [if_pos (by decide), e1]
      exact Nat.max_eq_left (Nat.succ_le_succ hb)
    rw [eW, e1, e2, e3, h4, padN_no (by omega), padN_no (by omega), Nat.zero_mod, Nat.mod_eq_of_lt (Nat.lt_of_lt_of_le hx (by decide))] at g
    exact g
section
variable {prog : Program} {w : World} {A : Around} {E : Value → Shared → Prop} {s : Shared} {t u : Tok} {Q : Value → Shared → Prop}
theorem tick_in {l : List Nat} (h : 39 ∈ l) (hq : Q (.bool false) s) : wpAny (model prog w) A (compareOp .NotIn (.str (Str.ofString "'") u) (.str ⟨l.toArray⟩ t)) Q E s := by
  refine notIn_str ?_
  rw [show Str.ofString "'" = ⟨#[39]⟩ from rfl, StrLaws.found_one, decide_eq_true (show 39 ∈ (⟨l.toArray⟩ : Str).cps.toList from h)]
  exact hq
theorem tick_no {l : List Nat} (h : 39 ∉ l) (hq : Q (.bool true) s) : wpAny (model prog w) A (compareOp .NotIn (.str (Str.ofString "'") u) (.str ⟨l.toArray⟩ t)) Q E s := by
  refine notIn_str ?_
  rw [show Str.ofString "'" = ⟨#[39]⟩ from rfl, StrLaws.found_one, decide_eq_false (show ¬ 39 ∈ (⟨l.toArray⟩ : Str).cps.toList from h)]
  exact hq
theorem split_rule {h₀ : Heap} {L : Addr} {m : Str → Option Value} {news : List (Addr × Obj)} {fr tl : List Nat} (hF : Fr h₀ L s.heap m) (hN : News h₀ L s.heap news) (ha : 39 ∉ fr) (hb : 39 ∉ tl) (l1 : fr.length ≤ 1000) (l2 : tl.length ≤ 1000)
    (h : ∀ D t1 t2 h' k, Fr h₀ L h' m → News h₀ L h' ((D, W.listOf #[.str ⟨fr.toArray⟩ t1, .str ⟨tl.toArray⟩ t2] 0) :: news) → (∀ p ∈ news, p.1 < D) → Q (.ref D) { s with heap := h', toks := k }) :
    wpAny (model prog w) A (call (.builtin "str.split") [.str ⟨(fr ++ 39 :: tl).toArray⟩ t, .str (Str.ofString "'") u]) Q E s := by
  refine KSpl.split1 hF hN (by decide) (fun D l h' k e _ F' N' lt => ?_) (by rw [mk_length, List.length_append, List.length_cons, sizeLine_eq]; omega)
  rw [show Str.ofString "'" = ⟨#[39]⟩ from rfl, split_two ha hb] at e
  obtain ⟨t1, l', rfl, e2⟩ := KSpl.cons_of e
  obtain ⟨t2, l'', rfl, e3⟩ := KSpl.cons_of e2
  have e4 := KSpl.nil_of e3
  subst e4
  exact h D t1 t2 h' k F' N' lt
theorem slice_one {value slice : PySem.Expr} {h₀ : Heap} {L : Addr} {m : Str → Option Value} {news : List (Addr × Obj)} {c : Nat} {r : List Nat} {ui : Tok} (hb : r.length ≤ 1000) (hF : Fr h₀ L s.heap m) (hN : News h₀ L s.heap news)
    (h : ∀ h' t' k, Fr h₀ L h' m → News h₀ L h' news → Q (.str ⟨r.toArray⟩ t') { s with heap := h', toks := k })
    (hs : subscripted slice false (.str ⟨(c :: r).toArray⟩ t) (.ref s.heap.objs.size) = operate [.ref s.heap.objs.size, .str ⟨(c :: r).toArray⟩ t] (getItem (.str ⟨(c :: r).toArray⟩ t) (.ref s.heap.objs.size)) := by with_unfolding_all rfl)
    (ht : ∀ q, letTemporaryGo value (.str ⟨(c :: r).toArray⟩ t) q = pure () := by intro _; with_unfolding_all rfl) :
    wpAny (model prog w) A (subscriptTail value slice (.str ⟨(c :: r).toArray⟩ t) (.ref s.heap.objs.size)) Q E { s with heap := s.heap.push { cls := .type "slice", data := .fields #[.int 1 ui, .none, .none] } } := by
  refine slice_strN_sn hF hN (fun h' t' k F' N' => ?_) hs ht (by rw [mk_length, List.length_cons, sizeLine_eq]; omega)
  have e : Txt.slice ⟨(c :: r).toArray⟩ (some 1) none = ⟨r.toArray⟩ := slice_pos (l := c :: r) (k := 1) (by simp)
  rw [e]
  exact h h' t' k F' N'
theorem eq_s_t (hq : Q (.bool true) s) : wpAny (model prog w) A (compareOp .Eq (.str ⟨#[115]⟩ u) (.str (Str.ofString "s") t)) Q E s := eq_str (by rw [show ((⟨#[115]⟩ : Str) == Str.ofString "s") = true from by decide]; exact hq)
theorem eq_s_f (hq : Q (.bool false) s) : wpAny (model prog w) A (compareOp .Eq (.str ⟨#[98]⟩ u) (.str (Str.ofString "s") t)) Q E s := eq_str (by rw [show ((⟨#[98]⟩ : Str) == Str.ofString "s") = false from by decide]; exact hq)
end
theorem fr_pick2 {h₀ h : Heap} {L : Addr} {m : Str → Option Value} (F : Fr h₀ L h m) {x1 x2 : Str} {v1 v2 : Value} (e1 : m x1 = some v1) (e2 : m x2 = some v2) :
    Fr h₀ L h (fun y => if y = x1 then some v1 else if y = x2 then some v2 else m y) := by
  refine fr_same F ?_
  funext y
  repeat' split
  all_goals (try subst_vars); simp_all
end Mine
namespace Mine
local macro_rules | `(tactic| walk_at $s:str) => `(tactic| k_extra $s)

theorem len_of {n v : Nat} (h : n = ((1 : Int) + (v : Int) - 0).toNat) (hv : v < 40) : 1 ≤ n ∧ n ≤ 40 := by subst h; rw [Int.sub_zero]; exact ⟨Nat.le_add_right 1 v, Nat.le_trans (Nat.le_of_eq (Nat.add_comm 1 v)) hv⟩
theorem ap1 {L fg pl : Nat} (h2 : fg < pl) (h1 : L + 1 + 1 < fg) : L + 1 ≠ pl := by omega
theorem ap2 {L fg pl : Nat} (h2 : fg < pl) (h1 : L + 1 + 1 < fg) : L + 1 + 1 ≠ pl := by omega
theorem ap3 {L fg : Nat} (h1 : L + 1 + 1 < fg) : L + 1 ≠ fg := by omega
local macro_rules | `(tactic| k_ne) => `(tactic| (refine neN ?_; (try dsimp only); first | assumption | exact Ne.symm (by assumption) | exact Nat.ne_of_lt (by assumption) | exact Nat.ne_of_gt (by assumption) | exact ap1 (by assumption) (by assumption) | exact ap2 (by assumption) (by assumption) | exact ap3 (by assumption) | exact Ne.symm (ap1 (by assumption) (by assumption)) | exact Ne.symm (ap2 (by assumption) (by assumption)) | exact Ne.symm (ap3 (by assumption)) | omega))
theorem law : PySem.Challenge.rw_nn0299_01.Holds := by
  k_with_none
  k_with "call ref" => (k_here; (with_reducible show wpAny _ _ (call (Value.ref 139) _) _ _ _); k_dflt (refine ConB.useL (by k_asm) (by k_asm) (by k_asm) (by k_asm) (by k_asm) (by first | exact rfl | assumption) (by first | exact room1 (by assumption) (by exact rfl) | ktr_room) (by first | exact room1 (by assumption) (by exact rfl) | ktr_units) (law_pool_con _ _ _ _ (by assumption) (by omega) _) (by k_asm) ?_; k_whole; intro pl9 fg9 mx9 ti9 tm9 n9 vs9 ns9 k9 h9 tk9 F9 N9 l8 l9 hI9 hl9 hm9 hm8; (try k_lt l9); (try dsimp only); (try k_fold)))
  k_with "binaryOp Add str str" => (k_here; (refine add_size (by omega) (by omega) (by omega) ?_); intro _ _ _ _)
  k_with "getItem ref str" => (k_here; k_dflt (refine getItem_alw (by assumption) (by k_tabat) ?_); intro _)
  k_with "call ref" => (k_here; (with_reducible show wpAny _ _ (call (Value.ref 146) _) _ _ _); k_dflt (refine Con.useK (by k_asm) (by k_asm) (by k_asm) (by k_asm) (by k_asm) (by first | exact rfl | assumption) (by first | exact room1 (by assumption) (by exact rfl) | ktr_room) (by first | exact room1 (by assumption) (by exact rfl) | ktr_units) (law_pick_any _ _ _ _ _ _ _ _ _ _ _ _ _ _ _ (by k_updF) (by k_mem) (by k_ne) (by assumption) (by assumption) (by first | assumption | decide) (by first | assumption | decide) (by assumption) (by assumption) (by first | decide | exact alw_len.1)) ?_; k_whole; intro v9 t9 i9 mx9 ti9 tm9 n9 h9 tk9 F9 N9 hv9 hi9 hi8 hm9 hm8; (try dsimp only); (try k_fold)))
  k_with "subscriptTail" => (k_here; (with_reducible show wpAny _ _ (subscriptTail _ _ (Value.str (Str.mk (List.toArray (alw _))) _) (Value.int _ _)) _ _ _); k_dflt (refine item_alw (by omega) (by assumption) ?_); intro _ _)
  k_with "call builtin:len" => (k_here; (with_reducible show wpAny _ _ (call _ [Value.str (Str.mk (List.toArray (alw _))) _]) _ _ _); k_dflt (refine len_list (by omega) ?_))
  k_with "call builtin:str.join" => (k_here; k_dflt (refine join_digs (by is_list) (by assumption) (by omega) ?_); intro _ _)
  k_with "call ref" => (k_here; (with_reducible show wpAny _ _ (call (Value.ref 153) _) _ _ _); k_dflt (refine Con.useS (by k_asm) (by k_asm) (by k_asm) (by k_asm) (by k_asm) (by first | exact rfl | assumption) (by first | exact room1 (by assumption) (by exact rfl) | ktr_room) (by first | exact room1 (by assumption) (by exact rfl) | ktr_units) (law_bits_any _ _ _ _ _ (by assumption) (by assumption) (by assumption) _) ?_; k_whole; intro t9 h9 tk9 F9 N9; (try dsimp only); (try k_fold)))
  k_with "binaryOp Add str str" => (k_here; (with_reducible show wpAny _ _ (binaryOp _ (Value.str (Str.ofString "0") _) (Value.str (Str.mk _) _)) _ _ _); k_dflt (refine add_zero (by assumption) ?_); intro _ _)
  k_with "call builtin:max" => (k_here; (rename Fr _ _ _ _ => F'); (rename News _ _ _ _ => N'); k_dflt (refine' max_nat (by with_reducible first | exact cast32 | exact rfl) (by with_reducible exact rfl) (by rfl) F' N' ?_); intro _ _ _ _ _)
  k_with "call builtin:len" => (k_here; (with_reducible show wpAny _ _ (call _ [Value.str (Str.mk (List.toArray _)) _]) _ _ _); k_dflt (refine len_any (by omega) ?_))
  k_with "call type:int" => (k_here; (refine int_rule (hsize_of (by assumption) (by assumption)) ?_))
  k_with "compareOp In str str" => (k_here; refine in_one in_xz ?_)
  k_with "subscriptTail Name Constant str int" => (k_here; (with_reducible show wpAny _ _ (subscriptTail _ _ (Value.str _ _) (Value.int _ _)) _ _ _); k_dflt (refine first_rule (by assumption) ?_))
  k_with "binaryOp Add str str" => (k_here; (with_reducible show wpAny _ _ (binaryOp _ (Value.str (Str.mk (List.toArray _)) _) (Value.str (Str.mk (List.toArray _)) _)) _ _ _); k_dflt (refine add_lists (by rw [List.length_replicate]; omega) (by assumption) ?_); intro _ _)
  k_with "binaryOp Mult str int" => (k_here; (with_reducible show wpAny _ _ (binaryOp _ (Value.str (Str.mk _) _) (Value.int (Nat.cast _) _)) _ _ _); k_dflt (refine mul_nat (by omega) ?_); intro _ _)
  k_with "subscriptTail" => (k_here; (with_reducible show wpAny _ _ (subscriptTail _ (Expr.Slice (some _) none none _) (Value.str (Str.mk (List.toArray (_ ++ _))) _) _) _ _ _); (rename Fr _ _ _ _ => F'); (rename News _ _ _ _ => N'); k_dflt (refine slice_last (s := ⟨_, _, _, _, _⟩) (by omega) (by rw [List.length_replicate]) (by assumption) (by assumption) F' N' ?_); intro _ _ _ _ _)
  k_with "call ref" => (k_here; (with_reducible show wpAny _ _ (call (Value.ref 160) _) _ _ _); k_dflt (refine Con.useT (by k_asm) (by k_asm) (by k_asm) (by k_asm) (by k_asm) (by first | exact rfl | assumption) (by first | exact room1 (by assumption) (by exact rfl) | ktr_room) (by first | exact room1 (by assumption) (by exact rfl) | ktr_units) (due_con _ (by assumption) (by assumption) (by assumption) _ _) ?_; k_whole; intro p9 t9 u9 v9 h9 tk9 F9 N9 l9; (try dsimp only); (try k_fold)))
  k_with "call ref" => (k_here; (with_reducible show wpAny _ _ (call (Value.ref 125) _) _ _ _); k_dflt (refine ConE.use2 (by k_asm) (by k_asm) (by k_asm) (by k_asm) (by k_asm) (by first | exact rfl | assumption) (by first | exact room1 (by assumption) (by exact rfl) | ktr_room) (by first | exact room1 (by assumption) (by exact rfl) | ktr_units) (numeral_bad _ _ _ _ _ _ _ _ _ _ _ _ (by assumption) (by assumption) (by assumption) (by assumption) (by assumption)) ?_; k_whole; intro e9 dx9 D9 h9 tk9 g9 F9 U9 hD9 R9 l9; (try dsimp only); (try k_fold)))
  k_with "getAttr ref" => (k_here; k_dflt (refine get_excN (by k_asm) (by k_asm) (by assumption) (by assumption) (by assumption) (by assumption) (by assumption) (by rfl) ?_))
  k_with "call ref" => (k_here; (with_reducible show wpAny _ _ (call (Value.ref 125) _) _ _ _); k_dflt (refine Con.useN (by k_asm) (by k_asm) (by k_asm) (by k_asm) (by k_asm) (by first | exact rfl | assumption) (by first | exact room1 (by assumption) (by exact rfl) | ktr_room) (by first | exact room1 (by assumption) (by exact rfl) | ktr_units) (numeral_any _ _ _ _ _ _ _ _ _ _ _ _ _ (by assumption) (by assumption) (by assumption) (by assumption) (by assumption)) ?_; k_whole; intro a9 v9 t9 u9 q9 h9 tk9 F9 N9 l9 l8; (try dsimp only); (try k_fold)))
  k_with "call ref" => (k_here; (with_reducible show wpAny _ _ (call (Value.ref 132) _) _ _ _); k_dflt (refine Con.useS (by k_asm) (by k_asm) (by k_asm) (by k_asm) (by k_asm) (by first | exact rfl | assumption) (by first | exact room1 (by assumption) (by exact rfl) | ktr_room) (by first | exact room1 (by assumption) (by exact rfl) | ktr_units) (numeral_text_any _ _ _ _ _ _ _ _ _ _ _ (by k_mem) (by assumption) (by assumption)) ?_; k_whole; intro t9 h9 tk9 F9 N9; (try dsimp only); (try k_fold)))
  k_with "compareOp NotIn str str" => (k_here; first | (refine tick_no (by assumption) ?_) | (refine tick_in (by assumption) ?_))
  k_with "call ref" => (k_here; (with_reducible show wpAny _ _ (call (Value.ref 125) _) _ _ _); k_dflt (refine Con.useN (by k_asm) (by k_asm) (by k_asm) (by k_asm) (by k_asm) (by first | exact rfl | assumption) (by first | exact room1 (by assumption) (by exact rfl) | ktr_room) (by first | exact room1 (by assumption) (by exact rfl) | ktr_units) (back_plain _ _ _ _ _ _ _ _ _ _ _ _ _ _ (by assumption) (by assumption) (by assumption) (by assumption) (by assumption) (by assumption)) ?_; k_whole; intro a9 v9 t9 u9 q9 h9 tk9 F9 N9 l9 l8; (try dsimp only); (try k_fold)))
  k_with "call ref" => (k_here; (with_reducible show wpAny _ _ (call (Value.ref 125) _) _ _ _); k_dflt (refine Con.useN (by k_asm) (by k_asm) (by k_asm) (by k_asm) (by k_asm) (by first | exact rfl | assumption) (by first | exact room1 (by assumption) (by exact rfl) | ktr_room) (by first | exact room1 (by assumption) (by exact rfl) | ktr_units) (back_bits _ _ _ _ _ _ _ _ _ _ _ _ _ _ _ (by assumption) (by assumption) (by assumption) (by assumption) (by assumption) (by assumption) (by assumption)) ?_; k_whole; intro a9 v9 t9 u9 q9 h9 tk9 F9 N9 l9 l8; (try dsimp only); (try k_fold)))
  k_with "call builtin:str.split" => (k_here; k_dflt (refine split_rule (by k_asm) (by k_asm) (by assumption) (by assumption) (by assumption) (by assumption) ?_); intro D' t1' t2' h' k' F' N' l1; (try k_lt l1))
  k_with "subscriptTail Name Slice str ref" => (k_here; (with_reducible show wpAny _ _ (subscriptTail _ (Expr.Slice (some _) none none _) (Value.str (Str.mk (List.toArray (_ :: _))) _) _) _ _ _); (rename Fr _ _ _ _ => F'); (rename News _ _ _ _ => N'); k_dflt (refine slice_one (s := ⟨_, _, _, _, _⟩) (by assumption) F' N' ?_); intro _ _ _ _ _)
  k_with "subscriptTail Name Constant str int" => (k_here; (with_reducible show wpAny _ _ (subscriptTail _ (Expr.Constant _ _ _) (Value.str (Str.mk (List.toArray (_ :: _))) _) (Value.int _ _)) _ _ _); k_dflt (refine first_rule (by assumption) ?_))
  k_with "compareOp Eq str str" => (k_here; first | (refine eq_s_t ?_) | (refine eq_s_f ?_))
  refine hd ?_
  w_strict (k_go0; (all_goals try k_fold); skip)
  (rename Fr _ _ _ _ => F0)
  refine execs_cut 2 P1 F0 rfl rfl ?_ ?_
  · dsimp only [List.take]
    k_steps
    all_goals refine end_pool (by assumption) (by assumption) (by k_mem) (by k_mem) (by assumption) (by assumption) (by k_mem) (by k_mem) (by assumption) (by omega) (by assumption) (by assumption) (by assumption) (by assumption) (by assumption) (by assumption) fun _ hp => ⟨_, _, by with_unfolding_all rfl, by unfold IsBase; simp, hp⟩
  clear F0
  intro h1 tk1 m1 news1 F1 N1 hP
  dsimp only [List.drop]
  refine execs_cut 3 P2 F1 rfl rfl ?_ ?_
  · dsimp only [List.take]
    obtain ⟨b, tb, mb, hb, pl, fg, i, mx, ti, tm, n, vs, ns, k, oa, op, va, rfl, ca, cp, l1, l2, hI, hl, hi0, hi1, hm0, hm1⟩ := hP
    replace F1 := fr_pick F1 mb
    clear mb
    by_cases hb0 : b = Str.ofString ""
    · subst hb0
      k_steps
      all_goals refine end_pool (by assumption) (by assumption) (by k_mem) (by k_mem) (by assumption) (by assumption) (by k_mem) (by k_mem) (by assumption) (by assumption) (by assumption) (by assumption) (by assumption) (by assumption) (by assumption) (by assumption) fun _ hp => ⟨_, _, _, _, _, by with_unfolding_all rfl, by with_unfolding_all rfl, by with_unfolding_all rfl, by assumption, .inl rfl, fun _ => ⟨rfl, rfl⟩, hp⟩
    · have e1 : (b == Str.ofString "") = false := beq_eq_false_iff_ne.mpr hb0
      have e2 : (b != Str.ofString "") = true := by simp [bne, e1]
      k_steps
      all_goals refine end_pool (by assumption) (by assumption) (by k_mem) (by k_mem) (by assumption) (by assumption) (by k_mem) (by k_mem) (by assumption) (by assumption) (by assumption) (by assumption) (by assumption) (by assumption) (by assumption) (by assumption) fun _ hp => ⟨_, _, _, _, _, by with_unfolding_all rfl, by with_unfolding_all rfl, by with_unfolding_all rfl, by assumption, by first | assumption | exact bad_of (by decide +kernel) | exact .inl rfl, fun q => absurd q hb0, hp⟩
  clear F1 N1 hP
  intro h2 tk2 m2 news2 F2 N2 hP
  dsimp only [List.drop]
  refine @execs_cut _ _ _ _ _ _ _ _ _ _ _ _ 1 P3 F2 rfl rfl ?_ ?_
  · dsimp only [List.take]
    obtain ⟨b, tb, size, ts, sg, mb, ms, mg, hb, hs, hbs, pl, fg, i, mx, ti, tm, n, vs, ns, k, oa, op, va, rfl, ca, cp, l1, l2, hI, hl, hi0, hi1, hm0, hm1⟩ := hP
    replace F2 := fr_pick3 F2 mb ms mg
    clear mb ms mg
    k_steps
    all_goals refine end_poolV (by assumption) (by assumption) (by k_mem) (by k_mem) (by assumption) (by assumption) (by k_mem) (by k_mem) (by assumption) (by assumption) (by assumption) (by assumption) (by assumption) (by assumption) (by assumption) (by assumption) fun _ hp => ⟨b, tb, size, ts, sg, _, by with_unfolding_all rfl, by with_unfolding_all rfl, by with_unfolding_all rfl, hb, hs, hbs, hp⟩
  clear F2 N2 hP
  intro h3 tk3 m3 news3 F3 N3 hP
  dsimp only [List.drop]
  refine @execs_cut _ _ _ _ _ _ _ _ _ _ _ _ 1 P4 F3 rfl rfl ?_ ?_
  · dsimp only [List.take]
    obtain ⟨b, tb, size, ts, sg, ta, mb, ms, mg, hb, hs, hbs, pl, fg, i, mx, ti, tm, n, vs, ns, k, oa, op, rfl, ca, cp, l1, l2, hI, hl, hi0, hi1, hm0, hm1⟩ := hP
    replace F3 := fr_pick3 F3 mb ms mg
    clear mb ms mg
    k_steps
    (rename @LT.lt Nat _ _ _ => hv9)
    have hv40 := Nat.lt_of_lt_of_le hv9 (show _ ≤ 40 from Nat.le_refl 40)
    refine LCg.CompSrc.range (by rfl) (by k_asm) (by k_asm) (by assumption) (small_one (by omega) (by omega) (by omega) (by omega)) (rangeSize_nat _ _) (by rw [PySem.sizeLine_eq]; omega) ?_
    intro g'
    refine pick_rest (Inv := PoolV (some (.str ⟨(alw b).toArray⟩ ta)) _) (Ok := fun c => c ∈ alw b) ⟨pl, fg, _, _, _, _, _, vs, ns, k, oa, op, rfl, ca, cp, l1, l2, hI, hl, by assumption, by assumption, by assumption, by assumption⟩ ?turn ?fin
    case turn =>
      have hal := alw_len (b := b)
      clear F3 N3
      intro I oI C oC D m₂ ys h tk E' news hP hC F N off ne
      obtain ⟨pl, fg, i, mx, ti, tm, n, vs, ns, k, oa, op, rfl, ca, cp, l1, l2, hI, hl, hi0, hi1, hm0, hm1⟩ := hP
      simp only [LCg.Off3, and_true] at off
      have o1 := off.1.1
      have o2 := off.1.2.1
      have o3 := off.1.2.2
      have o4 := off.2.1.1
      have o5 := off.2.1.2.1
      have o6 := off.2.1.2.2
      have o7 := off.2.2.1.1
      have o8 := off.2.2.1.2.1
      have o9 := off.2.2.1.2.2
      have o10 := off.2.2.2.1
      have o11 := off.2.2.2.2.1
      have o12 := off.2.2.2.2.2
      clear off
      k_steps
      exact ⟨⟨pl, fg, _, _, _, _, _, vs, ns, k, oa, op, rfl, ca, cp, l1, l2, hI, hl, by assumption, by assumption, by assumption, by assumption⟩, _, _, rfl, by assumption⟩
    case fin =>
      intro ys ds news hP hds hn hok
      obtain ⟨pl, fg, i, mx, ti, tm, n, vs, ns, k, oa, op, rfl, ca, cp, l1, l2, hI, hl, hi0, hi1, hm0, hm1⟩ := hP
      clear F3 N3
      have hn2 : 1 ≤ ds.length ∧ ds.length ≤ 40 := len_of hn (by assumption)
      k_steps
      refine end_pool (by assumption) (by assumption) (by k_mem) (by k_mem) (by assumption) (by assumption) (by k_mem) (by k_mem) (by assumption) (by assumption) (by assumption) (by assumption) (by assumption) (by assumption) (by assumption) (by assumption) fun _ hp => ⟨b, tb, size, ts, sg, ds, _, by with_unfolding_all rfl, by with_unfolding_all rfl, by with_unfolding_all rfl, by with_unfolding_all rfl, hb, hs, hbs, hn2.1, hn2.2, hok, hp⟩
  clear F3 N3 hP
  intro h4 tk4 m4 news4 F4 N4 hP
  dsimp only [List.drop]
  refine @execs_cut _ _ _ _ _ _ _ _ _ _ _ _ 1 P5 F4 rfl rfl ?_ ?_
  · dsimp only [List.take]
    obtain ⟨b, tb, size, ts, sg, ds, td, mb, ms, mg, md, hb, hs, hbs, hd1, hd2, hok, pl, fg, i, mx, ti, tm, n, vs, ns, k, oa, op, va, rfl, ca, cp, l1, l2, hI, hl, hi0, hi1, hm0, hm1⟩ := hP
    replace F4 := fr_pick4 F4 mb ms mg md
    clear mb ms mg md
    k_steps
    · (rename @LT.lt Nat _ _ 3 => hv9)
      obtain ⟨c, hc, hx⟩ := item3 hv9
      (rename (b == Str.ofString "d") = true => hbd)
      exact end_digs (by assumption) (by assumption) (by with_unfolding_all rfl) (by with_unfolding_all rfl) (by with_unfolding_all rfl) (by with_unfolding_all rfl) hc hs hbs (Nat.le_refl 1) (show 1 ≤ 40 by decide) (.inr (.inl ⟨beq_iff_eq.mp hbd, c, rfl, hx⟩))
    · exact end_digs (by assumption) (by assumption) (by with_unfolding_all rfl) (by with_unfolding_all rfl) (by with_unfolding_all rfl) (by with_unfolding_all rfl) rfl hs hbs hd1 hd2 (digs_all hb hok)
    · exact end_digs (by assumption) (by assumption) (by with_unfolding_all rfl) (by with_unfolding_all rfl) (by with_unfolding_all rfl) (by with_unfolding_all rfl) rfl hs hbs hd1 hd2 (digs_all hb hok)
  clear F4 N4 hP
  intro h5 tk5 m5 news5 F5 N5 hP
  dsimp only [List.drop]
  refine @execs_cut _ _ _ _ _ _ _ _ _ _ _ _ 2 P6 F5 rfl rfl ?_ ?_
  · dsimp only [List.take]
    obtain ⟨b, tb, size, ts, sg, ds, td, mb, ms, mg, D, md, eD, hs, hbs, hd1, hd2, hok⟩ := hP
    subst eD
    replace F5 := fr_pick4 F5 mb ms mg md
    clear mb ms mg md
    rcases sz_cases hs with hbad | ⟨sv, hsv⟩
    · have hin := bad_in hbad
      k_steps
      all_goals exact CutE.mk (by assumption) (Mine.News.sub (by assumption) (news' := []) fun _ h => nomatch h) ⟨b, tb, size, ts, sg, ds, _, td, by with_unfolding_all rfl, by with_unfolding_all rfl, by with_unfolding_all rfl, by with_unfolding_all rfl, rfl, hbs, hd1, hd2, hok, .inl ⟨hbad, by with_unfolding_all rfl, rfl⟩⟩
    · have hin := bad_not hsv
      have hsz := hsv.1
      repeat ((fail_if_success (with_reducible show wpAny _ _ (execs [_, _, _, _, _] _) _ _ _)); first | (k_unfold; (try dsimp only)) | (k_end; wrow_close) | walk1 | (dsimp only; walk1))
      (rename Fr _ _ _ _ => F6)
      refine @execs_cut _ _ _ _ _ _ _ _ _ _ _ _ 2 (P6a b tb size ts sg ds td) F6 rfl rfl ?_ ?_
      · dsimp only [List.take]
        have hlb := lawBits_len hok hd2
        have hlb2 : (lawBits b ds).length ≤ 1000 := by omega
        k_steps
        all_goals refine CutE.mk (by assumption) (by assumption) ⟨by with_unfolding_all rfl, by with_unfolding_all rfl, by with_unfolding_all rfl, by with_unfolding_all rfl, _, _, by with_unfolding_all rfl, ?_⟩
        all_goals first
          | exact dueBits_yes (by assumption) (by assumption) (by assumption) (by assumption) hok
          | exact dueBits_no hd1 (.inl (by assumption))
          | exact dueBits_no hd1 (.inr (.inl (by assumption)))
          | exact dueBits_no hd1 (.inr (.inr (.inl (by assumption))))
          | exact dueBits_no hd1 (.inr (.inr (.inr (by assumption))))
      · have hdl := dueBits_len (size := size) (sg := sg) hok hd2
        have hdl2 : (dueBits b size sg ds).length ≤ 1000 := by omega
        have hdo := dueBits_ok (size := size) (sg := sg) hok
        clear F6
        intro h6 tk6 m6 news6 F6 N6 hP
        obtain ⟨mb, ms, mg, md, X, tX, mx, eX⟩ := hP
        subst eX
        replace F6 := fr_pick5 F6 mb ms mg md mx
        clear mb ms mg md mx
        cases ds with
        | nil => simp at hd1
        | cons c r =>
          have hcr : (c :: r).length ≤ 1000 := by omega
          dsimp only [List.drop]
          refine @execs_cut _ _ _ _ _ _ _ _ _ _ _ _ 2 (P6b b tb size ts sg sv c r td) F6 rfl rfl ?_ ?_
          · dsimp only [List.take]
            k_steps
            all_goals refine CutE.mk (by assumption) (by assumption) ⟨by with_unfolding_all rfl, by with_unfolding_all rfl, by with_unfolding_all rfl, by with_unfolding_all rfl, _, by with_unfolding_all rfl, _, _, by with_unfolding_all rfl, ?_, _, _, by with_unfolding_all rfl, ?_⟩
            all_goals first
              | exact wide_t (by assumption)
              | exact wide_f (by assumption)
              | exact fill_t (by assumption)
              | exact fill_f (by assumption)
          · have hWl := dueW_le (sg := sg) hsv hok hd2
            have hWl2 : dueW b size sg sv (c :: r) ≤ 1000 := by omega
            clear F6 N6
            intro h7 tk7 m7 news7 F7 N7 hP
            obtain ⟨mb, ms, mg, md, tX, mx, W, tW, mw, eW, Y, tY, my, eY⟩ := hP
            subst eW
            subst eY
            replace F7 := fr_pick7 F7 mb ms mg md mx mw my
            clear mb ms mg md mx mw my
            dsimp only [List.drop]
            k_steps
            (rename News _ _ _ _ => nE')
            (rename _ ∧ AllLt _ _ => lE')
            exact end_due (by assumption) nE' (by with_unfolding_all rfl) (by with_unfolding_all rfl) (by with_unfolding_all rfl) (by with_unfolding_all rfl) (by with_unfolding_all rfl) rfl rfl lE'.1 hbs hd1 hd2 hok hsv
  clear F5 N5 hP
  intro h6 tk6 m6 news6 F6 N6 hP
  dsimp only [List.drop]
  obtain ⟨b, tb, size, ts, sg, ds, D, td, mb, ms, mg, md, eD, hbs, hd1, hd2, hok, hdue⟩ := hP
  subst eD
  rcases hdue with ⟨hbad, mdu, rfl⟩ | ⟨sv, du, dv, t1, t2, t3, hsv, mdu, ldu, rfl⟩
  · replace F6 := fr_pick5 F6 mb ms mg md mdu
    clear mb ms mg md mdu
    k_steps
    refine wpAny_Try_except ?_
    k_steps
    k_dflt (refine' caughtX ?zK ?zF ?zU ?zR ?zX ?zT ?zx ?zk; (case zK => assumption); (case zF => assumption); (case zU => assumption); (case zR => assumption); (case zX => k_asm); (case zT => k_asm); (case zx => k_is))
    intro h7 oe tk7 F7 N7 o1 o2 o3
    (rename ExcDict _ _ => hD)
    (rename World => w9)
    obtain ⟨ta9, hfk⟩ := obj_kind (w := w9) hD
    obtain ⟨tb9, hfa⟩ := obj_at (w := w9) hD
    k_steps
    refine name_goes_X (by assumption) ?_
    intro h8 v8 F8
    k_steps
  · replace F6 := fr_pick5 F6 mb ms mg md mdu
    clear mb ms mg md mdu
    have hsz := hsv.1
    have hsv2 : sv ≤ 1000 := by have := hsv.2.2; omega
    have hW := dueW_le (sg := sg) hsv hok hd2
    have hW2 : dueW b size sg sv ds ≤ 1000 := by omega
    have hX := (dueX_lt (sg := sg) hsv hok hd2).2
    refine @execs_cut _ _ _ _ _ _ _ _ _ _ _ _ 3 (P7 (dueW b size sg sv ds) (dueX b size sg sv ds) (dueY b size sg sv ds) sg (!(size == Str.ofString "")) du dv t1 t2 t3) F6 rfl rfl ?_ ?_
    · dsimp only [List.take]
      k_steps
      refine wpAny_Try_except ?_
      k_steps
      exact CutE.mk (by assumption) (Mine.News.sub (by assumption) (news' := [(du, tupOf [.ref dv, .bool sg, .bool (!(size == Str.ofString ""))]), (dv, tupOf [.int (dueW b size sg sv ds) t1, .int (dueX b size sg sv ds) t2, .int (dueY b size sg sv ds) t3])]) (by
        intro p hp
        simp only [List.mem_cons, List.not_mem_nil, or_false] at hp
        rcases hp with rfl | rfl <;> k_mem)) ⟨by with_unfolding_all rfl, _, _, by with_unfolding_all rfl, rfl, rfl⟩
    have hX0 := (dueX_lt (sg := sg) hsv hok hd2).1
    have hY0 := dueY_lt (b := b) (size := size) (sg := sg) (sv := sv) (ds := ds)
    have hszt : (!(size == Str.ofString "")) = true → dueW b size sg sv ds ≤ 75 := fun q => by
      unfold dueW outW
      rw [if_neg (by rw [Bool.not_eq_true'] at q; rw [q]; decide)]
      exact hsv.2.2
    have hszf : (!(size == Str.ofString "")) = false → 32 ≤ dueW b size sg sv ds := fun q => by
      unfold dueW outW
      rw [if_pos (by rw [Bool.not_eq_false'] at q; exact q)]
      exact Nat.le_max_left _ _
    clear F6 hsz
    intro h7 tk7 m7 news7 F7 N7 hP
    revert hW hW2 hX hX0 hY0 hszt hszf hP N7
    generalize dueW b size sg sv ds = n
    generalize dueX b size sg sv ds = x
    generalize dueY b size sg sv ds = y
    generalize (!(size == Str.ofString "")) = sz
    intro hW hW2 hX hX0 hY0 hszt hszf N7 hP
    obtain ⟨mdu, X, tX, mX, eX, rfl⟩ := hP
    clear hbs hd1 hd2 hok hsv hsv2
    dsimp only [List.drop]
    rcases text_cases (x := x) (y := y) (sg := sg) hW.1 hszt hszf with ⟨r, eT, hr, e32, ey, ex, eg, ez⟩ | ⟨fr, sw, eT, hfr, hfl, hsw, hzw, hWw⟩
    · have hno := dec_no hr
      rw [eT] at eX
      subst eX
      replace F7 := fr_pick2 F7 mdu mX
      clear mdu mX
      k_steps
    · rw [eT] at eX
      subst eX
      have hno : ¬ 39 ∈ tlOf sg n x y := tl_no
      have hin : 39 ∈ fr ++ 39 :: tlOf sg n x y := by simp
      have hfl2 : fr.length ≤ 1000 := by omega
      have hbl := bitsOf_length n x y
      have hW1 : 1 ≤ n := hW.1
      have hW3 : n ≤ 200 := by omega
      have hbl2 : (bitsOf n x y).length ≤ 1000 := by omega
      have htl : (tlOf sg n x y).length ≤ 1000 := by
        unfold tlOf
        split <;> simp <;> omega
      replace F7 := fr_pick2 F7 mdu mX
      clear mdu mX eT
      cases sg
      · have et : tlOf false n x y = 98 :: bitsOf n x y := rfl
        rw [et] at hno hin htl F7
        k_steps
      · have et : tlOf true n x y = 115 :: 98 :: bitsOf n x y := rfl
        rw [et] at hno hin htl F7
        have htl2 : (98 :: bitsOf n x y).length ≤ 1000 := by rw [List.length_cons] at htl; omega
        k_steps
end Mine
theorem PySem.Challenge.cw_nn0299_01_holds : PySem.Challenge.rw_nn0299_01.Holds := by
  exact Mine.law
