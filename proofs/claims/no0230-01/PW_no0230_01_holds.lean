import PyProof.Rows.All
import Wide.All
import OpenK.AllK
import Wide.FinOn
import Lean
import PySem.Challenge.RW_no0230_01
open PySem PySem.W PyProof.Rows PySem.Spec PySem.Calls
set_option Elab.async false
set_option maxRecDepth 100000
set_option maxHeartbeats 2000000
namespace Mine
local macro_rules | `(tactic| walk_at "subscriptTail") => `(tactic| k_extra "subscriptTail")
local macro_rules | `(tactic| walk_at "subscriptTail Name Slice str ref") => `(tactic| k_extra "subscriptTail Name Slice str ref")
local macro_rules | `(tactic| walk_at "subscriptTail Call") => `(tactic| k_extra "subscriptTail Call")
local macro_rules | `(tactic| walk_at "call type:str") => `(tactic| k_extra "call type:str")
local macro_rules | `(tactic| walk_at "call builtin:abs") => `(tactic| k_extra "call builtin:abs")
local macro_rules | `(tactic| walk_at "call ref") => `(tactic| k_extra "call ref")
local macro_rules | `(tactic| walk_at "call type:int") => `(tactic| k_extra "call type:int")
local macro_rules | `(tactic| walk_at "exec If") => `(tactic| k_extra "exec If")
local macro_rules | `(tactic| walk_at "isTrue BoolOp") => `(tactic| k_extra "isTrue BoolOp")
local macro_rules | `(tactic| walk_at "eval IfExp") => `(tactic| k_extra "eval IfExp")
local macro_rules | `(tactic| walk_at "eval BoolOp") => `(tactic| k_extra "eval BoolOp")
local macro_rules | `(tactic| walk_at "binaryOp FloorDiv int int") => `(tactic| k_extra "binaryOp FloorDiv int int")
local macro_rules | `(tactic| walk_at "compareOp NotEq str str") => `(tactic| k_extra "compareOp NotEq str str")
local macro_rules | `(tactic| walk_at "compareOp Eq str str") => `(tactic| k_extra "compareOp Eq str str")
section
local macro_rules | `(({ scope := $_, locals := $_, globals := $_, cells := $_, code := $_, frame := $_ } : $_)) => Lean.Macro.throwError "the head at once"
open_top hd for PySem.Challenge.rw_no0230_01
end

/-- one call of one of the text's defs, from any state: what it hands back and the ledger behind it meet Out -/
def Claim (w : World) (f : Addr) (k : Nat) (news : List (Addr × Obj)) (vs : List Value) (Out : Value → List (Addr × Obj) → Prop) : Prop :=
  ∀ (mean : ExcName → Option Value) (mg mb : Str → Option Value) (dp un : Nat) (gd : Option (List Code)) (cn : Str) (cs : Scope) (a : Addr) (ccd : Value) (cl : List (Str × Addr)) (outer : List Env) (A₀ : Around) (base h₀ : Heap) (L : Addr) (m : Str → Option Value) (s : Shared) (Q E : Value → Shared → Prop),
    Below A₀ base outer h₀ → Fr h₀ L s.heap m → (hd.heap_39 w.params).In h₀ → News h₀ L s.heap news → Top hd.view_39 (looseW hd.view_39 []) mean mg mb h₀ → cs.kind = .function →
    dp + k < recursionLimit → un + 8 * k < cLine →
    (∀ (r : Value) (nw : List (Addr × Obj)) (h' : Heap) (tk' : Nat), Fr h₀ L h' m → News h₀ L h' nw → Out r nw → Q r { s with heap := h', toks := tk' }) →
      wpAny (model PySem.Challenge.rw_no0230_01.row.prog w) (ktrTop dp un gd cn cs L a ccd cl outer) (call (.ref f) vs) Q E s

abbrev tupO (vs : List Value) : Obj := { cls := .type "tuple", data := .seq vs.toArray }
theorem Claim.use {w : World} {f : Addr} {k : Nat} {news : List (Addr × Obj)} {vs : List Value} {Out : Value → List (Addr × Obj) → Prop} (c : Claim w f k news vs Out)
    {mean : ExcName → Option Value} {mg mb : Str → Option Value} {dp un : Nat} {gd : Option (List Code)} {cn : Str} {cs : Scope} {a : Addr} {ccd : Value} {cl : List (Str × Addr)} {outer : List Env} {A₀ : Around} {base h₀ : Heap} {L : Addr} {m : Str → Option Value} {s : Shared} {Q E : Value → Shared → Prop}
    (B : Below A₀ base outer h₀) (F : Fr h₀ L s.heap m) (X : (hd.heap_39 w.params).In h₀) (N : News h₀ L s.heap news) (T : Top hd.view_39 (looseW hd.view_39 []) mean mg mb h₀) (hk : cs.kind = .function)
    (hd : dp + k < recursionLimit) (hu : un + 8 * k < cLine)
    (ret : ∀ (r : Value) (nw : List (Addr × Obj)) (h' : Heap) (tk' : Nat), Fr h₀ L h' m → News h₀ L h' nw → Out r nw → Q r { s with heap := h', toks := tk' }) :
    wpAny (model PySem.Challenge.rw_no0230_01.row.prog w) (ktrTop dp un gd cn cs L a ccd cl outer) (call (.ref f) vs) Q E s :=
  c _ _ _ _ _ _ _ _ _ _ _ _ _ _ _ _ _ _ _ _ B F X N T hk hd hu ret
section
variable {G : Value → List (Addr × Obj) → Prop} {nw₁ : List (Addr × Obj)}
theorem out_str {S : Str} (ret : ∀ t, G (.str S t) nw₁) (r : Value) (nw : List (Addr × Obj)) (o : nw = nw₁ ∧ ∃ t x, r = .str x t ∧ x = S) : G r nw := by
  obtain ⟨rfl, t, _, rfl, rfl⟩ := o; exact ret t
theorem out_strP {S : Str} {P : Str → Prop} (ret : P S → ∀ t, G (.str S t) nw₁) (r : Value) (nw : List (Addr × Obj)) (o : nw = nw₁ ∧ ∃ t x, r = .str x t ∧ x = S ∧ P x) : G r nw := by
  obtain ⟨rfl, t, _, rfl, rfl, q⟩ := o; exact ret q t
theorem out_int2 {S : Int} {P P' : Int → Prop} (ret : P S → P' S → ∀ t, G (.int S t) nw₁) (r : Value) (nw : List (Addr × Obj)) (o : nw = nw₁ ∧ ∃ t x, r = .int x t ∧ x = S ∧ P x ∧ P' x) : G r nw := by
  obtain ⟨rfl, t, _, rfl, rfl, q, q'⟩ := o; exact ret q q' t
theorem out_pairS {S S' : Str} {P1 P2 P3 P4 : Str → Prop} (ret : P1 S → P2 S' → P3 S → P4 S' → ∀ x u v, (∀ q ∈ nw₁, q.1 < x) → G (.ref x) ((x, tupO [.str S u, .str S' v]) :: nw₁)) (r : Value) (nw : List (Addr × Obj))
    (o : ∃ x u v a b, r = .ref x ∧ nw = (x, tupO [.str a u, .str b v]) :: nw₁ ∧ (∀ q ∈ nw₁, q.1 < x) ∧ a = S ∧ b = S' ∧ P1 a ∧ P2 b ∧ P3 a ∧ P4 b) : G r nw := by
  obtain ⟨x, u, v, _, _, rfl, rfl, g, rfl, rfl, q1, q2, q3, q4⟩ := o; exact ret q1 q2 q3 q4 x u v g
theorem out_pairI {S : Str} {S' : Int} {P1 : Str → Prop} {P2 P3 : Int → Prop} (ret : P1 S → P2 S' → P3 S' → ∀ x u v, (∀ q ∈ nw₁, q.1 < x) → G (.ref x) ((x, tupO [.str S u, .int S' v]) :: nw₁)) (r : Value) (nw : List (Addr × Obj))
    (o : ∃ x u v a b, r = .ref x ∧ nw = (x, tupO [.str a u, .int b v]) :: nw₁ ∧ (∀ q ∈ nw₁, q.1 < x) ∧ a = S ∧ b = S' ∧ P1 a ∧ P2 b ∧ P3 b) : G r nw := by
  obtain ⟨x, u, v, _, _, rfl, rfl, g, rfl, rfl, q1, q2, q3⟩ := o; exact ret q1 q2 q3 x u v g
theorem out_orN {C : Prop} {S : Str} {P : Str → Prop} (ret1 : C → G .none nw₁) (ret2 : ¬ C → P S → ∀ t, G (.str S t) nw₁) (r : Value) (nw : List (Addr × Obj))
    (o : nw = nw₁ ∧ ((C ∧ r = .none) ∨ (¬ C ∧ ∃ t x, r = .str x t ∧ x = S ∧ P x))) : G r nw := by
  obtain ⟨rfl, ⟨g, rfl⟩ | ⟨g, t, _, rfl, rfl, q⟩⟩ := o
  · exact ret1 g
  · exact ret2 g q t
theorem out_orB {C1 C2 C3 D : Prop} (ret1 : C1 → C2 → C3 → G (.bool true) nw₁) (ret2 : D → G (.bool false) nw₁) (r : Value) (nw : List (Addr × Obj))
    (o : nw = nw₁ ∧ ((C1 ∧ C2 ∧ C3 ∧ r = .bool true) ∨ (D ∧ r = .bool false))) : G r nw := by
  obtain ⟨rfl, ⟨g1, g2, g3, rfl⟩ | ⟨g, rfl⟩⟩ := o
  · exact ret1 g1 g2 g3
  · exact ret2 g
theorem out_draw {g : Tok → List (Addr × Obj)} {P1 P2 : Int → Prop} (ret : ∀ t u x, P1 x → P2 x → G (.int x u) (g t)) (r : Value) (nw : List (Addr × Obj)) (o : (∃ t, nw = g t) ∧ ∃ t x, r = .int x t ∧ P1 x ∧ P2 x) : G r nw := by
  obtain ⟨⟨t, rfl⟩, u, x, rfl, q1, q2⟩ := o; exact ret t u x q1 q2
theorem out_real {g : Tok → List (Addr × Obj)} {P1 P2 P3 P4 : Int → Prop} (ret : ∀ x n p u1 u2 t, (∀ q ∈ g t, q.1 < x) → P1 n → P2 n → P3 p → P4 p → G (.ref x) ((x, tupO [.int n u1, .int p u2]) :: g t)) (r : Value) (nw : List (Addr × Obj))
    (o : ∃ (x : Addr) (n p : Int) (u1 u2 t : Tok), r = .ref x ∧ nw = (x, tupO [.int n u1, .int p u2]) :: g t ∧ (∀ q ∈ g t, q.1 < x) ∧ P1 n ∧ P2 n ∧ P3 p ∧ P4 p) : G r nw := by
  obtain ⟨x, n, p, u1, u2, t, rfl, rfl, h, q1, q2, q3, q4⟩ := o; exact ret x n p u1 u2 t h q1 q2 q3 q4
end
theorem Claim.str {w : World} {f : Addr} {k : Nat} {news : List (Addr × Obj)} {vs : List Value} {nw₁ : List (Addr × Obj)} {S : Str} (c : Claim w f k news vs fun r nw => nw = nw₁ ∧ ∃ t x, r = .str x t ∧ x = S) {mean : ExcName → Option Value} {mg mb : Str → Option Value} {dp un : Nat} {gd : Option (List Code)} {cn : Str} {cs : Scope} {a : Addr} {ccd : Value} {cl : List (Str × Addr)} {outer : List Env} {A₀ : Around} {base h₀ : Heap} {L : Addr} {m : Str → Option Value} {s : Shared} {Q E : Value → Shared → Prop} (B : Below A₀ base outer h₀) (F : Fr h₀ L s.heap m) (X : (hd.heap_39 w.params).In h₀) (N : News h₀ L s.heap news) (T : Top hd.view_39 (looseW hd.view_39 []) mean mg mb h₀) (hk : cs.kind = .function) (hd : dp + k < recursionLimit) (hu : un + 8 * k < cLine)
    (ret : ∀ (t : Tok) (h' : Heap) (tk' : Nat), Fr h₀ L h' m → News h₀ L h' nw₁ → Q (.str S t) { s with heap := h', toks := tk' }) : wpAny (model PySem.Challenge.rw_no0230_01.row.prog w) (ktrTop dp un gd cn cs L a ccd cl outer) (call (.ref f) vs) Q E s :=
  c.use B F X N T hk hd hu fun r nw h' tk' F' N' o => out_str (G := fun r nw => News h₀ L h' nw → Q r { s with heap := h', toks := tk' }) (fun t N' => ret t h' tk' F' N') r nw o N'
theorem Claim.strP {w : World} {f : Addr} {k : Nat} {news : List (Addr × Obj)} {vs : List Value} {nw₁ : List (Addr × Obj)} {S : Str} {P : Str → Prop} (c : Claim w f k news vs fun r nw => nw = nw₁ ∧ ∃ t x, r = .str x t ∧ x = S ∧ P x) {mean : ExcName → Option Value} {mg mb : Str → Option Value} {dp un : Nat} {gd : Option (List Code)} {cn : Str} {cs : Scope} {a : Addr} {ccd : Value} {cl : List (Str × Addr)} {outer : List Env} {A₀ : Around} {base h₀ : Heap} {L : Addr} {m : Str → Option Value} {s : Shared} {Q E : Value → Shared → Prop} (B : Below A₀ base outer h₀) (F : Fr h₀ L s.heap m) (X : (hd.heap_39 w.params).In h₀) (N : News h₀ L s.heap news) (T : Top hd.view_39 (looseW hd.view_39 []) mean mg mb h₀) (hk : cs.kind = .function) (hd : dp + k < recursionLimit) (hu : un + 8 * k < cLine)
    (ret : ∀ (t : Tok) (h' : Heap) (tk' : Nat), Fr h₀ L h' m → News h₀ L h' nw₁ → P S → Q (.str S t) { s with heap := h', toks := tk' }) : wpAny (model PySem.Challenge.rw_no0230_01.row.prog w) (ktrTop dp un gd cn cs L a ccd cl outer) (call (.ref f) vs) Q E s :=
  c.use B F X N T hk hd hu fun r nw h' tk' F' N' o => out_strP (G := fun r nw => News h₀ L h' nw → Q r { s with heap := h', toks := tk' }) (fun q t N' => ret t h' tk' F' N' q) r nw o N'
theorem Claim.str2 {w : World} {f : Addr} {k : Nat} {news : List (Addr × Obj)} {vs : List Value} {nw₁ : List (Addr × Obj)} {S : Str} {P P' : Str → Prop} (c : Claim w f k news vs fun r nw => nw = nw₁ ∧ ∃ t x, r = .str x t ∧ x = S ∧ P x ∧ P' x) {mean : ExcName → Option Value} {mg mb : Str → Option Value} {dp un : Nat} {gd : Option (List Code)} {cn : Str} {cs : Scope} {a : Addr} {ccd : Value} {cl : List (Str × Addr)} {outer : List Env} {A₀ : Around} {base h₀ : Heap} {L : Addr} {m : Str → Option Value} {s : Shared} {Q E : Value → Shared → Prop} (B : Below A₀ base outer h₀) (F : Fr h₀ L s.heap m) (X : (hd.heap_39 w.params).In h₀) (N : News h₀ L s.heap news) (T : Top hd.view_39 (looseW hd.view_39 []) mean mg mb h₀) (hk : cs.kind = .function) (hd : dp + k < recursionLimit) (hu : un + 8 * k < cLine)
    (ret : ∀ (t : Tok) (h' : Heap) (tk' : Nat), Fr h₀ L h' m → News h₀ L h' nw₁ → P S → P' S → Q (.str S t) { s with heap := h', toks := tk' }) : wpAny (model PySem.Challenge.rw_no0230_01.row.prog w) (ktrTop dp un gd cn cs L a ccd cl outer) (call (.ref f) vs) Q E s :=
  c.use B F X N T hk hd hu fun r nw h' tk' F' N' o => out_strP (P := fun x => P x ∧ P' x) (G := fun r nw => News h₀ L h' nw → Q r { s with heap := h', toks := tk' }) (fun q t N' => ret t h' tk' F' N' q.1 q.2) r nw o N'
theorem Claim.int2 {w : World} {f : Addr} {k : Nat} {news : List (Addr × Obj)} {vs : List Value} {nw₁ : List (Addr × Obj)} {S : Int} {P P' : Int → Prop} (c : Claim w f k news vs fun r nw => nw = nw₁ ∧ ∃ t x, r = .int x t ∧ x = S ∧ P x ∧ P' x) {mean : ExcName → Option Value} {mg mb : Str → Option Value} {dp un : Nat} {gd : Option (List Code)} {cn : Str} {cs : Scope} {a : Addr} {ccd : Value} {cl : List (Str × Addr)} {outer : List Env} {A₀ : Around} {base h₀ : Heap} {L : Addr} {m : Str → Option Value} {s : Shared} {Q E : Value → Shared → Prop} (B : Below A₀ base outer h₀) (F : Fr h₀ L s.heap m) (X : (hd.heap_39 w.params).In h₀) (N : News h₀ L s.heap news) (T : Top hd.view_39 (looseW hd.view_39 []) mean mg mb h₀) (hk : cs.kind = .function) (hd : dp + k < recursionLimit) (hu : un + 8 * k < cLine)
    (ret : ∀ (t : Tok) (h' : Heap) (tk' : Nat), Fr h₀ L h' m → News h₀ L h' nw₁ → P S → P' S → Q (.int S t) { s with heap := h', toks := tk' }) : wpAny (model PySem.Challenge.rw_no0230_01.row.prog w) (ktrTop dp un gd cn cs L a ccd cl outer) (call (.ref f) vs) Q E s :=
  c.use B F X N T hk hd hu fun r nw h' tk' F' N' o => out_int2 (G := fun r nw => News h₀ L h' nw → Q r { s with heap := h', toks := tk' }) (fun q q' t N' => ret t h' tk' F' N' q q') r nw o N'
theorem Claim.pairS {w : World} {f : Addr} {k : Nat} {news : List (Addr × Obj)} {vs : List Value} {nw₁ : List (Addr × Obj)} {S S' : Str} {P1 P2 P3 P4 : Str → Prop} (c : Claim w f k news vs fun r nw => ∃ x u v a b, r = .ref x ∧ nw = (x, tupO [.str a u, .str b v]) :: nw₁ ∧ (∀ q ∈ nw₁, q.1 < x) ∧ a = S ∧ b = S' ∧ P1 a ∧ P2 b ∧ P3 a ∧ P4 b) {mean : ExcName → Option Value} {mg mb : Str → Option Value} {dp un : Nat} {gd : Option (List Code)} {cn : Str} {cs : Scope} {a : Addr} {ccd : Value} {cl : List (Str × Addr)} {outer : List Env} {A₀ : Around} {base h₀ : Heap} {L : Addr} {m : Str → Option Value} {s : Shared} {Q E : Value → Shared → Prop} (B : Below A₀ base outer h₀) (F : Fr h₀ L s.heap m) (X : (hd.heap_39 w.params).In h₀) (N : News h₀ L s.heap news) (T : Top hd.view_39 (looseW hd.view_39 []) mean mg mb h₀) (hk : cs.kind = .function) (hd : dp + k < recursionLimit) (hu : un + 8 * k < cLine)
    (ret : ∀ (x : Addr) (u v : Tok) (h' : Heap) (tk' : Nat), Fr h₀ L h' m → News h₀ L h' ((x, tupO [.str S u, .str S' v]) :: nw₁) → (∀ q ∈ nw₁, q.1 < x) → P1 S → P2 S' → P3 S → P4 S' → Q (.ref x) { s with heap := h', toks := tk' }) : wpAny (model PySem.Challenge.rw_no0230_01.row.prog w) (ktrTop dp un gd cn cs L a ccd cl outer) (call (.ref f) vs) Q E s :=
  c.use B F X N T hk hd hu fun r nw h' tk' F' N' o => out_pairS (G := fun r nw => News h₀ L h' nw → Q r { s with heap := h', toks := tk' }) (fun q1 q2 q3 q4 x u v g N' => ret x u v h' tk' F' N' g q1 q2 q3 q4) r nw o N'
theorem Claim.pairI {w : World} {f : Addr} {k : Nat} {news : List (Addr × Obj)} {vs : List Value} {nw₁ : List (Addr × Obj)} {S : Str} {S' : Int} {P1 : Str → Prop} {P2 P3 : Int → Prop} (c : Claim w f k news vs fun r nw => ∃ x u v a b, r = .ref x ∧ nw = (x, tupO [.str a u, .int b v]) :: nw₁ ∧ (∀ q ∈ nw₁, q.1 < x) ∧ a = S ∧ b = S' ∧ P1 a ∧ P2 b ∧ P3 b) {mean : ExcName → Option Value} {mg mb : Str → Option Value} {dp un : Nat} {gd : Option (List Code)} {cn : Str} {cs : Scope} {a : Addr} {ccd : Value} {cl : List (Str × Addr)} {outer : List Env} {A₀ : Around} {base h₀ : Heap} {L : Addr} {m : Str → Option Value} {s : Shared} {Q E : Value → Shared → Prop} (B : Below A₀ base outer h₀) (F : Fr h₀ L s.heap m) (X : (hd.heap_39 w.params).In h₀) (N : News h₀ L s.heap news) (T : Top hd.view_39 (looseW hd.view_39 []) mean mg mb h₀) (hk : cs.kind = .function) (hd : dp + k < recursionLimit) (hu : un + 8 * k < cLine)
    (ret : ∀ (x : Addr) (u v : Tok) (h' : Heap) (tk' : Nat), Fr h₀ L h' m → News h₀ L h' ((x, tupO [.str S u, .int S' v]) :: nw₁) → (∀ q ∈ nw₁, q.1 < x) → P1 S → P2 S' → P3 S' → Q (.ref x) { s with heap := h', toks := tk' }) : wpAny (model PySem.Challenge.rw_no0230_01.row.prog w) (ktrTop dp un gd cn cs L a ccd cl outer) (call (.ref f) vs) Q E s :=
  c.use B F X N T hk hd hu fun r nw h' tk' F' N' o => out_pairI (G := fun r nw => News h₀ L h' nw → Q r { s with heap := h', toks := tk' }) (fun q1 q2 q3 x u v g N' => ret x u v h' tk' F' N' g q1 q2 q3) r nw o N'
theorem Claim.orN {w : World} {f : Addr} {k : Nat} {news : List (Addr × Obj)} {vs : List Value} {nw₁ : List (Addr × Obj)} {C : Prop} {S : Str} {P : Str → Prop} (c : Claim w f k news vs fun r nw => nw = nw₁ ∧ ((C ∧ r = .none) ∨ (¬ C ∧ ∃ t x, r = .str x t ∧ x = S ∧ P x))) {mean : ExcName → Option Value} {mg mb : Str → Option Value} {dp un : Nat} {gd : Option (List Code)} {cn : Str} {cs : Scope} {a : Addr} {ccd : Value} {cl : List (Str × Addr)} {outer : List Env} {A₀ : Around} {base h₀ : Heap} {L : Addr} {m : Str → Option Value} {s : Shared} {Q E : Value → Shared → Prop} (B : Below A₀ base outer h₀) (F : Fr h₀ L s.heap m) (X : (hd.heap_39 w.params).In h₀) (N : News h₀ L s.heap news) (T : Top hd.view_39 (looseW hd.view_39 []) mean mg mb h₀) (hk : cs.kind = .function) (hd : dp + k < recursionLimit) (hu : un + 8 * k < cLine)
    (ret1 : ∀ (h' : Heap) (tk' : Nat), Fr h₀ L h' m → News h₀ L h' nw₁ → C → Q .none { s with heap := h', toks := tk' }) (ret2 : ∀ (t : Tok) (h' : Heap) (tk' : Nat), Fr h₀ L h' m → News h₀ L h' nw₁ → ¬ C → P S → Q (.str S t) { s with heap := h', toks := tk' }) : wpAny (model PySem.Challenge.rw_no0230_01.row.prog w) (ktrTop dp un gd cn cs L a ccd cl outer) (call (.ref f) vs) Q E s :=
  c.use B F X N T hk hd hu fun r nw h' tk' F' N' o => out_orN (G := fun r nw => News h₀ L h' nw → Q r { s with heap := h', toks := tk' }) (fun g N' => ret1 h' tk' F' N' g) (fun g q t N' => ret2 t h' tk' F' N' g q) r nw o N'
theorem Claim.orB {w : World} {f : Addr} {k : Nat} {news : List (Addr × Obj)} {vs : List Value} {nw₁ : List (Addr × Obj)} {C1 C2 C3 D : Prop} (c : Claim w f k news vs fun r nw => nw = nw₁ ∧ ((C1 ∧ C2 ∧ C3 ∧ r = .bool true) ∨ (D ∧ r = .bool false))) {mean : ExcName → Option Value} {mg mb : Str → Option Value} {dp un : Nat} {gd : Option (List Code)} {cn : Str} {cs : Scope} {a : Addr} {ccd : Value} {cl : List (Str × Addr)} {outer : List Env} {A₀ : Around} {base h₀ : Heap} {L : Addr} {m : Str → Option Value} {s : Shared} {Q E : Value → Shared → Prop} (B : Below A₀ base outer h₀) (F : Fr h₀ L s.heap m) (X : (hd.heap_39 w.params).In h₀) (N : News h₀ L s.heap news) (T : Top hd.view_39 (looseW hd.view_39 []) mean mg mb h₀) (hk : cs.kind = .function) (hd : dp + k < recursionLimit) (hu : un + 8 * k < cLine)
    (ret1 : ∀ (h' : Heap) (tk' : Nat), Fr h₀ L h' m → News h₀ L h' nw₁ → C1 → C2 → C3 → Q (.bool true) { s with heap := h', toks := tk' }) (ret2 : ∀ (h' : Heap) (tk' : Nat), Fr h₀ L h' m → News h₀ L h' nw₁ → D → Q (.bool false) { s with heap := h', toks := tk' }) : wpAny (model PySem.Challenge.rw_no0230_01.row.prog w) (ktrTop dp un gd cn cs L a ccd cl outer) (call (.ref f) vs) Q E s :=
  c.use B F X N T hk hd hu fun r nw h' tk' F' N' o => out_orB (G := fun r nw => News h₀ L h' nw → Q r { s with heap := h', toks := tk' }) (fun g1 g2 g3 N' => ret1 h' tk' F' N' g1 g2 g3) (fun g N' => ret2 h' tk' F' N' g) r nw o N'
theorem Claim.draw {w : World} {f : Addr} {k : Nat} {news : List (Addr × Obj)} {vs : List Value} {g : Tok → List (Addr × Obj)} {P1 P2 : Int → Prop} (c : Claim w f k news vs fun r nw => (∃ t, nw = g t) ∧ ∃ t x, r = .int x t ∧ P1 x ∧ P2 x) {mean : ExcName → Option Value} {mg mb : Str → Option Value} {dp un : Nat} {gd : Option (List Code)} {cn : Str} {cs : Scope} {a : Addr} {ccd : Value} {cl : List (Str × Addr)} {outer : List Env} {A₀ : Around} {base h₀ : Heap} {L : Addr} {m : Str → Option Value} {s : Shared} {Q E : Value → Shared → Prop} (B : Below A₀ base outer h₀) (F : Fr h₀ L s.heap m) (X : (hd.heap_39 w.params).In h₀) (N : News h₀ L s.heap news) (T : Top hd.view_39 (looseW hd.view_39 []) mean mg mb h₀) (hk : cs.kind = .function) (hd : dp + k < recursionLimit) (hu : un + 8 * k < cLine)
    (ret : ∀ (t u : Tok) (x : Int) (h' : Heap) (tk' : Nat), Fr h₀ L h' m → News h₀ L h' (g t) → P1 x → P2 x → Q (.int x u) { s with heap := h', toks := tk' }) : wpAny (model PySem.Challenge.rw_no0230_01.row.prog w) (ktrTop dp un gd cn cs L a ccd cl outer) (call (.ref f) vs) Q E s :=
  c.use B F X N T hk hd hu fun r nw h' tk' F' N' o => out_draw (G := fun r nw => News h₀ L h' nw → Q r { s with heap := h', toks := tk' }) (fun t u x q1 q2 N' => ret t u x h' tk' F' N' q1 q2) r nw o N'
theorem Claim.real {w : World} {f : Addr} {k : Nat} {news : List (Addr × Obj)} {vs : List Value} {g : Tok → List (Addr × Obj)} {P1 P2 P3 P4 : Int → Prop} (c : Claim w f k news vs fun r nw => ∃ (x : Addr) (n p : Int) (u1 u2 t : Tok), r = .ref x ∧ nw = (x, tupO [.int n u1, .int p u2]) :: g t ∧ (∀ q ∈ g t, q.1 < x) ∧ P1 n ∧ P2 n ∧ P3 p ∧ P4 p) {mean : ExcName → Option Value} {mg mb : Str → Option Value} {dp un : Nat} {gd : Option (List Code)} {cn : Str} {cs : Scope} {a : Addr} {ccd : Value} {cl : List (Str × Addr)} {outer : List Env} {A₀ : Around} {base h₀ : Heap} {L : Addr} {m : Str → Option Value} {s : Shared} {Q E : Value → Shared → Prop} (B : Below A₀ base outer h₀) (F : Fr h₀ L s.heap m) (X : (hd.heap_39 w.params).In h₀) (N : News h₀ L s.heap news) (T : Top hd.view_39 (looseW hd.view_39 []) mean mg mb h₀) (hk : cs.kind = .function) (hd : dp + k < recursionLimit) (hu : un + 8 * k < cLine)
    (ret : ∀ (x : Addr) (n p : Int) (u1 u2 t : Tok) (h' : Heap) (tk' : Nat), Fr h₀ L h' m → News h₀ L h' ((x, tupO [.int n u1, .int p u2]) :: g t) → (∀ q ∈ g t, q.1 < x) → P1 n → P2 n → P3 p → P4 p → Q (.ref x) { s with heap := h', toks := tk' }) : wpAny (model PySem.Challenge.rw_no0230_01.row.prog w) (ktrTop dp un gd cn cs L a ccd cl outer) (call (.ref f) vs) Q E s :=
  c.use B F X N T hk hd hu fun r nw h' tk' F' N' o => out_real (G := fun r nw => News h₀ L h' nw → Q r { s with heap := h', toks := tk' }) (fun x n p u1 u2 t g q1 q2 q3 q4 N' => ret x n p u1 u2 t h' tk' F' N' g q1 q2 q3 q4) r nw o N'
/-- a mark: the way at hand is one of those that are to meet (a rule asks for it, so as not to serve itself) -/
@[irreducible] def Met (_ : Nat) : Prop := True
theorem met (k : Nat) : Met k := by unfold Met; trivial
section
variable {M : Model} {A : Around} {E : Value → Shared → Prop} {s : Shared} {h₀ : Heap} {L : Addr} {m : Str → Option Value} {news : List (Addr × Obj)} (F0 : Fr h₀ L s.heap m) (N0 : News h₀ L s.heap news)
include F0 N0
/-- ways that meet: what a step hands back is said once, and walked once behind it -/
theorem meet_val (i : Nat) {T : Sem Value} {Q : Value → Shared → Prop} {v : Tok → Value}
    (walk : ∀ Q' : Value → Shared → Prop, Met i → (∀ (t : Tok) (h' : Heap) (tk' : Nat), Fr h₀ L h' m → News h₀ L h' news → Q' (v t) { s with heap := h', toks := tk' }) → wpAny M A T Q' E s)
    (ret : ∀ (t : Tok) (h' : Heap) (tk' : Nat), Fr h₀ L h' m → News h₀ L h' news → Q (v t) { s with heap := h', toks := tk' }) : wpAny M A T Q E s := walk Q (met i) ret
theorem meet_any (i : Nat) {T : Sem Value} {Q : Value → Shared → Prop} {P : Value → Prop}
    (walk : ∀ Q' : Value → Shared → Prop, Met i → (∀ (v : Value) (h' : Heap) (tk' : Nat), Fr h₀ L h' m → News h₀ L h' news → P v → Q' v { s with heap := h', toks := tk' }) → wpAny M A T Q' E s)
    (ret : ∀ (v : Value) (h' : Heap) (tk' : Nat), Fr h₀ L h' m → News h₀ L h' news → P v → Q v { s with heap := h', toks := tk' }) : wpAny M A T Q E s := walk Q (met i) ret
theorem meet_test (i : Nat) {T : Sem Bool} {Q : Bool → Shared → Prop} {C : Prop}
    (walk : ∀ Q' : Bool → Shared → Prop, Met i → (∀ (h' : Heap) (tk' : Nat), Fr h₀ L h' m → News h₀ L h' news → C → Q' true { s with heap := h', toks := tk' }) → (∀ (h' : Heap) (tk' : Nat), Fr h₀ L h' m → News h₀ L h' news → ¬ C → Q' false { s with heap := h', toks := tk' }) → wpAny M A T Q' E s)
    (ret1 : ∀ (h' : Heap) (tk' : Nat), Fr h₀ L h' m → News h₀ L h' news → C → Q true { s with heap := h', toks := tk' }) (ret2 : ∀ (h' : Heap) (tk' : Nat), Fr h₀ L h' m → News h₀ L h' news → ¬ C → Q false { s with heap := h', toks := tk' }) : wpAny M A T Q E s := walk Q (met i) ret1 ret2
theorem meet_set (i : Nat) {T : Sem Flow} {Q : Flow → Shared → Prop} {x : Str} {v : Tok → Value}
    (walk : ∀ Q' : Flow → Shared → Prop, Met i → (∀ (t : Tok) (h' : Heap) (tk' : Nat), Fr h₀ L h' (fun y => if y = x then some (v t) else m y) → News h₀ L h' news → Q' .next { s with heap := h', toks := tk' }) → wpAny M A T Q' E s)
    (ret : ∀ (t : Tok) (h' : Heap) (tk' : Nat), Fr h₀ L h' (fun y => if y = x then some (v t) else m y) → News h₀ L h' news → Q .next { s with heap := h', toks := tk' }) : wpAny M A T Q E s := walk Q (met i) ret
theorem meet_setI (i : Nat) {T : Sem Flow} {Q : Flow → Shared → Prop} {x : Str} (a b : Int)
    (walk : ∀ Q' : Flow → Shared → Prop, Met i → (∀ (k : Int) (t : Tok) (h' : Heap) (tk' : Nat), Fr h₀ L h' (fun y => if y = x then some (.int k t) else m y) → News h₀ L h' news → a ≤ k → k ≤ b → Q' .next { s with heap := h', toks := tk' }) → wpAny M A T Q' E s)
    (ret : ∀ (k : Int) (t : Tok) (h' : Heap) (tk' : Nat), Fr h₀ L h' (fun y => if y = x then some (.int k t) else m y) → News h₀ L h' news → a ≤ k → k ≤ b → Q .next { s with heap := h', toks := tk' }) : wpAny M A T Q E s := walk Q (met i) ret
end
theorem Fr.again {h₀ h : Heap} {L : Addr} {m : Str → Option Value} {x : Str} {v : Value} (F : Fr h₀ L h m) (e : m x = some v) : Fr h₀ L h (fun y => if y = x then some v else m y) := by
  have h : (fun y => if y = x then some v else m y) = m := by
    funext y
    by_cases hy : y = x
    · rw [if_pos hy, hy, e]
    · rw [if_neg hy]
  rw [h]; exact F
theorem Fr.as {h₀ h : Heap} {L : Addr} {m : Str → Option Value} {x : Str} {v v' : Value} (F : Fr h₀ L h (fun y => if y = x then some v else m y)) (e : v = v') : Fr h₀ L h (fun y => if y = x then some v' else m y) := e ▸ F
theorem Fr.over {h₀ h : Heap} {L : Addr} {m : Str → Option Value} {x : Str} {v v' : Value} (F : Fr h₀ L h (fun y => if y = x then some v else m y)) : Fr h₀ L h (fun y => if y = x then some v else if y = x then some v' else m y) := by
  have h : (fun y => if y = x then some v else if y = x then some v' else m y) = (fun y => if y = x then some v else m y) := by
    funext y
    by_cases hy : y = x
    · rw [if_pos hy, if_pos hy]
    · rw [if_neg hy, if_neg hy, if_neg hy]
  rw [h]; exact F
theorem bool_as {Q : Value → Shared → Prop} {s : Shared} {x y : Bool} (e : x = y) (h : Q (.bool y) s) : Q (.bool x) s := e ▸ h
theorem neg_1 {n : Int} {b : Bool} (h : n < 0) : b = (decide (n < 0) && b) := by rw [decide_eq_true h, Bool.true_and]
theorem neg_2 {n : Int} {b : Bool} (h : ¬ n < 0) : decide (n < 0) = (decide (n < 0) && b) := by rw [decide_eq_false h, Bool.false_and]
theorem str_as {Q : Value → Shared → Prop} {s : Shared} {x y : Str} {t : Tok} (e : x = y) (h : Q (.str y t) s) : Q (.str x t) s := e ▸ h
theorem int_as {Q : Value → Shared → Prop} {s : Shared} {x y : Int} {t : Tok} (e : x = y) (h : Q (.int y t) s) : Q (.int x t) s := e ▸ h
theorem ten_pow_pos (k : Nat) : (0 : Int) < 10 ^ k := Int.pow_pos (by decide)
theorem ten_pow_ne (k : Nat) : (10 : Int) ^ k ≠ 0 := Int.ne_of_gt (ten_pow_pos k)
theorem two_ten_ne (k : Nat) : 2 * (10 : Int) ^ k ≠ 0 := by
  have := ten_pow_pos k
  omega
theorem log2_small {b : Int} (h0 : 0 < b) (h1 : b < 2 ^ 128) : b.natAbs.log2 < 9000 := by
  have h2 : b.natAbs ≠ 0 := by omega
  have h3 : b.natAbs < 2 ^ 128 := by omega
  have := (Nat.log2_lt h2).mpr h3
  omega
theorem ten_pow_le {k n : Nat} (h : k ≤ n) : (10 : Int) ^ k ≤ 10 ^ n := by
  have := Nat.pow_le_pow_right (n := 10) (by decide) h
  exact_mod_cast this
theorem ten_py {k : Nat} (h : k ≤ 30) : ((10 : Int) ^ k).natAbs.log2 < 9000 := by
  refine log2_small (ten_pow_pos k) (Int.lt_of_le_of_lt (ten_pow_le h) (by decide))
theorem two_ten_py {k : Nat} (h : k ≤ 30) : (2 * (10 : Int) ^ k).natAbs.log2 < 9000 := by
  have h1 := ten_pow_pos k
  have h2 := ten_pow_le h
  refine log2_small (by omega) (Int.lt_of_le_of_lt (b := 2 * 10 ^ 30) (by omega) (by decide))

@[irreducible] noncomputable def fieldS (text : Str) (width : Int) : Str := if width < text.length then Txt.mul (Str.ofString "*") width else Txt.mul (Str.ofString " ") (width - text.length) ++ text
@[irreducible] noncomputable def signS (a b : Bool) : Str := if a then Str.ofString "-" else if b then Str.ofString "+" else Str.ofString ""
@[irreducible] noncomputable def scaledI (n p : Int) : Int := if 0 ≤ p then n * 10 ^ p.toNat else (2 * n + 10 ^ (-p).toNat).fdiv (2 * 10 ^ (-p).toNat)

theorem mulS_len {x : Str} (hx : x.length = 1) {n : Int} (h : 0 ≤ n) : ((Txt.mul x n).length : Int) = n := by
  have e := len_mul x n
  rw [if_neg (by simp; omega), hx] at e
  omega
theorem fieldS_len {text : Str} {width : Int} (h : 0 ≤ width) : ((fieldS text width).length : Int) = width := by
  unfold fieldS
  split
  · exact mulS_len (by decide) h
  · rw [strLen_append]
    have := mulS_len (x := Str.ofString " ") (by decide) (n := width - text.length) (by omega)
    omega
theorem signS_len (a b : Bool) : (signS a b).length ≤ 1 := by
  unfold signS
  cases a <;> cases b <;> decide
theorem scaledI_pos {n p : Int} (h1 : 0 ≤ n) : 0 ≤ scaledI n p := by
  unfold scaledI
  split
  · exact Int.mul_nonneg h1 (Int.le_of_lt (ten_pow_pos _))
  · have := ten_pow_pos (-p).toNat
    exact Int.fdiv_nonneg (by omega) (by omega)
theorem fdiv_le_self {a b : Int} (ha : 0 ≤ a) (hb : 0 < b) : a.fdiv b ≤ a := by
  rw [Int.fdiv_eq_ediv_of_nonneg _ (Int.le_of_lt hb)]
  exact Int.ediv_le_self _ ha
theorem scaledI_lt {n p : Int} (h1 : 0 ≤ n) (h2 : n < 10 ^ 10) (h3 : -30 ≤ p) (h4 : p ≤ 30) : scaledI n p < 10 ^ 40 := by
  unfold scaledI
  split
  · have a := ten_pow_pos p.toNat
    have b : (10 : Int) ^ p.toNat ≤ 10 ^ 30 := ten_pow_le (by omega)
    have c : n * 10 ^ p.toNat < 10 ^ 10 * 10 ^ p.toNat := Int.mul_lt_mul_of_pos_right h2 a
    have d : (10 : Int) ^ 10 * 10 ^ p.toNat ≤ 10 ^ 10 * 10 ^ 30 := Int.mul_le_mul_of_nonneg_left b (by decide)
    have e : (10 : Int) ^ 10 * 10 ^ 30 = 10 ^ 40 := by decide
    omega
  · have a := ten_pow_pos (-p).toNat
    have b : (10 : Int) ^ (-p).toNat ≤ 10 ^ 30 := ten_pow_le (by omega)
    have h := fdiv_le_self (a := 2 * n + 10 ^ (-p).toNat) (b := 2 * 10 ^ (-p).toNat) (by omega) (by omega)
    have e : 2 * (10 : Int) ^ 10 + 10 ^ 30 < 10 ^ 40 := by decide
    omega

theorem len_e : (Str.ofString "").length = 0 := by decide
theorem len_z : (Str.ofString "0").length = 1 := by decide
theorem len_p : (Str.ofString ".").length = 1 := by decide
theorem len_zp : (Str.ofString "0.").length = 2 := by decide
theorem len_m : (Str.ofString "-").length = 1 := by decide
theorem len_q : (Str.ofString "+").length = 1 := by decide
theorem len_s : (Str.ofString "*").length = 1 := by decide
theorem len_b : (Str.ofString " ").length = 1 := by decide
@[irreducible] noncomputable def numS (x : Int) : Str := Str.ofString (toString x)
section
variable {prog : Program} {w : World} {A : Around} {E : Value → Shared → Prop} {s : Shared} {Q : Value → Shared → Prop} {t : Tok} {n : Int}
theorem str_num (k : Nat) (hk : 0 < k) (hk2 : k ≤ 40) (h0 : 0 ≤ n) (h1 : n < 10 ^ k) (h : 1 ≤ (numS n).length → (numS n).length ≤ k → Q (.str (numS n) s.toks) { s with toks := s.toks + 1 }) :
    wpAny (model prog w) A (call (.type "str") [.int n t]) Q E s := by
  unfold numS at h
  have h2 : n < 10 ^ 40 := Int.lt_of_lt_of_le h1 (ten_pow_le hk2)
  exact P.str_of_int (shown (N := 2 ^ 1920) (by omega) (Int.lt_trans h2 (by decide +kernel)) (Int.le_refl _)) (h (KLn.one_le h0) (toString_length_le h0 hk h1))
theorem ofString_app (a b : String) : Str.ofString (a ++ b) = Str.ofString a ++ Str.ofString b := by
  refine Str.ext' ?_
  rw [Str.cps_append]
  apply Array.toList_inj.mp
  rw [Array.toList_append, signs_ofString, signs_ofString, signs_ofString, String.toList_append, List.map_append]
theorem numS_neg (h0 : n < 0) : Str.ofString (toString n) = Str.ofString "-" ++ numS ((n.natAbs : Nat) : Int) := by
  unfold numS
  rw [toString_neg h0, ofString_app]
  have e : (0 : Int) - n = ((n.natAbs : Nat) : Int) := by omega
  rw [e]
theorem str_neg (h0 : n < 0) (h1 : - 10 ^ 11 < n) (h : 1 ≤ (numS ((n.natAbs : Nat) : Int)).length → (numS ((n.natAbs : Nat) : Int)).length ≤ 11 → Q (.str (Str.ofString "-" ++ numS ((n.natAbs : Nat) : Int)) s.toks) { s with toks := s.toks + 1 }) :
    wpAny (model prog w) A (call (.type "str") [.int n t]) Q E s := by
  have e := numS_neg h0
  have l0 : 1 ≤ (numS ((n.natAbs : Nat) : Int)).length := by
    unfold numS
    exact KLn.one_le (by omega)
  have l : (numS ((n.natAbs : Nat) : Int)).length ≤ 11 := by
    unfold numS
    exact toString_length_le (v := ((n.natAbs : Nat) : Int)) (by omega) (k := 11) (by decide) (by omega)
  have h := h l0 l
  rw [← e] at h
  exact P.str_of_int (shown (N := 2 ^ 1920) (Int.lt_trans (by decide +kernel) h1) (Int.lt_trans h0 (by decide +kernel)) (Int.le_refl _)) h
theorem abs_num (h : ∀ u tk, Q (.int ((n.natAbs : Nat) : Int) u) { s with toks := tk }) : wpAny (model prog w) A (call (.builtin "abs") [.int n t]) Q E s := by
  refine call_abs_int fun u tk => ?_
  have e : (if n < 0 then -n else n) = ((n.natAbs : Nat) : Int) := by
    split <;> omega
  rw [e]
  exact h u tk
end
theorem slice_minus (x : Str) : Txt.slice (Str.ofString "-" ++ x) (some 1) none = x := by
  have hl : (Str.ofString "-" ++ x).length = 1 + x.length := by rw [strLen_append, len_m]
  rw [slice_from_eq (b := ((1 + x.length : Nat) : Int)) (by decide) (by omega) (by rw [hl])]
  refine Str.ext' ?_
  apply Array.toList_inj.mp
  have e : (Str.ofString "-" ++ x).cps.toList = 45 :: x.cps.toList := by
    rw [Str.cps_append, Array.toList_append, signs_ofString]
    rfl
  have lx : x.cps.toList.length = x.length := Array.length_toList
  show (((Str.ofString "-" ++ x).cps.toList.drop (1 : Int).toNat).take (((1 + x.length : Nat) : Int) - 1).toNat).toArray.toList = _
  rw [e, List.toList_toArray]
  show List.take (((1 + x.length : Nat) : Int) - 1).toNat x.cps.toList = _
  rw [List.take_of_length_le (by omega)]
section
variable {prog : Program} {w : World} {A : Around} {E : Value → Shared → Prop} {s : Shared} {h₀ : Heap} {L : Addr} {m : Str → Option Value} {news : List (Addr × Obj)} {value slice : PySem.Expr} {x : Str} {t : Tok} {Q : Value → Shared → Prop}
theorem sl_ns {j : Int} {uj : Tok} (hF : Fr h₀ L s.heap m) (hN : News h₀ L s.heap news) (hsz : x.length ≤ 1000)
    (h : ∀ h' t' k, Fr h₀ L h' m → News h₀ L h' news → (Txt.slice x none (some j)).length ≤ x.length → (0 ≤ j → j ≤ (x.length : Int) → ((Txt.slice x none (some j)).length : Int) = j) → Q (.str (Txt.slice x none (some j)) t') { s with heap := h', toks := k })
    (hs : subscripted slice false (.str x t) (.ref s.heap.objs.size) = operate [.ref s.heap.objs.size, .str x t] (getItem (.str x t) (.ref s.heap.objs.size)) := by with_unfolding_all rfl)
    (ht : ∀ r, letTemporaryGo value (.str x t) r = pure () := by intro _; with_unfolding_all rfl) :
    wpAny (model prog w) A (subscriptTail value slice (.str x t) (.ref s.heap.objs.size)) Q E { s with heap := s.heap.push { cls := .type "slice", data := .fields #[.none, .int j uj, .none] } } :=
  slice_strN_ns hF hN (fun h' t' k a b => h h' t' k a b (Txt.slice_le x _ _) (fact_slice_ns x j).1) hs ht (by rw [sizeLine_eq]; omega)
theorem sl_sn {i : Int} {ui : Tok} (hF : Fr h₀ L s.heap m) (hN : News h₀ L s.heap news) (hsz : x.length ≤ 1000)
    (h : ∀ h' t' k, Fr h₀ L h' m → News h₀ L h' news → (Txt.slice x (some i) none).length ≤ x.length → (0 ≤ i → i ≤ (x.length : Int) → ((Txt.slice x (some i) none).length : Int) = x.length - i) → Q (.str (Txt.slice x (some i) none) t') { s with heap := h', toks := k })
    (hs : subscripted slice false (.str x t) (.ref s.heap.objs.size) = operate [.ref s.heap.objs.size, .str x t] (getItem (.str x t) (.ref s.heap.objs.size)) := by with_unfolding_all rfl)
    (ht : ∀ r, letTemporaryGo value (.str x t) r = pure () := by intro _; with_unfolding_all rfl) :
    wpAny (model prog w) A (subscriptTail value slice (.str x t) (.ref s.heap.objs.size)) Q E { s with heap := s.heap.push { cls := .type "slice", data := .fields #[.int i ui, .none, .none] } } :=
  slice_strN_sn hF hN (fun h' t' k a b => h h' t' k a b (Txt.slice_le x _ _) (fact_slice_sn x i).1) hs ht (by rw [sizeLine_eq]; omega)
theorem sl_minus (hF : Fr h₀ L s.heap m) (hN : News h₀ L s.heap news) (hsz : x.length ≤ 1000) {ui : Tok}
    (h : ∀ h' t' k, Fr h₀ L h' m → News h₀ L h' news → Q (.str x t') { s with heap := h', toks := k })
    (hs : subscripted slice false (.str (Str.ofString "-" ++ x) t) (.ref s.heap.objs.size) = operate [.ref s.heap.objs.size, .str (Str.ofString "-" ++ x) t] (getItem (.str (Str.ofString "-" ++ x) t) (.ref s.heap.objs.size)) := by with_unfolding_all rfl)
    (ht : ∀ r, letTemporaryGo value (.str (Str.ofString "-" ++ x) t) r = pure () := by intro _; with_unfolding_all rfl) :
    wpAny (model prog w) A (subscriptTail value slice (.str (Str.ofString "-" ++ x) t) (.ref s.heap.objs.size)) Q E { s with heap := s.heap.push { cls := .type "slice", data := .fields #[.int 1 ui, .none, .none] } } :=
  slice_strN_sn hF hN (fun h' t' k a b => by rw [slice_minus]; exact h h' t' k a b) hs ht (by rw [sizeLine_eq, strLen_append, len_m]; omega)
end
section
local macro_rules | `(tactic| walk_at "binaryOp FloorDiv int int") => `(tactic| (k_here; first
  | (with_reducible refine floordiv_int (two_ten_ne _) ?_ (Or.inl (PyProof.noPylong_of_log2 (two_ten_py (by omega)))))
  | (with_reducible refine floordiv_int (ten_pow_ne _) ?_ (Or.inl (PyProof.noPylong_of_log2 (ten_py (by omega)))))))

theorem field_ok (w : World) (news : List (Addr × Obj)) (text : Str) (width : Int) (t1 t2 : Tok) (h1 : text.length ≤ 1000) (h2 : 0 ≤ width) (h3 : width ≤ 1000) :
    Claim w 60 1 news [.str text t1, .int width t2] fun r nw => nw = news ∧ ∃ t x, r = .str x t ∧ x = fieldS text width ∧ (x.length : Int) = width := by
  unfold Claim
  k_fill
  intros
  rename_i hret
  refine wpAny_call ?_
  k_dflt ktr_enter
  k_steps
  all_goals (refine hret _ _ _ _ (by assumption) (by assumption) (have e := ?_; ⟨rfl, _, _, rfl, e, e ▸ fieldS_len h2⟩))
  all_goals (unfold fieldS)
  · exact (if_pos (by assumption)).symm
  · exact (if_neg (by assumption)).symm

theorem sign_ok (w : World) (news : List (Addr × Obj)) (a b : Bool) : Claim w 67 1 news [.bool a, .bool b] fun r nw => nw = news ∧ ∃ t x, r = .str x t ∧ x = signS a b ∧ x.length ≤ 1 := by
  unfold Claim
  k_fill
  intros
  rename_i hret
  refine wpAny_call ?_
  k_dflt ktr_enter
  k_steps
  all_goals (refine hret _ _ _ _ (by assumption) (by assumption) (have e := ?_; ⟨rfl, _, _, rfl, e, e ▸ signS_len a b⟩))
  all_goals (unfold signS; simp_all)

theorem lawsign_ok (w : World) (news : List (Addr × Obj)) (a b : Bool) : Claim w 172 1 news [.bool a, .bool b] fun r nw => nw = news ∧ ∃ t x, r = .str x t ∧ x = signS a b ∧ x.length ≤ 1 := by
  unfold Claim
  k_fill
  intros
  rename_i hret
  refine wpAny_call ?_
  k_dflt ktr_enter
  k_steps
  all_goals (refine hret _ _ _ _ (by assumption) (by assumption) (have e := ?_; ⟨rfl, _, _, rfl, e, e ▸ signS_len a b⟩))
  all_goals (unfold signS; simp_all)

theorem scaled_ok (w : World) (news : List (Addr × Obj)) (n p : Int) (t1 t2 : Tok) (h1 : 0 ≤ n) (h2 : n < 10 ^ 10) (h3 : -30 ≤ p) (h4 : p ≤ 30) :
    Claim w 74 1 news [.int n t1, .int p t2] fun r nw => nw = news ∧ ∃ t x, r = .int x t ∧ x = scaledI n p ∧ 0 ≤ x ∧ x < 10 ^ 40 := by
  unfold Claim
  k_fill
  intros
  rename_i hret
  refine wpAny_call ?_
  k_dflt ktr_enter
  k_steps
  all_goals (refine hret _ _ _ _ (by assumption) (by assumption) (have e := ?_; ⟨rfl, _, _, rfl, e, e ▸ scaledI_pos h1, e ▸ scaledI_lt h1 h2 h3 h4⟩))
  all_goals (unfold scaledI)
  · exact (if_pos (by assumption)).symm
  · exact (if_neg (by assumption)).symm
end
example : True := by
  k_with "subscriptTail" => (k_here; (with_reducible show wpAny _ _ (subscriptTail _ (Expr.Slice _ _ _ _) (Value.str _ _) (Value.ref _)) _ _ _); (with_reducible rename Fr _ _ _ _ => F'); (with_reducible rename News _ _ _ _ => N'); (first
  | ((with_reducible show wpAny _ _ (subscriptTail _ (Expr.Slice none (some _) none _) _ _) _ _ _); (refine sl_ns (s := ⟨_, _, _, _, _⟩) F' N' ?hsz ?_))
  | ((with_reducible show wpAny _ _ (subscriptTail _ (Expr.Slice (some _) none none _) _ _) _ _ _); (refine sl_sn (s := ⟨_, _, _, _, _⟩) F' N' ?hsz ?_))); (case hsz => first | omega | ((have l1 := len_e); (have l2 := len_z); (have l3 := len_p); (have l4 := len_zp); (have l5 := len_m); (have l6 := len_q); first | omega | (simp only [strLen_append]; omega))); intro _ _ _ _ _ _ _)
  k_with "subscriptTail Name Slice str ref" => (k_here; (with_reducible show wpAny _ _ (subscriptTail _ (Expr.Slice _ _ _ _) (Value.str _ _) (Value.ref _)) _ _ _); (with_reducible rename Fr _ _ _ _ => F'); (with_reducible rename News _ _ _ _ => N'); (first
  | ((with_reducible show wpAny _ _ (subscriptTail _ (Expr.Slice none (some _) none _) _ _) _ _ _); (refine sl_ns (s := ⟨_, _, _, _, _⟩) F' N' ?hsz ?_))
  | ((with_reducible show wpAny _ _ (subscriptTail _ (Expr.Slice (some _) none none _) _ _) _ _ _); (refine sl_sn (s := ⟨_, _, _, _, _⟩) F' N' ?hsz ?_))); (case hsz => first | omega | ((have l1 := len_e); (have l2 := len_z); (have l3 := len_p); (have l4 := len_zp); (have l5 := len_m); (have l6 := len_q); first | omega | (simp only [strLen_append]; omega))); intro _ _ _ _ _ _ _)
  k_with "subscriptTail Call" => (k_here; (with_reducible show wpAny _ _ (subscriptTail _ (Expr.Slice _ _ _ _) (Value.str _ _) (Value.ref _)) _ _ _); (with_reducible rename Fr _ _ _ _ => F'); (with_reducible rename News _ _ _ _ => N'); (first
  | ((with_reducible show wpAny _ _ (subscriptTail _ (Expr.Slice none (some _) none _) _ _) _ _ _); (refine sl_ns (s := ⟨_, _, _, _, _⟩) F' N' ?hsz ?_))
  | ((with_reducible show wpAny _ _ (subscriptTail _ (Expr.Slice (some _) none none _) _ _) _ _ _); (refine sl_sn (s := ⟨_, _, _, _, _⟩) F' N' ?hsz ?_))); (case hsz => first | omega | ((have l1 := len_e); (have l2 := len_z); (have l3 := len_p); (have l4 := len_zp); (have l5 := len_m); (have l6 := len_q); first | omega | (simp only [strLen_append]; omega))); intro _ _ _ _ _ _ _)
  k_with "subscriptTail Call" => (k_here; (with_reducible show wpAny _ _ (subscriptTail _ (Expr.Slice _ _ _ _) (Value.str (Str.ofString "-" ++ _) _) (Value.ref _)) _ _ _); (with_reducible rename Fr _ _ _ _ => F'); (with_reducible rename News _ _ _ _ => N'); (refine sl_minus (s := ⟨_, _, _, _, _⟩) F' N' ?hsz ?_); (case hsz => omega); intro _ _ _ _ _)
  k_with "call type:str" => (k_here; (with_reducible show wpAny _ _ (call (Value.type "str") [Value.int _ _]) _ _ _); first | (refine str_num 2 (by decide) (by decide) (by omega) (by omega) ?_; intro _ _) | (refine str_num 9 (by decide) (by decide) (by omega) (by omega) ?_; intro _ _) | (refine str_num 11 (by decide) (by decide) (by omega) (by omega) ?_; intro _ _) | (refine str_num 40 (by decide) (by decide) (by omega) (by omega) ?_; intro _ _) | (refine str_neg (by omega) (by omega) ?_; intro _ _))
  k_with "call builtin:abs" => (k_here; (with_reducible refine abs_num ?_); intro _ _)
  k_with "call ref" => (k_here; (with_reducible show wpAny _ _ (call (Value.ref 60) _) _ _ _); k_dflt (refine' Claim.strP (field_ok _ _ _ _ _ _ ?h1 ?h2 ?h3) ?k1 ?k2 ?k3 ?k4 ?k5 ?kK ?kd ?ku ?_); (case h1 => first | omega | ((have l1 := len_e); (have l2 := len_z); (have l3 := len_p); (have l4 := len_zp); (have l5 := len_m); (have l6 := len_q); first | omega | (simp only [strLen_append]; omega))); (case h2 => omega); (case h3 => omega); (case k1 => k_asm); (case k2 => k_asm); (case k3 => k_asm); (case k4 => k_asm); (case k5 => k_asm); (case kK => first | exact rfl | assumption); (case kd => ktr_room); (case ku => ktr_units); intro t9 h9 tk9 F9 N9 l9; (try dsimp only); (try k_fold))
  k_with "call ref" => (k_here; (first
  | ((with_reducible show wpAny _ _ (call (Value.ref 67) _) _ _ _); k_dflt (refine' Claim.strP (sign_ok _ _ _ _) ?k1 ?k2 ?k3 ?k4 ?k5 ?kK ?kd ?ku ?_))
  | ((with_reducible show wpAny _ _ (call (Value.ref 172) _) _ _ _); k_dflt (refine' Claim.strP (lawsign_ok _ _ _ _) ?k1 ?k2 ?k3 ?k4 ?k5 ?kK ?kd ?ku ?_))); (case k1 => k_asm); (case k2 => k_asm); (case k3 => k_asm); (case k4 => k_asm); (case k5 => k_asm); (case kK => first | exact rfl | assumption); (case kd => ktr_room); (case ku => ktr_units); intro t9 h9 tk9 F9 N9 l9; (try dsimp only); (try k_fold))
  k_with "call ref" => (k_here; (with_reducible show wpAny _ _ (call (Value.ref 74) _) _ _ _); k_dflt (refine' Claim.int2 (scaled_ok _ _ _ _ _ _ ?h1 ?h2 ?h3 ?h4) ?k1 ?k2 ?k3 ?k4 ?k5 ?kK ?kd ?ku ?_); (case h1 => omega); (case h2 => omega); (case h3 => omega); (case h4 => omega); (case k1 => k_asm); (case k2 => k_asm); (case k3 => k_asm); (case k4 => k_asm); (case k5 => k_asm); (case kK => first | exact rfl | assumption); (case kd => ktr_room); (case ku => ktr_units); intro t9 h9 tk9 F9 N9 l9 l8; (try dsimp only); (try k_fold))
  trivial
theorem eq_of_L {x y : Str} (h : x.cps.toList = y.cps.toList) : x = y := Str.ext' (Array.toList_inj.mp h)
theorem L_len (x : Str) : x.cps.toList.length = x.length := Array.length_toList
theorem L_app (x y : Str) : (x ++ y).cps.toList = x.cps.toList ++ y.cps.toList := by rw [Str.cps_append, Array.toList_append]
theorem L_e : (Str.ofString "").cps.toList = [] := by rw [signs_ofString]; rfl
theorem L_z : (Str.ofString "0").cps.toList = [48] := by rw [signs_ofString]; rfl
theorem L_5 : (Str.ofString "5").cps.toList = [53] := by rw [signs_ofString]; rfl
theorem L_p : (Str.ofString ".").cps.toList = [46] := by rw [signs_ofString]; rfl
theorem L_zp : (Str.ofString "0.").cps.toList = [48, 46] := by rw [signs_ofString]; rfl
theorem L_zeros (n : Int) : (Txt.mul (Str.ofString "0") n).cps.toList = List.replicate n.toNat 48 := by
  have e : Str.ofString "0" = ⟨#[48]⟩ := by decide +kernel
  rw [e]
  exact mul_one_list 48 n
theorem L_to (x : Str) {j : Int} (h : 0 ≤ j) : (Txt.slice x none (some j)).cps.toList = x.cps.toList.take j.toNat := by
  by_cases h2 : j ≤ x.length
  · rw [eq_of_beq (slice_closes_toL h h2)]
    show (List.take (j - 0).toNat (List.drop (0 : Int).toNat x.cps.toList)).toArray.toList = _
    rw [List.toList_toArray]
    show List.take (j - 0).toNat x.cps.toList = _
    rw [Int.sub_zero]
  · rw [slice_to_beyond (by omega), eq_of_beq (slice_closes_toL (by omega) (Int.le_refl _))]
    show (List.take ((x.length : Int) - 0).toNat (List.drop (0 : Int).toNat x.cps.toList)).toArray.toList = _
    rw [List.toList_toArray]
    show List.take ((x.length : Int) - 0).toNat x.cps.toList = _
    have := L_len x
    rw [List.take_of_length_le (by omega), List.take_of_length_le (by omega)]
theorem L_from (x : Str) {i : Int} (h : 0 ≤ i) : (Txt.slice x (some i) none).cps.toList = x.cps.toList.drop i.toNat := by
  have l := L_len x
  by_cases h2 : i ≤ x.length
  · rw [eq_of_beq (slice_closes_fromL h h2 rfl)]
    show (List.take ((x.length : Int) - i).toNat (List.drop i.toNat x.cps.toList)).toArray.toList = _
    rw [List.toList_toArray]
    exact List.take_of_length_le (by rw [List.length_drop]; omega)
  · rw [slice_from_beyond (by omega), List.drop_of_length_le (by omega)]
theorem dropWhile_len (p : Nat → Bool) : ∀ l : List Nat, l.drop (l.takeWhile p).length = l.dropWhile p
  | [] => rfl
  | c :: r => by
    rw [List.takeWhile_cons, List.dropWhile_cons]
    cases p c with
    | true => exact dropWhile_len p r
    | false => rfl
theorem L_lstrip (x : Str) : (Txt.lstripChars x (Str.ofString "0")).cps.toList = x.cps.toList.dropWhile fun c => c == 48 := by
  have e : (Str.ofString "0").cps.contains = fun c => c == 48 := by
    funext c
    have e : Str.ofString "0" = ⟨#[48]⟩ := by decide +kernel
    rw [e]
    simp only [List.contains_toArray]
    show (c == 48 || false) = (c == 48)
    exact Bool.or_false _
  unfold Txt.lstripChars
  rw [PyProof.Rows.stripBy_eq, StrLaws.strSub_toList, e]
  have hl : stripLo (fun c => c == 48) true x = (x.cps.toList.takeWhile fun c => c == 48).length := rfl
  have hh : stripHi (fun c => c == 48) false x (stripLo (fun c => c == 48) true x) = x.length := rfl
  rw [hh, hl, List.take_of_length_le (by rw [List.length_drop, L_len]; omega)]
  exact dropWhile_len _ _
theorem L_num {n : Int} (h : 0 ≤ n) : (numS n).cps.toList = (Nat.toDigits 10 n.toNat).map Char.toNat := by
  unfold numS
  obtain ⟨m, rfl⟩ := Int.eq_ofNat_of_zero_le h
  exact KIN.signs_num m
/-- all signs are digits -/
@[irreducible] def Dig (x : Str) : Prop := NumText.AllDigits x.cps.toList
theorem Dig_iff {x : Str} : Dig x ↔ NumText.AllDigits x.cps.toList := by unfold Dig; exact Iff.rfl
theorem Dig_num {n : Int} (h : 0 ≤ n) : Dig (numS n) := by
  rw [Dig_iff, L_num h]
  intro c hc
  obtain ⟨ch, hch, e⟩ := List.mem_map.mp hc
  have r := digit_range (Nat.isDigit_of_mem_toDigits (by decide) (by decide) hch)
  rw [← e]
  exact r
theorem Dig_app {x y : Str} (hx : Dig x) (hy : Dig y) : Dig (x ++ y) := by
  rw [Dig_iff] at *
  rw [L_app]
  intro c hc
  rcases List.mem_append.mp hc with h | h
  · exact hx c h
  · exact hy c h
theorem Dig_zeros (n : Int) : Dig (Txt.mul (Str.ofString "0") n) := by
  rw [Dig_iff, L_zeros]
  intro c hc
  rw [List.eq_of_mem_replicate hc]
  decide
theorem Dig_z : Dig (Str.ofString "0") := by
  rw [Dig_iff, L_z]
  intro c hc
  rw [List.mem_singleton.mp hc]
  decide
theorem Dig_e : Dig (Str.ofString "") := by
  rw [Dig_iff, L_e]
  intro c hc
  cases hc
theorem Dig_to {x : Str} (hx : Dig x) {j : Int} (h : 0 ≤ j) : Dig (Txt.slice x none (some j)) := by
  rw [Dig_iff] at *
  rw [L_to x h]
  exact fun c hc => hx c (List.mem_of_mem_take hc)
theorem Dig_from {x : Str} (hx : Dig x) {i : Int} (h : 0 ≤ i) : Dig (Txt.slice x (some i) none) := by
  rw [Dig_iff] at *
  rw [L_from x h]
  exact fun c hc => hx c (List.mem_of_mem_drop hc)
theorem Dig_lstrip {x : Str} (hx : Dig x) : Dig (Txt.lstripChars x (Str.ofString "0")) := by
  rw [Dig_iff] at *
  rw [L_lstrip]
  exact fun c hc => hx c ((List.dropWhile_sublist _).subset hc)
/-- the number that a row of digits says -/
@[irreducible] noncomputable def valS (x : Str) : Int := ((NumText.digitsVal x.cps.toList : Nat) : Int)
theorem int_zero {x : Str} (hx : Dig x) (hl : x.length ≤ 200) : PySem.intText? (Str.ofString "0" ++ x) = some (valS x) := by
  have hd := Dig_iff.mp (Dig_app Dig_z hx)
  have e : (Str.ofString "0" ++ x).cps.toList = 48 :: x.cps.toList := by rw [L_app, L_z]; rfl
  have h := intText_digits hd (by rw [e]; exact List.cons_ne_nil _ _) (by rw [strLen_append, len_z]; omega)
  rw [h, e]
  unfold valS NumText.digitsVal
  rfl
theorem valS_nonneg (x : Str) : 0 ≤ valS x := by unfold valS; omega
theorem digitsVal_lt : ∀ (l : List Nat) (a : Nat), NumText.AllDigits l → l.foldl (fun acc c => acc * 10 + (c - 48)) a < (a + 1) * 10 ^ l.length
  | [], a, _ => by simp
  | c :: r, a, h => by
    have ih := digitsVal_lt r (a * 10 + (c - 48)) h.tail
    have hc := h.head
    rw [List.foldl_cons, List.length_cons, Nat.pow_succ]
    refine Nat.lt_of_lt_of_le ih ?_
    have : (a * 10 + (c - 48) + 1) ≤ (a + 1) * 10 := by omega
    calc (a * 10 + (c - 48) + 1) * 10 ^ r.length ≤ ((a + 1) * 10) * 10 ^ r.length := Nat.mul_le_mul_right _ this
      _ = (a + 1) * (10 ^ r.length * 10) := by rw [Nat.mul_assoc, Nat.mul_comm 10]
theorem valS_lt {x : Str} (hx : Dig x) {k : Nat} (hl : x.length ≤ k) : valS x < 10 ^ k := by
  unfold valS
  have h := digitsVal_lt x.cps.toList 0 (Dig_iff.mp hx)
  rw [Nat.zero_add, Nat.one_mul, L_len] at h
  have h2 : 10 ^ x.length ≤ 10 ^ k := Nat.pow_le_pow_right (by decide) hl
  have h3 : NumText.digitsVal x.cps.toList < 10 ^ k := Nat.lt_of_lt_of_le h h2
  exact_mod_cast h3
section
variable {prog : Program} {w : World} {A : Around} {E : Value → Shared → Prop} {s : Shared} {Q : Value → Shared → Prop} {t : Tok} {x : Str}
theorem int_num (hx : Dig x) (hl : x.length ≤ 39) (h : 0 ≤ valS x → valS x < 10 ^ 39 → (∀ k, x.length ≤ k → valS x < 10 ^ k) → Q (.int (valS x) s.toks) { s with toks := s.toks + 1 }) : wpAny (model prog w) A (call (.type "int") [.str (Str.ofString "0" ++ x) t]) Q E s :=
  KIN.call_text (int_zero hx (by omega)) (by rw [strLen_append, len_z]; omega) (h (valS_nonneg x) (valS_lt hx hl) (fun k hk => valS_lt hx hk))
end
example : True := by
  k_with "call type:int" => (k_here; (with_reducible show wpAny _ _ (call (Value.type "int") [Value.str (Str.ofString "0" ++ _) _]) _ _ _); (refine int_num ?hx ?hl ?_); (case hx => first | assumption | exact Dig_to (Dig_app (by assumption) (Dig_zeros _)) (by omega)); (case hl => omega); intro _ _ _)
  trivial
@[irreducible] noncomputable def pointS (sign whole rest : Str) (width : Int) : Str :=
  if (whole == Str.ofString "") = true then
    if (rest == Str.ofString "") = true then fieldS (sign ++ Str.ofString "0" ++ Str.ofString "." ++ rest) width
    else if (((sign.length + (Str.ofString "0.").length + rest.length : Nat) : Int) ≤ width) then fieldS (sign ++ Str.ofString "0." ++ rest) width
    else fieldS (sign ++ whole ++ Str.ofString "." ++ rest) width
  else fieldS (sign ++ whole ++ Str.ofString "." ++ rest) width
section
variable {sign whole rest : Str} {width : Int}
theorem pointS_1 (a : (whole == Str.ofString "") = true) (b : (rest == Str.ofString "") = true) : fieldS (sign ++ Str.ofString "0" ++ Str.ofString "." ++ rest) width = pointS sign whole rest width := by
  unfold pointS; rw [if_pos a, if_pos b]
theorem pointS_2 (a : (whole == Str.ofString "") = true) (b : (rest == Str.ofString "") = false) (c : ((sign.length + (Str.ofString "0.").length + rest.length : Nat) : Int) ≤ width) : fieldS (sign ++ Str.ofString "0." ++ rest) width = pointS sign whole rest width := by
  unfold pointS; rw [if_pos a, if_neg (by rw [b]; decide), if_pos c]
theorem pointS_3 (a : (whole == Str.ofString "") = true) (b : (rest == Str.ofString "") = false) (c : ¬ ((sign.length + (Str.ofString "0.").length + rest.length : Nat) : Int) ≤ width) : fieldS (sign ++ whole ++ Str.ofString "." ++ rest) width = pointS sign whole rest width := by
  unfold pointS; rw [if_pos a, if_neg (by rw [b]; decide), if_neg c]
theorem pointS_4 (a : (whole == Str.ofString "") = false) : fieldS (sign ++ whole ++ Str.ofString "." ++ rest) width = pointS sign whole rest width := by
  unfold pointS; rw [if_neg (by rw [a]; decide)]
end
@[irreducible] noncomputable def padS (n : Int) (d : Str) : Str := Txt.mul (Str.ofString "0") (n - d.length) ++ d
@[irreducible] noncomputable def editIntS (value width least : Int) (plus : Bool) : Str :=
  if value = 0 ∧ least = 0 then Txt.mul (Str.ofString " ") width
  else fieldS (signS (decide (value < 0)) plus ++ padS least (numS (value.natAbs : Nat))) width
theorem editIntS_1 {value width least : Int} {plus : Bool} (a : value = 0 ∧ least = 0) : Txt.mul (Str.ofString " ") width = editIntS value width least plus := by
  unfold editIntS; rw [if_pos a]
theorem editIntS_2 {value width least : Int} {plus : Bool} (a : ¬ (value = 0 ∧ least = 0)) : fieldS (signS (decide (value < 0)) plus ++ (Txt.mul (Str.ofString "0") (least - (numS (value.natAbs : Nat)).length) ++ numS (value.natAbs : Nat))) width = editIntS value width least plus := by
  unfold editIntS padS; rw [if_neg a]

theorem point_ok (w : World) (news : List (Addr × Obj)) (sign whole rest : Str) (width : Int) (t1 t2 t3 t4 : Tok) (h1 : sign.length ≤ 1) (h2 : whole.length ≤ 100) (h3 : rest.length ≤ 100) (h4 : 0 ≤ width) (h5 : width ≤ 100) :
    Claim w 88 2 news [.str sign t1, .str whole t2, .str rest t3, .int width t4] fun r nw => nw = news ∧ ∃ t x, r = .str x t ∧ x = pointS sign whole rest width ∧ (x.length : Int) = width := by
  unfold Claim
  k_fill
  intros
  rename_i hret
  refine wpAny_call ?_
  k_dflt ktr_enter
  k_steps
  all_goals (refine hret _ _ _ _ (by with_reducible assumption) (by with_reducible assumption) ⟨rfl, _, _, rfl, ?_, fieldS_len h4⟩)
  all_goals (first | with_reducible exact pointS_1 (by with_reducible assumption) (by with_reducible assumption) | with_reducible exact pointS_2 (by with_reducible assumption) (by with_reducible assumption) (by assumption) | with_reducible exact pointS_3 (by with_reducible assumption) (by with_reducible assumption) (by assumption) | with_reducible exact pointS_4 (by assumption))
/-- a number that may be left out, in its place one -/
def FwV (vz : Value) (least : Int) : Prop := (vz = .none ∧ least = 1) ∨ ∃ t, vz = .int least t
theorem edit_int_ok (w : World) (news : List (Addr × Obj)) (value width least : Int) (plus : Bool) (vz : Value) (t1 t2 : Tok) (hz : FwV vz least) (h1 : - 10 ^ 11 < value) (h2 : value < 10 ^ 11) (h4 : 0 ≤ width) (h5 : width ≤ 100) (h6 : 0 ≤ least) (h7 : least ≤ 100) :
    Claim w 81 2 news [.int value t1, .int width t2, vz, .bool plus] fun r nw => nw = news ∧ ∃ t x, r = .str x t ∧ x = editIntS value width least plus := by
  unfold Claim
  k_fill
  intros
  rename_i hret
  refine wpAny_call ?_
  k_dflt ktr_enter
  k_with "exec If" => (k_here; (fail_if_success (with_reducible rename Met 1 => m9)); (with_reducible show wpAny _ _ (exec (Stmt.If (Expr.Compare (Expr.Name (Str.ofString "least") _) _ _ _) _ _ _) _) _ _ _); k_dflt (refine' meet_set ?F ?N 1 (x := Str.ofString "least") (v := Value.int least) ?w ?_; (case F => k_asm); (case N => k_asm); (case w => (intro Q9 m9 q9; rcases hz with ⟨e, e'⟩ | ⟨t, e⟩; (focus (subst e e'; k_steps; exact q9 _ _ _ (by with_reducible assumption) (by with_reducible assumption))); (focus (subst e; k_steps; exact q9 _ _ _ (Fr.again (by with_reducible assumption) rfl) (by with_reducible assumption))))); intro t9 h9 tk9 F9 N9; (try dsimp only); (try k_fold)))
  k_with "isTrue BoolOp" => (k_here; (fail_if_success (with_reducible rename Met 2 => m9)); (with_reducible show wpAny _ _ (isTrue (Expr.BoolOp _ [Expr.Compare (Expr.Name (Str.ofString "value") _) _ _ _, Expr.Compare (Expr.Name (Str.ofString "least") _) _ _ _] _) _ _) _ _ _); k_dflt (refine' meet_test ?F ?N 2 (C := value = 0 ∧ least = 0) ?w ?_ ?_; (case F => k_asm); (case N => k_asm); (case w => (intro Q9 m9 qt qf; k_steps; all_goals (first | exact qt _ _ (by with_reducible assumption) (by with_reducible assumption) ⟨by assumption, by assumption⟩ | exact qf _ _ (by with_reducible assumption) (by with_reducible assumption) (by omega)))); intro h9 tk9 F9 N9 g9; (try dsimp only); (try k_fold); rotate_left; intro h9 tk9 F9 N9 g9; (try dsimp only); (try k_fold); rotate_left))
  k_steps
  all_goals (refine hret _ _ _ _ (by with_reducible assumption) (by with_reducible assumption) ⟨rfl, _, _, rfl, ?_⟩)
  all_goals (first | with_reducible exact editIntS_1 (by assumption) | with_reducible exact editIntS_2 (by assumption))
example : True := by
  k_with "call ref" => (k_here; (with_reducible show wpAny _ _ (call (Value.ref 88) _) _ _ _); k_dflt (refine' Claim.strP (point_ok _ _ _ _ _ _ _ _ _ _ ?h1 ?h2 ?h3 ?h4 ?h5) ?k1 ?k2 ?k3 ?k4 ?k5 ?kK ?kd ?ku ?_); (case h1 => first | omega | ((have l1 := len_e); (have l2 := len_z); (have l3 := len_p); (have l4 := len_zp); (have l5 := len_m); (have l6 := len_q); first | omega | (simp only [strLen_append]; omega))); (case h2 => first | omega | ((have l1 := len_e); (have l2 := len_z); (have l3 := len_p); (have l4 := len_zp); (have l5 := len_m); (have l6 := len_q); first | omega | (simp only [strLen_append]; omega))); (case h3 => first | omega | ((have l1 := len_e); (have l2 := len_z); (have l3 := len_p); (have l4 := len_zp); (have l5 := len_m); (have l6 := len_q); first | omega | (simp only [strLen_append]; omega))); (case h4 => omega); (case h5 => omega); (case k1 => k_asm); (case k2 => k_asm); (case k3 => k_asm); (case k4 => k_asm); (case k5 => k_asm); (case kK => first | exact rfl | assumption); (case kd => ktr_room); (case ku => ktr_units); intro t9 h9 tk9 F9 N9 l9; (try dsimp only); (try k_fold))
  trivial
@[irreducible] noncomputable def lawField1 (a : Str) (width : Int) : Str := if (a.length : Int) ≤ width then Txt.mul (Str.ofString " ") (width - a.length) ++ a else Txt.mul (Str.ofString "*") width
@[irreducible] noncomputable def lawField2 (a b : Str) (width : Int) : Str := if (a.length : Int) ≤ width then Txt.mul (Str.ofString " ") (width - a.length) ++ a else lawField1 b width
theorem lawField1_1 {a : Str} {width : Int} (h : (a.length : Int) ≤ width) : Txt.mul (Str.ofString " ") (width - a.length) ++ a = lawField1 a width := by unfold lawField1; rw [if_pos h]
theorem lawField1_2 {a : Str} {width : Int} (h : ¬ (a.length : Int) ≤ width) : Txt.mul (Str.ofString "*") width = lawField1 a width := by unfold lawField1; rw [if_neg h]
theorem lawField2_1 {a b : Str} {width : Int} (h : (a.length : Int) ≤ width) : Txt.mul (Str.ofString " ") (width - a.length) ++ a = lawField2 a b width := by unfold lawField2; rw [if_pos h]
theorem lawField2_2 {a b : Str} {width : Int} (h : ¬ (a.length : Int) ≤ width) (h2 : (b.length : Int) ≤ width) : Txt.mul (Str.ofString " ") (width - b.length) ++ b = lawField2 a b width := by unfold lawField2; rw [if_neg h]; exact lawField1_1 h2
theorem lawField2_3 {a b : Str} {width : Int} (h : ¬ (a.length : Int) ≤ width) (h2 : ¬ (b.length : Int) ≤ width) : Txt.mul (Str.ofString "*") width = lawField2 a b width := by unfold lawField2; rw [if_neg h]; exact lawField1_2 h2
theorem turn_off {I : Addr} {o : Obj} {news : List (Addr × Obj)} (l : ∀ p ∈ news, p.1 < I) : ∀ p ∈ news, ∀ q ∈ [(I, o)], p.1 ≠ q.1 := by
  intro p hp q hq
  rw [List.mem_singleton.mp hq]
  exact Nat.ne_of_lt (l p hp)
section
local macro_rules | `(tactic| walk_at "exec For Name Name cons nil") => `(tactic| (k_here; (rename Fr _ _ _ _ => lF'); (with_unfolding_all refine' For_turns lF' ?_; k_whole)))
local macro_rules | `(tactic| walk_at "pyIter ref") => `(tactic| (k_here; (rename Fr _ _ _ _ => lF'); (with_unfolding_all refine iter_listTurns (by rfl) lF' (by assumption) (List.Mem.head _) (by rfl) (by rfl) ?_); clear lF'; intro i' l1))
local macro_rules | `(tactic| walk_at "UnrEndW") => `(tactic| (refine ⟨_, _, _, _, rfl, by assumption, by assumption, turn_off (by assumption), ⟨List.Mem.head _, trivial⟩, ?_⟩))
theorem law_field1 (w : World) (news : List (Addr × Obj)) (l : Addr) (a : Str) (n : Nat) (width : Int) (t1 t2 : Tok) (h1 : a.length ≤ 200) (h4 : 0 ≤ width) (h5 : width ≤ 100) :
    Claim w 165 1 ((l, listOf #[Value.str a t1] n) :: news) [.ref l, .int width t2] fun r nw => nw = ((l, listOf #[Value.str a t1] n) :: news) ∧ ∃ t x, r = .str x t ∧ x = lawField1 a width := by
  unfold Claim
  k_fill
  intros
  rename_i hret
  refine wpAny_call ?_
  k_dflt ktr_enter
  k_steps
  all_goals (refine hret _ _ _ _ (by assumption) (by first | assumption | exact cb_drop (by assumption) (fun _ hp => List.Mem.tail _ hp)) ⟨rfl, _, _, rfl, ?_⟩)
  all_goals (first | with_reducible exact lawField1_1 (by assumption) | with_reducible exact lawField1_2 (by assumption))
theorem law_field2 (w : World) (news : List (Addr × Obj)) (l : Addr) (a b : Str) (n : Nat) (width : Int) (t1 t2 t3 : Tok) (h1 : a.length ≤ 200) (h2 : b.length ≤ 200) (h4 : 0 ≤ width) (h5 : width ≤ 100) :
    Claim w 165 1 ((l, listOf #[Value.str a t1, Value.str b t3] n) :: news) [.ref l, .int width t2] fun r nw => nw = ((l, listOf #[Value.str a t1, Value.str b t3] n) :: news) ∧ ∃ t x, r = .str x t ∧ x = lawField2 a b width := by
  unfold Claim
  k_fill
  intros
  rename_i hret
  refine wpAny_call ?_
  k_dflt ktr_enter
  k_steps
  all_goals (refine hret _ _ _ _ (by assumption) (by first | assumption | exact cb_drop (by assumption) (fun _ hp => List.Mem.tail _ hp)) ⟨rfl, _, _, rfl, ?_⟩)
  all_goals (first | with_reducible exact lawField2_1 (by assumption) | with_reducible exact lawField2_2 (by assumption) (by assumption) | with_reducible exact lawField2_3 (by assumption) (by assumption))
end
example : True := by
  k_with "call ref" => (k_here; (with_reducible show wpAny _ _ (call (Value.ref 165) _) _ _ _); (first
  | (k_dflt (refine' Claim.str (law_field1 _ _ _ _ _ _ _ _ ?h1 ?h2 ?h3) ?k1 ?k2 ?k3 ?k4 ?k5 ?kK ?kd ?ku ?_); (case k4 => assumption))
  | (k_dflt (refine' Claim.str (law_field2 _ _ _ _ _ _ _ _ _ _ ?h1 ?h4 ?h2 ?h3) ?k1 ?k2 ?k3 ?k4 ?k5 ?kK ?kd ?ku ?_); (case k4 => assumption))); (case h1 => first | omega | ((have l1 := len_e); (have l2 := len_z); (have l3 := len_p); (have l4 := len_zp); (have l5 := len_m); (have l6 := len_q); first | omega | (simp only [strLen_append]; omega))); (try (case h4 => first | omega | ((have l1 := len_e); (have l2 := len_z); (have l3 := len_p); (have l4 := len_zp); (have l5 := len_m); (have l6 := len_q); first | omega | (simp only [strLen_append]; omega)))); (case h2 => omega); (case h3 => omega); (case k1 => k_asm); (case k2 => k_asm); (case k3 => k_asm); (case k5 => k_asm); (case kK => first | exact rfl | assumption); (case kd => ktr_room); (case ku => ktr_units); intro t9 h9 tk9 F9 N9; (try dsimp only); (try k_fold))
  trivial
@[irreducible] noncomputable def lawIntS (value width least : Int) (plus : Bool) : Str :=
  if least = 0 ∧ (numS (value.natAbs : Nat) == Str.ofString "0") = true then Txt.mul (Str.ofString " ") width
  else lawField1 (signS (decide (value < 0)) plus ++ Txt.mul (Str.ofString "0") (least - (numS (value.natAbs : Nat)).length) ++ numS (value.natAbs : Nat)) width
theorem lawIntS_1 {value width least : Int} {plus : Bool} (h : least = 0 ∧ (numS (value.natAbs : Nat) == Str.ofString "0") = true) : Txt.mul (Str.ofString " ") width = lawIntS value width least plus := by
  unfold lawIntS; rw [if_pos h]
theorem lawIntS_2 {value width least : Int} {plus : Bool} (h : ¬ (least = 0 ∧ (numS (value.natAbs : Nat) == Str.ofString "0") = true)) : lawField1 (signS (decide (value < 0)) plus ++ Txt.mul (Str.ofString "0") (least - (numS (value.natAbs : Nat)).length) ++ numS (value.natAbs : Nat)) width = lawIntS value width least plus := by
  unfold lawIntS; rw [if_neg h]
theorem numS_11 {n : Int} (h1 : - 10 ^ 11 < n) (h2 : n < 10 ^ 11) : (numS (n.natAbs : Nat)).length ≤ 11 := by
  unfold numS; exact toString_length_le (by omega) (by decide) (by omega)
theorem law_int_ok (w : World) (news : List (Addr × Obj)) (value width least : Int) (plus : Bool) (vz : Value) (t1 t2 : Tok) (hz : FwV vz least) (h1 : - 10 ^ 11 < value) (h2 : value < 10 ^ 11) (h4 : 0 ≤ width) (h5 : width ≤ 100) (h6 : 0 ≤ least) (h7 : least ≤ 100) :
    Claim w 200 2 news [.int value t1, .int width t2, vz, .bool plus] fun r nw => nw = news ∧ ∃ t x, r = .str x t ∧ x = lawIntS value width least plus := by
  unfold Claim
  k_fill
  intros
  rename_i hret
  refine wpAny_call ?_
  k_dflt ktr_enter
  k_with "eval IfExp" => (k_here; (fail_if_success (with_reducible rename Met 11 => m9)); (with_reducible show wpAny _ _ (eval (Expr.IfExp _ (Expr.Subscript _ _ _) _ _) _) _ _ _); k_dflt (refine' meet_val ?F ?N 11 (v := Value.str (numS (value.natAbs : Nat))) ?w ?_; (case F => k_asm); (case N => k_asm); (case w => (intro Q9 m9 q9; k_steps; all_goals (refine str_as (Q := Q9) ?_ (q9 _ _ _ (by with_reducible assumption) (by first | with_reducible assumption | exact cb_drop (by with_reducible assumption) (fun _ hp => List.Mem.tail _ hp))); first | rfl | exact congrArg numS (by omega)))); intro t9 h9 tk9 F9 N9; have l9 := numS_11 h1 h2; (try dsimp only); (try k_fold)))
  k_with "eval IfExp" => (k_here; (fail_if_success (with_reducible rename Met 12 => m9)); (with_reducible show wpAny _ _ (eval (Expr.IfExp (Expr.Compare (Expr.Name (Str.ofString "fewest") _) _ _ _) _ _ _) _) _ _ _); k_dflt (refine' meet_val ?F ?N 12 (v := Value.int least) ?w ?_; (case F => k_asm); (case N => k_asm); (case w => (intro Q9 m9 q9; rcases hz with ⟨e, e'⟩ | ⟨t, e⟩; (focus (subst e e'; k_steps; exact q9 _ _ _ (by with_reducible assumption) (by with_reducible assumption))); (focus (subst e; k_steps; exact q9 _ _ _ (by with_reducible assumption) (by with_reducible assumption))))); intro t9 h9 tk9 F9 N9; (try dsimp only); (try k_fold)))
  k_with "isTrue BoolOp" => (k_here; (fail_if_success (with_reducible rename Met 13 => m9)); (with_reducible show wpAny _ _ (isTrue (Expr.BoolOp _ [Expr.Compare (Expr.Name (Str.ofString "fewest") _) _ _ _, Expr.Compare (Expr.Name (Str.ofString "digits") _) _ _ _] _) _ _) _ _ _); k_dflt (refine' meet_test ?F ?N 13 (C := least = 0 ∧ (numS (value.natAbs : Nat) == Str.ofString "0") = true) ?w ?_ ?_; (case F => k_asm); (case N => k_asm); (case w => (intro Q9 m9 qt qf; k_steps; all_goals (first | exact qt _ _ (by with_reducible assumption) (by with_reducible assumption) ⟨by assumption, by assumption⟩ | exact qf _ _ (by with_reducible assumption) (by with_reducible assumption) (fun hc => absurd hc.1 (by assumption)) | exact qf _ _ (by with_reducible assumption) (by with_reducible assumption) (fun hc => absurd hc.2 (Bool.eq_false_iff.mp (by assumption)))))); intro h9 tk9 F9 N9 g9; (try dsimp only); (try k_fold); rotate_left; intro h9 tk9 F9 N9 g9; (try dsimp only); (try k_fold); rotate_left))
  k_steps
  all_goals (refine hret _ _ _ _ (by with_reducible assumption) (by first | with_reducible assumption | exact cb_drop (by with_reducible assumption) (fun _ hp => List.Mem.tail _ hp)) ⟨rfl, _, _, rfl, ?_⟩)
  all_goals (first | with_reducible exact lawIntS_1 (by assumption) | with_reducible exact lawIntS_2 (by assumption))
@[irreducible] noncomputable def spreadA (n p : Int) : Str :=
  if 0 ≤ p then Txt.lstripChars (numS n ++ Txt.mul (Str.ofString "0") p) (Str.ofString "0")
  else Txt.lstripChars (Txt.slice (Txt.mul (Str.ofString "0") (-p - (numS n).length) ++ numS n) none (some ((Txt.mul (Str.ofString "0") (-p - (numS n).length) ++ numS n).length + p))) (Str.ofString "0")
@[irreducible] noncomputable def spreadB (n p : Int) : Str :=
  if 0 ≤ p then Str.ofString ""
  else Txt.slice (Txt.mul (Str.ofString "0") (-p - (numS n).length) ++ numS n) (some ((Txt.mul (Str.ofString "0") (-p - (numS n).length) ++ numS n).length + p)) none
theorem spreadA_1 {n p : Int} (h : 0 ≤ p) : Txt.lstripChars (numS n ++ Txt.mul (Str.ofString "0") p) (Str.ofString "0") = spreadA n p := by
  unfold spreadA; rw [if_pos h]
theorem spreadB_1 {n p : Int} (h : 0 ≤ p) : Str.ofString "" = spreadB n p := by
  unfold spreadB; rw [if_pos h]
theorem spreadA_2 {n p : Int} (h : ¬ 0 ≤ p) : Txt.lstripChars (Txt.slice (Txt.mul (Str.ofString "0") (-p - (numS n).length) ++ numS n) none (some ((Txt.mul (Str.ofString "0") (-p - (numS n).length) ++ numS n).length + p))) (Str.ofString "0") = spreadA n p := by
  unfold spreadA; rw [if_neg h]
theorem spreadB_2 {n p : Int} (h : ¬ 0 ≤ p) : Txt.slice (Txt.mul (Str.ofString "0") (-p - (numS n).length) ++ numS n) (some ((Txt.mul (Str.ofString "0") (-p - (numS n).length) ++ numS n).length + p)) none = spreadB n p := by
  unfold spreadB; rw [if_neg h]
theorem numS_len {n : Int} (h1 : 0 ≤ n) {k : Nat} (hk : 0 < k) (h2 : n < 10 ^ k) : (numS n).length ≤ k := by
  unfold numS; exact toString_length_le h1 hk h2
theorem numS_pos {n : Int} (h1 : 0 ≤ n) : 1 ≤ (numS n).length := by
  unfold numS; exact KLn.one_le h1
theorem zeros_len (n : Int) : (Txt.mul (Str.ofString "0") n).length = n.toNat := by
  rw [← L_len, L_zeros, List.length_replicate]
theorem pad_nonneg {n p : Int} : 0 ≤ ((Txt.mul (Str.ofString "0") (-p - (numS n).length) ++ numS n).length : Int) + p := by
  rw [strLen_append, zeros_len]
  omega
theorem spreadA_len {n p : Int} (h1 : 0 ≤ n) (h2 : n < 10 ^ 9) (h3 : -14 ≤ p) (h4 : p ≤ 10) : (spreadA n p).length ≤ 19 := by
  have hl := numS_len h1 (by decide) h2
  unfold spreadA
  split
  · refine Nat.le_trans (len_lstripChars _ _) ?_
    rw [strLen_append, zeros_len]
    omega
  · refine Nat.le_trans (len_lstripChars _ _) (Nat.le_trans (Txt.slice_le _ _ _) ?_)
    rw [strLen_append, zeros_len]
    omega
theorem spreadB_len {n p : Int} (h1 : 0 ≤ n) (h2 : n < 10 ^ 9) (h3 : -14 ≤ p) (h4 : p ≤ 10) : (spreadB n p).length ≤ 19 := by
  have hl := numS_len h1 (by decide) h2
  unfold spreadB
  split
  · decide
  · refine Nat.le_trans (Txt.slice_le _ _ _) ?_
    rw [strLen_append, zeros_len]
    omega
theorem spreadA_dig {n p : Int} (h1 : 0 ≤ n) : Dig (spreadA n p) := by
  unfold spreadA
  split
  · exact Dig_lstrip (Dig_app (Dig_num h1) (Dig_zeros _))
  · exact Dig_lstrip (Dig_to (Dig_app (Dig_zeros _) (Dig_num h1)) pad_nonneg)
theorem spreadB_dig {n p : Int} (h1 : 0 ≤ n) : Dig (spreadB n p) := by
  unfold spreadB
  split
  · exact Dig_e
  · exact Dig_from (Dig_app (Dig_zeros _) (Dig_num h1)) pad_nonneg

theorem spread_ok (w : World) (news : List (Addr × Obj)) (n p : Int) (t1 t2 : Tok) (h1 : 0 ≤ n) (h2 : n < 10 ^ 9) (h3 : -14 ≤ p) (h4 : p ≤ 10) :
    Claim w 151 1 news [.int n t1, .int p t2] fun r nw => ∃ x u v a b, r = .ref x ∧ nw = (x, tupO [.str a u, .str b v]) :: news ∧ (∀ q ∈ news, q.1 < x) ∧ a = spreadA n p ∧ b = spreadB n p ∧ a.length ≤ 19 ∧ b.length ≤ 19 ∧ Dig a ∧ Dig b := by
  unfold Claim
  k_fill
  intros
  rename_i hret
  refine wpAny_call ?_
  k_dflt ktr_enter
  k_steps
  · exact hret _ _ _ _ (by assumption) (by assumption) ⟨_, _, _, _, _, rfl, rfl, by assumption, spreadA_1 (by assumption), spreadB_1 (by assumption), spreadA_1 (by assumption) ▸ spreadA_len h1 h2 h3 h4, spreadB_1 (by assumption) ▸ spreadB_len h1 h2 h3 h4, spreadA_1 (by assumption) ▸ spreadA_dig h1, spreadB_1 (by assumption) ▸ spreadB_dig h1⟩
  · exact hret _ _ _ _ (by assumption) (by assumption) ⟨_, _, _, _, _, rfl, rfl, by assumption, spreadA_2 (by assumption), spreadB_2 (by assumption), spreadA_2 (by assumption) ▸ spreadA_len h1 h2 h3 h4, spreadB_2 (by assumption) ▸ spreadB_len h1 h2 h3 h4, spreadA_2 (by assumption) ▸ spreadA_dig h1, spreadB_2 (by assumption) ▸ spreadB_dig h1⟩

@[irreducible] noncomputable def cutS (d : Str) (c : Int) : Str :=
  if (Txt.item (d ++ Txt.mul (Str.ofString "0") (c + 1 - d.length)) c).cps.toList < (Str.ofString "5").cps.toList then Txt.slice (d ++ Txt.mul (Str.ofString "0") (c + 1 - d.length)) none (some c)
  else Txt.mul (Str.ofString "0") (c - (numS (valS (Txt.slice (d ++ Txt.mul (Str.ofString "0") (c + 1 - d.length)) none (some c)) + 1)).length) ++ numS (valS (Txt.slice (d ++ Txt.mul (Str.ofString "0") (c + 1 - d.length)) none (some c)) + 1)
theorem cutS_1 {d : Str} {c : Int} (h : (Txt.item (d ++ Txt.mul (Str.ofString "0") (c + 1 - d.length)) c).cps.toList < (Str.ofString "5").cps.toList) : Txt.slice (d ++ Txt.mul (Str.ofString "0") (c + 1 - d.length)) none (some c) = cutS d c := by
  unfold cutS; rw [if_pos h]
theorem cutS_2 {d : Str} {c : Int} (h : ¬ (Txt.item (d ++ Txt.mul (Str.ofString "0") (c + 1 - d.length)) c).cps.toList < (Str.ofString "5").cps.toList) : Txt.mul (Str.ofString "0") (c - (numS (valS (Txt.slice (d ++ Txt.mul (Str.ofString "0") (c + 1 - d.length)) none (some c)) + 1)).length) ++ numS (valS (Txt.slice (d ++ Txt.mul (Str.ofString "0") (c + 1 - d.length)) none (some c)) + 1) = cutS d c := by
  unfold cutS; rw [if_neg h]
theorem cutS_len {d : Str} {c : Int} (hd : Dig d) (h2 : 0 ≤ c) : c ≤ ((cutS d c).length : Int) ∧ ((cutS d c).length : Int) ≤ c + 1 := by
  have e : (d ++ Txt.mul (Str.ofString "0") (c + 1 - d.length)).length = d.length + (c + 1 - d.length).toNat := by rw [strLen_append, zeros_len]
  have e2 := (fact_slice_ns (d ++ Txt.mul (Str.ofString "0") (c + 1 - d.length)) c).1 h2 (by omega)
  unfold cutS
  split
  · omega
  · rw [strLen_append, zeros_len]
    have hv := valS_nonneg (Txt.slice (d ++ Txt.mul (Str.ofString "0") (c + 1 - d.length)) none (some c))
    have hl := valS_lt (x := Txt.slice (d ++ Txt.mul (Str.ofString "0") (c + 1 - d.length)) none (some c)) (Dig_to (Dig_app hd (Dig_zeros _)) h2) (k := c.toNat) (by omega)
    have h10 : (10 : Int) ^ (c.toNat + 1) = 10 ^ c.toNat * 10 := Int.pow_succ _ _
    have hp := ten_pow_pos c.toNat
    have hn := numS_len (n := valS (Txt.slice (d ++ Txt.mul (Str.ofString "0") (c + 1 - d.length)) none (some c)) + 1) (by omega) (k := c.toNat + 1) (by omega) (by omega)
    omega
theorem cutS_dig {d : Str} {c : Int} (hd : Dig d) (h2 : 0 ≤ c) : Dig (cutS d c) := by
  unfold cutS
  split
  · exact Dig_to (Dig_app hd (Dig_zeros _)) h2
  · exact Dig_app (Dig_zeros _) (Dig_num (by have := valS_nonneg (Txt.slice (d ++ Txt.mul (Str.ofString "0") (c + 1 - d.length)) none (some c)); omega))
theorem cut_ok (w : World) (news : List (Addr × Obj)) (d : Str) (c : Int) (t1 t2 : Tok) (hd : Dig d) (h1 : d.length ≤ 100) (h2 : 0 ≤ c) (h3 : c ≤ 39) :
    Claim w 158 1 news [.str d t1, .int c t2] fun r nw => nw = news ∧ ∃ t x, r = .str x t ∧ x = cutS d c ∧ c ≤ (x.length : Int) ∧ (x.length : Int) ≤ c + 1 := by
  unfold Claim
  k_fill
  intros
  rename_i hret
  refine wpAny_call ?_
  k_dflt ktr_enter
  k_steps
  all_goals (refine hret _ _ _ _ (by assumption) (by first | assumption | exact cb_drop (by assumption) (fun _ hp => List.Mem.tail _ hp)) (have e := ?_; ⟨rfl, _, _, rfl, e, e ▸ (cutS_len hd h2).1, e ▸ (cutS_len hd h2).2⟩))
  all_goals (first | with_reducible exact cutS_1 (by assumption) | with_reducible exact cutS_2 (by assumption))

@[irreducible] noncomputable def markS (p : Int) : Str := if p < 0 then Str.ofString "-" else Str.ofString "+"
theorem markS_1 {p : Int} (h : p < 0) : Str.ofString "-" = markS p := by unfold markS; rw [if_pos h]
theorem markS_2 {p : Int} (h : ¬ p < 0) : Str.ofString "+" = markS p := by unfold markS; rw [if_neg h]
theorem markS_len (p : Int) : (markS p).length = 1 := by unfold markS; split <;> decide
@[irreducible] noncomputable def expS (letter : Str) (p size : Int) : Str := letter ++ markS p ++ Txt.mul (Str.ofString "0") (size - (numS (p.natAbs : Nat)).length) ++ numS (p.natAbs : Nat)
theorem expS_len {letter : Str} {p size : Int} (h1 : letter.length ≤ 1) (h2 : -100 < p) (h3 : p < 100) (h5 : size ≤ 3) : (expS letter p size).length ≤ 8 := by
  have hl := numS_len (n := ((p.natAbs : Nat) : Int)) (by omega) (k := 2) (by decide) (by omega)
  unfold expS
  simp only [strLen_append, zeros_len]
  rw [markS_len]
  omega
/-- how many digits an exponent is told by: none said, or one to three -/
def SzV (vz : Value) (z : Option Int) : Prop := (vz = .none ∧ z = none) ∨ ∃ n t, vz = .int n t ∧ z = some n ∧ 1 ≤ n ∧ n ≤ 3
noncomputable def longB (p : Int) : Option Int → Bool
  | none => false
  | some n => decide (n < ((numS (p.natAbs : Nat)).length : Int))
noncomputable def expT (letter : Str) (p : Int) : Option Int → Str
  | none => expS letter p 2
  | some n => expS letter p n
theorem expT_n {letter : Str} {p : Int} : letter ++ markS p ++ Txt.mul (Str.ofString "0") (2 - (numS (p.natAbs : Nat)).length) ++ numS (p.natAbs : Nat) = expT letter p none := by
  unfold expT expS; rfl
theorem expT_s {letter : Str} {p n : Int} : letter ++ markS p ++ Txt.mul (Str.ofString "0") (n - (numS (p.natAbs : Nat)).length) ++ numS (p.natAbs : Nat) = expT letter p (some n) := by
  unfold expT expS; rfl
theorem expT_len {letter : Str} {p : Int} {z : Option Int} (h1 : letter.length ≤ 1) (h2 : -100 < p) (h3 : p < 100) (h5 : ∀ n, z = some n → n ≤ 3) : (expT letter p z).length ≤ 8 := by
  cases z with
  | none => exact expS_len h1 h2 h3 (by decide)
  | some n => exact expS_len h1 h2 h3 (h5 n rfl)
theorem long_n {p : Int} : ¬ longB p none = true := by intro h; cases h
theorem long_1 {p n : Int} (h : n < ((numS (p.natAbs : Nat)).length : Int)) : longB p (some n) = true := decide_eq_true h
theorem long_2 {p n : Int} (h : ¬ n < ((numS (p.natAbs : Nat)).length : Int)) : ¬ longB p (some n) = true := fun g => h (of_decide_eq_true g)
/-- what exponent_text hands back -/
def expOut (letter : Str) (p : Int) (z : Option Int) (r : Value) : Prop := (longB p z = true ∧ r = .none) ∨ (¬ longB p z = true ∧ ∃ t x, r = .str x t ∧ x = expT letter p z ∧ x.length ≤ 8)
theorem expOut_n {letter : Str} {p : Int} {t : Tok} (h1 : letter.length ≤ 1) (h2 : -100 < p) (h3 : p < 100) : expOut letter p none (.str (letter ++ markS p ++ Txt.mul (Str.ofString "0") (2 - (numS (p.natAbs : Nat)).length) ++ numS (p.natAbs : Nat)) t) :=
  Or.inr ⟨long_n, _, _, rfl, expT_n, expT_n ▸ expT_len h1 h2 h3 (fun _ h => by cases h)⟩
theorem expOut_s {letter : Str} {p n : Int} {t : Tok} (h1 : letter.length ≤ 1) (h2 : -100 < p) (h3 : p < 100) (h5 : n ≤ 3) (h : ¬ n < ((numS (p.natAbs : Nat)).length : Int)) : expOut letter p (some n) (.str (letter ++ markS p ++ Txt.mul (Str.ofString "0") (n - (numS (p.natAbs : Nat)).length) ++ numS (p.natAbs : Nat)) t) :=
  Or.inr ⟨long_2 h, _, _, rfl, expT_s, expT_s ▸ expT_len h1 h2 h3 (fun _ h => by cases h; exact h5)⟩
theorem expOut_l {letter : Str} {p n : Int} (h : n < ((numS (p.natAbs : Nat)).length : Int)) : expOut letter p (some n) .none := Or.inl ⟨long_1 h, rfl⟩
theorem exp_text_ok (w : World) (news : List (Addr × Obj)) (letter : Str) (p : Int) (vz : Value) (z : Option Int) (t1 t2 : Tok) (hz : SzV vz z) (h1 : letter.length ≤ 1) (h2 : -100 < p) (h3 : p < 100) :
    Claim w 109 1 news [.str letter t1, .int p t2, vz] fun r nw => nw = news ∧ expOut letter p z r := by
  unfold Claim
  k_fill
  intros
  rename_i hret
  refine wpAny_call ?_
  k_dflt ktr_enter
  k_with "exec If" => (k_here; (fail_if_success (with_reducible rename Met 21 => m9)); (with_reducible show wpAny _ _ (exec (Stmt.If (Expr.Compare (Expr.Name (Str.ofString "power") _) _ _ _) _ _ _) _) _ _ _); k_dflt (refine' meet_set ?F ?N 21 (x := Str.ofString "sign") (v := Value.str (markS p)) ?w ?_; (case F => k_asm); (case N => k_asm); (case w => (intro Q9 m9 q9; k_steps; (all_goals (first | exact q9 _ _ _ (Fr.as (by with_reducible assumption) (congrArg (fun x => Value.str x _) (markS_1 (by assumption)))) (by with_reducible assumption) | exact q9 _ _ _ (Fr.again (by with_reducible assumption) (congrArg (fun x => some (Value.str x _)) (markS_2 (by assumption)))) (by with_reducible assumption))))); intro t9 h9 tk9 F9 N9; have l9 := markS_len p; (try dsimp only); (try k_fold)))
  k_with "exec If" => (k_here; (with_reducible show wpAny _ _ (exec (Stmt.If (Expr.Compare (Expr.Name (Str.ofString "size") _) [CmpOp.Is] _ _) _ _ _) _) _ _ _); k_dflt (rcases hz with ⟨e, e'⟩ | ⟨n, t, e, e', g1, g2⟩; (all_goals subst e e'); (all_goals walk1)))
  k_steps
  all_goals (try (exfalso; omega))
  all_goals (refine hret _ _ _ _ (by assumption) (by assumption) ⟨rfl, ?_⟩)
  all_goals (first | with_reducible exact expOut_n h1 h2 h3 | with_reducible exact expOut_s h1 h2 h3 (by assumption) (by assumption) | with_reducible exact expOut_l (by assumption))
theorem law_power_ok (w : World) (news : List (Addr × Obj)) (letter : Str) (p : Int) (vz : Value) (z : Option Int) (t1 t2 : Tok) (hz : SzV vz z) (h1 : letter.length ≤ 1) (h2 : -100 < p) (h3 : p < 100) :
    Claim w 186 1 news [.str letter t1, .int p t2, vz] fun r nw => nw = news ∧ expOut letter p z r := by
  unfold Claim
  k_fill
  intros
  rename_i hret
  refine wpAny_call ?_
  k_dflt ktr_enter
  k_with "eval IfExp" => (k_here; (fail_if_success (with_reducible rename Met 22 => m9)); (with_reducible show wpAny _ _ (eval (Expr.IfExp (Expr.Compare (Expr.Name (Str.ofString "power") _) _ _ _) _ _ _) _) _ _ _); k_dflt (refine' meet_val ?F ?N 22 (v := Value.str (markS p)) ?w ?_; (case F => k_asm); (case N => k_asm); (case w => (intro Q9 m9 q9; k_steps; (all_goals (refine str_as (Q := Q9) ?_ (q9 _ _ _ (by with_reducible assumption) (by with_reducible assumption)); first | exact markS_1 (by assumption) | exact markS_2 (by assumption))))); intro t9 h9 tk9 F9 N9; have l9 := markS_len p; (try dsimp only); (try k_fold)))
  k_with "exec If" => (k_here; (with_reducible show wpAny _ _ (exec (Stmt.If (Expr.BoolOp _ [Expr.Compare (Expr.Name (Str.ofString "size") _) _ _ _, _] _) _ _ _) _) _ _ _); k_dflt (rcases hz with ⟨e, e'⟩ | ⟨n, t, e, e', g1, g2⟩; (all_goals subst e e'); (all_goals walk1)))
  k_steps
  all_goals (try (exfalso; omega))
  all_goals (refine hret _ _ _ _ (by assumption) (by assumption) ⟨rfl, ?_⟩)
  all_goals (first | with_reducible exact expOut_n h1 h2 h3 | with_reducible exact expOut_s h1 h2 h3 (by assumption) (by assumption) | with_reducible exact expOut_l (by assumption))
example : True := by
  k_with "call ref" => (k_here; (with_reducible show wpAny _ _ (call (Value.ref 151) _) _ _ _); k_dflt (refine' Claim.pairS (spread_ok _ _ _ _ _ _ ?h1 ?h2 ?h3 ?h4) ?k1 ?k2 ?k3 ?k4 ?k5 ?kK ?kd ?ku ?_); (case h1 => omega); (case h2 => omega); (case h3 => omega); (case h4 => omega); (case k1 => k_asm); (case k2 => k_asm); (case k3 => k_asm); (case k4 => k_asm); (case k5 => k_asm); (case kK => first | exact rfl | assumption); (case kd => ktr_room); (case ku => ktr_units); intro x9 u9 v9 h9 tk9 F9 N9 g9 l9 l8 d9 d8; (try dsimp only); (try k_fold))
  k_with "call ref" => (k_here; (with_reducible show wpAny _ _ (call (Value.ref 158) _) _ _ _); k_dflt (refine' Claim.str2 (cut_ok _ _ _ _ _ _ ?hd ?h1 ?h2 ?h3) ?k1 ?k2 ?k3 ?k4 ?k5 ?kK ?kd ?ku ?_); (case hd => first | assumption | exact Dig_app (by assumption) (by assumption) | exact Dig_num (by omega)); (case h1 => first | omega | ((have l1 := len_e); (have l2 := len_z); (have l3 := len_p); (have l4 := len_zp); (have l5 := len_m); (have l6 := len_q); first | omega | (simp only [strLen_append]; omega))); (case h2 => omega); (case h3 => omega); (case k1 => k_asm); (case k2 => k_asm); (case k3 => k_asm); (case k4 => k_asm); (case k5 => k_asm); (case kK => first | exact rfl | assumption); (case kd => ktr_room); (case ku => ktr_units); intro t9 h9 tk9 F9 N9 l9 l8; (try dsimp only); (try k_fold))
  k_with "call ref" => (k_here; (first
  | ((with_reducible show wpAny _ _ (call (Value.ref 109) _) _ _ _); k_dflt (refine' Claim.orN (exp_text_ok _ _ _ _ _ _ _ _ ?hz ?h1 ?h2 ?h3) ?k1 ?k2 ?k3 ?k4 ?k5 ?kK ?kd ?ku ?_ ?_))
  | ((with_reducible show wpAny _ _ (call (Value.ref 186) _) _ _ _); k_dflt (refine' Claim.orN (law_power_ok _ _ _ _ _ _ _ _ ?hz ?h1 ?h2 ?h3) ?k1 ?k2 ?k3 ?k4 ?k5 ?kK ?kd ?ku ?_ ?_))); (case hz => assumption); (case h1 => omega); (case h2 => omega); (case h3 => omega); (case k4 => k_asm); (case k1 => k_asm); (case k2 => k_asm); (case k3 => k_asm); (case k5 => k_asm); (case kK => first | exact rfl | assumption); (case kd => ktr_room); (case ku => ktr_units); intro h9 tk9 F9 N9 g9; (try dsimp only); (try k_fold); rotate_left; intro t9 h9 tk9 F9 N9 g9 l9; (try dsimp only); (try k_fold); rotate_left)
  trivial
@[irreducible] noncomputable def digS (N places : Int) : Str := if N = 0 then Txt.mul (Str.ofString "0") (places - (Str.ofString "").length) ++ Str.ofString "" else Txt.mul (Str.ofString "0") (places - (numS N).length) ++ numS N
@[irreducible] noncomputable def fixedS (n p width places : Int) (plus : Bool) : Str :=
  pointS (signS (decide (n < 0) && decide (0 < scaledI (n.natAbs : Nat) (p + 0 + places))) plus)
    (Txt.slice (digS (scaledI (n.natAbs : Nat) (p + 0 + places)) places) none (some ((digS (scaledI (n.natAbs : Nat) (p + 0 + places)) places).length - places)))
    (Txt.slice (digS (scaledI (n.natAbs : Nat) (p + 0 + places)) places) (some ((digS (scaledI (n.natAbs : Nat) (p + 0 + places)) places).length - places)) none) width
theorem digS_0 {N places : Int} (h : N = 0) : digS N places = Txt.mul (Str.ofString "0") (places - (Str.ofString "").length) ++ Str.ofString "" := by unfold digS; rw [if_pos h]
theorem digS_n {N places : Int} (h : ¬ N = 0) : digS N places = Txt.mul (Str.ofString "0") (places - (numS N).length) ++ numS N := by unfold digS; rw [if_neg h]
/-- a number's digits, none for nought -/
@[irreducible] noncomputable def nilS (N : Int) : Str := if N = 0 then Str.ofString "" else numS N
theorem nilS_1 {N : Int} (h : N = 0) : Str.ofString "" = nilS N := by unfold nilS; rw [if_pos h]
theorem nilS_2 {N : Int} (h : ¬ N = 0) : numS N = nilS N := by unfold nilS; rw [if_neg h]
theorem nilS_le (N : Int) : (nilS N).length ≤ (numS N).length := by
  unfold nilS; split
  · rw [len_e]; exact Nat.zero_le _
  · exact Nat.le_refl _
theorem digS_m {N places : Int} : digS N places = Txt.mul (Str.ofString "0") (places - (nilS N).length) ++ nilS N := by
  unfold digS nilS; split <;> rfl
theorem fixedS_m {n p width places : Int} {plus : Bool} {d : Str} (hd : digS (scaledI (n.natAbs : Nat) (p + 0 + places)) places = d) :
    pointS (signS (decide (n < 0) && decide (0 < scaledI (n.natAbs : Nat) (p + 0 + places))) plus) (Txt.slice d none (some (d.length - places))) (Txt.slice d (some (d.length - places)) none) width = fixedS n p width places plus := by
  unfold fixedS; rw [hd]
theorem edit_fixed_ok (w : World) (news : List (Addr × Obj)) (v : Addr) (n p : Int) (u1 u2 : Tok) (hm : (v, tupO [.int n u1, .int p u2]) ∈ news) (hn1 : - 10 ^ 9 < n) (hn2 : n < 10 ^ 9) (hp1 : -14 ≤ p) (hp2 : p ≤ 10) (width places : Int) (plus : Bool) (t1 t2 t3 : Tok) (h1 : 0 ≤ width) (h2 : width ≤ 30) (h3 : 0 ≤ places) (h4 : places ≤ 15) :
    Claim w 95 3 news [.ref v, .int width t1, .int places t2, .int 0 t3, .bool plus] fun r nw => nw = news ∧ ∃ t x, r = .str x t ∧ x = fixedS n p width places plus ∧ (x.length : Int) = width := by
  unfold Claim
  k_fill
  intros
  rename_i hret
  refine wpAny_call ?_
  k_dflt ktr_enter
  k_with "exec If" => (k_here; (fail_if_success (with_reducible rename Met 61 => m9)); (try dsimp only); (with_reducible show wpAny _ _ (exec (Stmt.If (Expr.Compare (Expr.Name (Str.ofString "number") _) _ _ _) [Stmt.Assign [Expr.Name (Str.ofString "digits") _] _ _] _ _) _) _ _ _); k_dflt (refine' meet_set ?F ?N 61 (x := Str.ofString "digits") (v := Value.str (nilS (scaledI (n.natAbs : Nat) (p + 0 + places)))) ?w ?_; (case F => k_asm); (case N => k_asm); (case w => (intro Q9 m9 q9; k_steps; (all_goals (first | exact q9 _ _ _ (Fr.as (v := Value.str (Str.ofString "") _) (by with_reducible assumption) (congrArg (fun x => Value.str x _) (nilS_1 (by assumption)))) (by with_reducible assumption) | exact q9 _ _ _ (Fr.again (by with_reducible assumption) (congrArg (fun x => some (Value.str x _)) (nilS_2 (by assumption)))) (by with_reducible assumption))))); intro t9 h9 tk9 F9 N9; have l7 := nilS_le (scaledI (n.natAbs : Nat) (p + 0 + places)); (try dsimp only); (try k_fold)))
  k_with "eval BoolOp" => (k_here; (fail_if_success (with_reducible rename Met 62 => m9)); (with_reducible show wpAny _ _ (eval (Expr.BoolOp _ [_, Expr.Compare (Expr.Name (Str.ofString "number") _) _ _ _] _) _) _ _ _); k_dflt (refine' meet_val ?F ?N 62 (v := fun _ => Value.bool (decide (n < 0) && decide (0 < scaledI (n.natAbs : Nat) (p + 0 + places)))) ?w ?_; (case F => k_asm); (case N => k_asm); (case w => (intro Q9 m9 q9; k_steps; (all_goals (first | exact bool_as (Q := Q9) (neg_1 (by assumption)) (q9 0 _ _ (by with_reducible assumption) (by with_reducible assumption)) | exact bool_as (Q := Q9) (neg_2 (by assumption)) (q9 0 _ _ (by with_reducible assumption) (by with_reducible assumption)))))); intro t9 h9 tk9 F9 N9; (try dsimp only); (try k_fold)))
  k_steps
  all_goals (refine hret _ _ _ _ (by with_reducible assumption) (by with_reducible assumption) ⟨rfl, _, _, rfl, ?_, by assumption⟩)
  all_goals (first
    | with_reducible exact fixedS_m digS_m
    | (refine Eq.trans ?_ (fixedS_m digS_m); rw [strLen_append]; rfl))
@[irreducible] noncomputable def leadD (n c : Int) : Str := numS (scaledI (n.natAbs : Nat) (c - (numS (n.natAbs : Nat)).length))
@[irreducible] noncomputable def leadA (n c : Int) : Str := if (n.natAbs : Int) = 0 then Txt.mul (Str.ofString "0") c else if c < (leadD n c).length then Txt.slice (leadD n c) none (some c) else leadD n c
@[irreducible] noncomputable def leadB (n p c : Int) : Int := if (n.natAbs : Int) = 0 then 0 else if c < (leadD n c).length then (numS (n.natAbs : Nat)).length + p + 1 else (numS (n.natAbs : Nat)).length + p
theorem leadA_1 {n c : Int} (h : (n.natAbs : Int) = 0) : Txt.mul (Str.ofString "0") c = leadA n c := by unfold leadA; rw [if_pos h]
theorem leadB_1 {n p c : Int} (h : (n.natAbs : Int) = 0) : 0 = leadB n p c := by unfold leadB; rw [if_pos h]
theorem leadA_2 {n c : Int} (h : (n.natAbs : Int) ≠ 0) (g : c < (numS (scaledI (n.natAbs : Nat) (c - (numS (n.natAbs : Nat)).length))).length) : Txt.slice (numS (scaledI (n.natAbs : Nat) (c - (numS (n.natAbs : Nat)).length))) none (some c) = leadA n c := by
  unfold leadA leadD; rw [if_neg h, if_pos g]
theorem leadB_2 {n p c : Int} (h : (n.natAbs : Int) ≠ 0) (g : c < (numS (scaledI (n.natAbs : Nat) (c - (numS (n.natAbs : Nat)).length))).length) : (numS (n.natAbs : Nat)).length + p + 1 = leadB n p c := by
  unfold leadB leadD; rw [if_neg h, if_pos g]
theorem leadA_3 {n c : Int} (h : (n.natAbs : Int) ≠ 0) (g : ¬ c < (numS (scaledI (n.natAbs : Nat) (c - (numS (n.natAbs : Nat)).length))).length) : numS (scaledI (n.natAbs : Nat) (c - (numS (n.natAbs : Nat)).length)) = leadA n c := by
  unfold leadA leadD; rw [if_neg h, if_neg g]
theorem leadB_3 {n p c : Int} (h : (n.natAbs : Int) ≠ 0) (g : ¬ c < (numS (scaledI (n.natAbs : Nat) (c - (numS (n.natAbs : Nat)).length))).length) : (numS (n.natAbs : Nat)).length + p = leadB n p c := by
  unfold leadB leadD; rw [if_neg h, if_neg g]
theorem leading_ok (w : World) (news : List (Addr × Obj)) (v : Addr) (n p : Int) (u1 u2 : Tok) (hm : (v, tupO [.int n u1, .int p u2]) ∈ news) (hn1 : - 10 ^ 9 < n) (hn2 : n < 10 ^ 9) (hp1 : -14 ≤ p) (hp2 : p ≤ 10) (c : Int) (t1 : Tok) (h1 : 1 ≤ c) (h2 : c ≤ 15) :
    Claim w 102 2 news [.ref v, .int c t1] fun r nw => ∃ x u v a b, r = .ref x ∧ nw = (x, tupO [.str a u, .int b v]) :: news ∧ (∀ q ∈ news, q.1 < x) ∧ a = leadA n c ∧ b = leadB n p c ∧ a.length ≤ 40 ∧ -14 ≤ b ∧ b ≤ 20 := by
  unfold Claim
  k_fill
  intros
  rename_i hret
  refine wpAny_call ?_
  k_dflt ktr_enter
  k_steps
  · exact hret _ _ _ _ (by assumption) (by assumption) ⟨_, _, _, _, _, rfl, rfl, by assumption, leadA_1 (by assumption), leadB_1 (by assumption), by omega, by omega, by omega⟩
  · exact hret _ _ _ _ (by assumption) (by assumption) ⟨_, _, _, _, _, rfl, rfl, by assumption, leadA_2 (by assumption) (by assumption), leadB_2 (by assumption) (by assumption), by omega, by omega, by omega⟩
  · exact hret _ _ _ _ (by assumption) (by assumption) ⟨_, _, _, _, _, rfl, rfl, by assumption, leadA_3 (by assumption) (by assumption), leadB_3 (by assumption) (by assumption), by omega, by omega, by omega⟩
theorem is_general_ok (w : World) (news : List (Addr × Obj)) (v : Addr) (n p : Int) (u1 u2 : Tok) (hm : (v, tupO [.int n u1, .int p u2]) ∈ news) (hn1 : - 10 ^ 9 < n) (hn2 : n < 10 ^ 9) (hp1 : -14 ≤ p) (hp2 : p ≤ 10) (places : Int) (t1 : Tok) (h3 : 0 ≤ places) (h4 : places ≤ 15) :
    Claim w 123 1 news [.ref v, .int places t1] fun r nw => nw = news ∧ ((n ≠ 0 ∧ 0 ≤ ((numS (n.natAbs : Nat)).length : Int) + p ∧ ((numS (n.natAbs : Nat)).length : Int) + p ≤ places ∧ r = .bool true) ∨ (¬ (n ≠ 0 ∧ 0 ≤ ((numS (n.natAbs : Nat)).length : Int) + p ∧ ((numS (n.natAbs : Nat)).length : Int) + p ≤ places) ∧ r = .bool false)) := by
  unfold Claim
  k_fill
  intros
  rename_i hret
  refine wpAny_call ?_
  k_dflt ktr_enter
  k_steps
  · exact hret _ _ _ _ (by assumption) (by assumption) ⟨rfl, Or.inr ⟨fun h => h.1 (by assumption), rfl⟩⟩
  · by_cases g : ((numS (n.natAbs : Nat)).length : Int) + p ≤ places
    · exact hret _ _ _ _ (by assumption) (by assumption) ⟨rfl, Or.inl ⟨by assumption, by assumption, g, congrArg Value.bool (decide_eq_true g)⟩⟩
    · exact hret _ _ _ _ (by assumption) (by assumption) ⟨rfl, Or.inr ⟨fun h => g h.2.2, congrArg Value.bool (decide_eq_false g)⟩⟩
  · have g : ¬ 0 ≤ ((numS (n.natAbs : Nat)).length : Int) + p := by assumption
    exact hret _ _ _ _ (by assumption) (by assumption) ⟨rfl, Or.inr ⟨fun h => g h.2.1, congrArg Value.bool (decide_eq_false g)⟩⟩
example : True := by
  k_with "call ref" => (k_here; (with_reducible show wpAny _ _ (call (Value.ref 102) _) _ _ _); k_dflt (refine' Claim.pairI (leading_ok _ _ _ _ _ _ _ ?hm ?g1 ?g2 ?g3 ?g4 _ _ ?h1 ?h2) ?k1 ?k2 ?k3 ?k4 ?k5 ?kK ?kd ?ku ?_); (case k4 => k_asm); (case hm => first | assumption | exact List.Mem.tail _ (by assumption) | exact List.Mem.tail _ (List.Mem.tail _ (by assumption)) | k_mem); (case g1 => omega); (case g2 => omega); (case g3 => omega); (case g4 => omega); (case h1 => omega); (case h2 => omega); (case k1 => k_asm); (case k2 => k_asm); (case k3 => k_asm); (case k5 => k_asm); (case kK => first | exact rfl | assumption); (case kd => ktr_room); (case ku => ktr_units); intro x9 u9 v9 h9 tk9 F9 N9 g9 l9 l8 l7; (try dsimp only); (try k_fold))
  k_with "call ref" => (k_here; (with_reducible show wpAny _ _ (call (Value.ref 95) _) _ _ _); k_dflt (refine' Claim.strP (edit_fixed_ok _ _ _ _ _ _ _ ?hm ?g1 ?g2 ?g3 ?g4 _ _ _ _ _ _ ?h1 ?h2 ?h3 ?h4) ?k1 ?k2 ?k3 ?k4 ?k5 ?kK ?kd ?ku ?_); (case k4 => k_asm); (case hm => first | assumption | exact List.Mem.tail _ (by assumption) | exact List.Mem.tail _ (List.Mem.tail _ (by assumption)) | k_mem); (case g1 => omega); (case g2 => omega); (case g3 => omega); (case g4 => omega); (case h1 => omega); (case h2 => omega); (case h3 => omega); (case h4 => omega); (case k1 => k_asm); (case k2 => k_asm); (case k3 => k_asm); (case k5 => k_asm); (case kK => first | exact rfl | assumption); (case kd => ktr_room); (case ku => ktr_units); intro t9 h9 tk9 F9 N9 l9; (try dsimp only); (try k_fold))
  k_with "call ref" => (k_here; (with_reducible show wpAny _ _ (call (Value.ref 123) _) _ _ _); k_dflt (refine' Claim.orB (is_general_ok _ _ _ _ _ _ _ ?hm ?g1 ?g2 ?g3 ?g4 _ _ ?h1 ?h2) ?k1 ?k2 ?k3 ?k4 ?k5 ?kK ?kd ?ku ?_ ?_); (case k4 => k_asm); (case hm => first | assumption | exact List.Mem.tail _ (by assumption) | exact List.Mem.tail _ (List.Mem.tail _ (by assumption)) | k_mem); (case g1 => omega); (case g2 => omega); (case g3 => omega); (case g4 => omega); (case h1 => omega); (case h2 => omega); (case k1 => k_asm); (case k2 => k_asm); (case k3 => k_asm); (case k5 => k_asm); (case kK => first | exact rfl | assumption); (case kd => ktr_room); (case ku => ktr_units); intro h9 tk9 F9 N9 q9 q8 q7; (try dsimp only); (try k_fold); rotate_left; intro h9 tk9 F9 N9 q9; (try dsimp only); (try k_fold); rotate_left)
  trivial
@[irreducible] noncomputable def toldS (n p places : Int) : Str := cutS (spreadA (n.natAbs : Nat) p ++ spreadB (n.natAbs : Nat) p) ((spreadA (n.natAbs : Nat) p).length + places)
@[irreducible] noncomputable def lawPick (sg a b : Str) (width : Int) : Str :=
  if (a == Str.ofString "") = true then
    if (b != Str.ofString "") = true then lawField2 (sg ++ Str.ofString "0." ++ b) (sg ++ Str.ofString "." ++ b) width
    else lawField1 (sg ++ Str.ofString "0" ++ Str.ofString "." ++ b) width
  else lawField1 (sg ++ a ++ Str.ofString "." ++ b) width
@[irreducible] noncomputable def lawFixedS (n p width places : Int) (plus : Bool) : Str :=
  lawPick (signS (decide (n < 0) && !(Txt.stripChars (toldS n p places) (Str.ofString "0") == Str.ofString "")) plus)
    (Txt.slice (toldS n p places) none (some ((toldS n p places).length - places))) (Txt.slice (toldS n p places) (some ((toldS n p places).length - places)) none) width
/-- what stands ahead of the point, a nought where nothing does -/
@[irreducible] noncomputable def aheadS (a : Str) : Str := if (a != Str.ofString "") = true then a else Str.ofString "0"
theorem aheadS_1 {a : Str} (h : (a != Str.ofString "") = true) : a = aheadS a := by unfold aheadS; rw [if_pos h]
theorem aheadS_2 {a : Str} (h : (a != Str.ofString "") = false) : Str.ofString "0" = aheadS a := by unfold aheadS; rw [if_neg (by rw [h]; decide)]
theorem aheadS_le (a : Str) : (aheadS a).length ≤ a.length + 1 := by
  unfold aheadS; split
  · exact Nat.le_succ _
  · rw [len_z]; exact Nat.le_add_left _ _
theorem lawPick_1 {sg a b : Str} {width : Int} (h : (a == Str.ofString "") = true ∧ (b != Str.ofString "") = true) : lawField2 (sg ++ Str.ofString "0." ++ b) (sg ++ Str.ofString "." ++ b) width = lawPick sg a b width := by
  unfold lawPick; rw [if_pos h.1, if_pos h.2]
theorem lawPick_2 {sg a b : Str} {width : Int} (h : ¬ ((a == Str.ofString "") = true ∧ (b != Str.ofString "") = true)) : lawField1 (sg ++ aheadS a ++ Str.ofString "." ++ b) width = lawPick sg a b width := by
  unfold lawPick
  by_cases g : (a == Str.ofString "") = true
  · have e : (a != Str.ofString "") = false := by unfold bne; rw [g]; rfl
    rw [if_pos g, if_neg (fun k => h ⟨g, k⟩), ← aheadS_2 e]
  · have e : (a != Str.ofString "") = true := by unfold bne; rw [Bool.eq_false_iff.mpr g]; rfl
    rw [if_neg g, ← aheadS_1 e]
theorem lawFixed_m {n p width places : Int} {plus : Bool} {d : Str} (hd : d = toldS n p places) :
    lawPick (signS (decide (n < 0) && !(Txt.stripChars d (Str.ofString "0") == Str.ofString "")) plus) (Txt.slice d none (some (d.length - places))) (Txt.slice d (some (d.length - places)) none) width = lawFixedS n p width places plus := by
  subst hd; unfold lawFixedS; rfl
theorem two_1 {a b : Bool} (h1 : a = true) (h2 : b = true) : a = true ∧ b = true := ⟨h1, h2⟩
theorem two_2 {a b : Bool} (h : a = false) : ¬ (a = true ∧ b = true) := fun g => by rw [h] at g; exact absurd g.1 (by decide)
theorem two_3 {a b : Bool} (h : b = false) : ¬ (a = true ∧ b = true) := fun g => by rw [h] at g; exact absurd g.2 (by decide)
theorem told_is {n p places : Int} : cutS (spreadA (n.natAbs : Nat) p ++ spreadB (n.natAbs : Nat) p) ((spreadA (n.natAbs : Nat) p).length + places) = toldS n p places := by unfold toldS; rfl
theorem lawField1_len {a : Str} {width : Int} (h : 0 ≤ width) : ((lawField1 a width).length : Int) = width := by
  unfold lawField1
  split
  · rw [strLen_append]
    have := mulS_len (x := Str.ofString " ") (by decide) (n := width - a.length) (by omega)
    omega
  · exact mulS_len (by decide) h
theorem lawField2_len {a b : Str} {width : Int} (h : 0 ≤ width) : ((lawField2 a b width).length : Int) = width := by
  unfold lawField2
  split
  · rw [strLen_append]
    have := mulS_len (x := Str.ofString " ") (by decide) (n := width - a.length) (by omega)
    omega
  · exact lawField1_len h
theorem lawFixedS_len {n p width places : Int} {plus : Bool} (h : 0 ≤ width) : ((lawFixedS n p width places plus).length : Int) = width := by
  unfold lawFixedS lawPick
  split
  · split
    · exact lawField2_len h
    · exact lawField1_len h
  · exact lawField1_len h
section
local macro_rules | `(tactic| walk_at "subscriptTail") => `(tactic| (k_here; (with_reducible show wpAny _ _ (subscriptTail _ _ (Value.ref _) (Value.int _ _)) _ _ _); k_dflt (refine' item_tupleT ?t ?a ?b ?c ?d ?_; (case t => exact News.isTup (by k_asm) (by first | assumption | exact List.Mem.tail _ (by assumption) | exact List.Mem.tail _ (List.Mem.tail _ (by assumption)))); (case a => decide); (case b => decide); (case c => rfl); (case d => rfl); k_whole)))
theorem law_fixed_ok (w : World) (news : List (Addr × Obj)) (v : Addr) (n p : Int) (u1 u2 : Tok) (hm : (v, tupO [.int n u1, .int p u2]) ∈ news) (hn1 : - 10 ^ 9 < n) (hn2 : n < 10 ^ 9) (hp1 : -14 ≤ p) (hp2 : p ≤ 10) (width places : Int) (plus : Bool) (t1 t2 : Tok) (h1 : 0 ≤ width) (h2 : width ≤ 30) (h3 : 0 ≤ places) (h4 : places ≤ 15) :
    Claim w 179 3 news [.ref v, .int width t1, .int places t2, .bool plus] fun r nw => nw = news ∧ ∃ t x, r = .str x t ∧ x = lawFixedS n p width places plus ∧ (x.length : Int) = width := by
  unfold Claim
  k_fill
  intros
  rename_i hret
  refine wpAny_call ?_
  k_dflt ktr_enter
  k_with "eval BoolOp" => (k_here; (fail_if_success (with_reducible rename Met 71 => m9)); (with_reducible show wpAny _ _ (eval (Expr.BoolOp _ [_, Expr.UnaryOp _ _ _] _) _) _ _ _); k_dflt (refine' meet_val ?F ?N 71 (v := fun _ => Value.bool (decide (n < 0) && !(Txt.stripChars (cutS (spreadA (n.natAbs : Nat) p ++ spreadB (n.natAbs : Nat) p) ((spreadA (n.natAbs : Nat) p).length + places)) (Str.ofString "0") == Str.ofString ""))) ?w ?_; (case F => k_asm); (case N => k_asm); (case w => (intro Q9 m9 q9; k_steps; (all_goals (first | exact bool_as (Q := Q9) (neg_1 (by assumption)) (q9 0 _ _ (by with_reducible assumption) (by with_reducible assumption)) | exact bool_as (Q := Q9) (neg_2 (by assumption)) (q9 0 _ _ (by with_reducible assumption) (by with_reducible assumption)))))); intro t9 h9 tk9 F9 N9; (try dsimp only); (try k_fold)))
  k_with "isTrue BoolOp" => (k_here; (fail_if_success (with_reducible rename Met 72 => m9)); (with_reducible show wpAny _ _ (isTrue (Expr.BoolOp _ [Expr.Compare (Expr.Name (Str.ofString "ahead") _) _ _ _, Expr.Compare (Expr.Name (Str.ofString "behind") _) _ _ _] _) _ _) _ _ _); k_dflt (refine' meet_test ?F ?N 72 (C := (Txt.slice (cutS (spreadA (n.natAbs : Nat) p ++ spreadB (n.natAbs : Nat) p) ((spreadA (n.natAbs : Nat) p).length + places)) none (some ((cutS (spreadA (n.natAbs : Nat) p ++ spreadB (n.natAbs : Nat) p) ((spreadA (n.natAbs : Nat) p).length + places)).length - places)) == Str.ofString "") = true ∧ (Txt.slice (cutS (spreadA (n.natAbs : Nat) p ++ spreadB (n.natAbs : Nat) p) ((spreadA (n.natAbs : Nat) p).length + places)) (some ((cutS (spreadA (n.natAbs : Nat) p ++ spreadB (n.natAbs : Nat) p) ((spreadA (n.natAbs : Nat) p).length + places)).length - places)) none != Str.ofString "") = true) ?w ?_ ?_; (case F => k_asm); (case N => k_asm); (case w => (intro Q9 m9 qt qf; k_steps; (all_goals (first | exact qt _ _ (by with_reducible assumption) (by with_reducible assumption) (two_1 (by assumption) (by assumption)) | exact qf _ _ (by with_reducible assumption) (by with_reducible assumption) (two_2 (by assumption)) | exact qf _ _ (by with_reducible assumption) (by with_reducible assumption) (two_3 (by assumption)))))); intro h9 tk9 F9 N9 g9; (try dsimp only); (try k_fold); rotate_left; intro h9 tk9 F9 N9 g9; (try dsimp only); (try k_fold); rotate_left))
  k_with "eval IfExp" => (k_here; (fail_if_success (with_reducible rename Met 73 => m9)); (with_reducible show wpAny _ _ (eval (Expr.IfExp (Expr.Compare (Expr.Name (Str.ofString "ahead") _) _ _ _) _ _ _) _) _ _ _); k_dflt (refine' meet_val ?F ?N 73 (v := Value.str (aheadS (Txt.slice (cutS (spreadA (n.natAbs : Nat) p ++ spreadB (n.natAbs : Nat) p) ((spreadA (n.natAbs : Nat) p).length + places)) none (some ((cutS (spreadA (n.natAbs : Nat) p ++ spreadB (n.natAbs : Nat) p) ((spreadA (n.natAbs : Nat) p).length + places)).length - places))))) ?w ?_; (case F => k_asm); (case N => k_asm); (case w => (intro Q9 m9 q9; k_steps; (all_goals (first | exact str_as (Q := Q9) (aheadS_1 (by assumption)) (q9 _ _ _ (by with_reducible assumption) (by with_reducible assumption)) | exact str_as (Q := Q9) (aheadS_2 (by assumption)) (q9 _ _ _ (by with_reducible assumption) (by with_reducible assumption)))))); intro t9 h9 tk9 F9 N9; have l7 := aheadS_le (Txt.slice (cutS (spreadA (n.natAbs : Nat) p ++ spreadB (n.natAbs : Nat) p) ((spreadA (n.natAbs : Nat) p).length + places)) none (some ((cutS (spreadA (n.natAbs : Nat) p ++ spreadB (n.natAbs : Nat) p) ((spreadA (n.natAbs : Nat) p).length + places)).length - places))); (try dsimp only); (try k_fold)))
  k_steps
  all_goals (refine hret _ _ _ _ (by with_reducible assumption) (cb_drop (by with_reducible assumption) (fun _ hp => List.Mem.tail _ (List.Mem.tail _ (List.Mem.tail _ hp)))) (have e := ?_; ⟨rfl, _, _, rfl, e, e ▸ lawFixedS_len h1⟩))
  all_goals (first
    | exact Eq.trans (lawPick_1 (by assumption)) (lawFixed_m told_is)
    | exact Eq.trans (lawPick_2 (by assumption)) (lawFixed_m told_is))
@[irreducible] noncomputable def lawLeadA (n c : Int) : Str := if n = 0 then Txt.mul (Str.ofString "0") c else Txt.slice (cutS (numS (n.natAbs : Nat)) c) none (some c)
@[irreducible] noncomputable def lawLeadB (n p c : Int) : Int := if n = 0 then 0 else (numS (n.natAbs : Nat)).length + p + (cutS (numS (n.natAbs : Nat)) c).length - c
theorem lawLeadA_1 {n c : Int} (h : n = 0) : Txt.mul (Str.ofString "0") c = lawLeadA n c := by unfold lawLeadA; rw [if_pos h]
theorem lawLeadA_2 {n c : Int} (h : n ≠ 0) : Txt.slice (cutS (numS (n.natAbs : Nat)) c) none (some c) = lawLeadA n c := by unfold lawLeadA; rw [if_neg h]
theorem lawLeadB_1 {n p c : Int} (h : n = 0) : 0 = lawLeadB n p c := by unfold lawLeadB; rw [if_pos h]
theorem lawLeadB_2 {n p c : Int} (h : n ≠ 0) : (numS (n.natAbs : Nat)).length + p + (cutS (numS (n.natAbs : Nat)) c).length - c = lawLeadB n p c := by unfold lawLeadB; rw [if_neg h]
theorem law_leading_ok (w : World) (news : List (Addr × Obj)) (v : Addr) (n p : Int) (u1 u2 : Tok) (hm : (v, tupO [.int n u1, .int p u2]) ∈ news) (hn1 : - 10 ^ 9 < n) (hn2 : n < 10 ^ 9) (hp1 : -14 ≤ p) (hp2 : p ≤ 10) (c : Int) (t1 : Tok) (h1 : 1 ≤ c) (h2 : c ≤ 15) :
    Claim w 193 2 news [.ref v, .int c t1] fun r nw => ∃ x u v a b, r = .ref x ∧ nw = (x, tupO [.str a u, .int b v]) :: news ∧ (∀ q ∈ news, q.1 < x) ∧ a = lawLeadA n c ∧ b = lawLeadB n p c ∧ a.length ≤ 40 ∧ -14 ≤ b ∧ b ≤ 20 := by
  unfold Claim
  k_fill
  intros
  rename_i hret
  refine wpAny_call ?_
  k_dflt ktr_enter
  k_steps
  · exact hret _ _ _ _ (by assumption) (by assumption) ⟨_, _, _, _, _, rfl, rfl, by assumption, lawLeadA_1 (by assumption), lawLeadB_1 (by assumption), by omega, by omega, by omega⟩
  · exact hret _ _ _ _ (by assumption) (by assumption) ⟨_, _, _, _, _, rfl, rfl, by assumption, lawLeadA_2 (by assumption), lawLeadB_2 (by assumption), by omega, by omega, by omega⟩
end
example : True := by
  k_with "subscriptTail" => (k_here; (with_reducible show wpAny _ _ (subscriptTail _ _ (Value.ref _) (Value.int _ _)) _ _ _); k_dflt (refine' item_tupleT ?t ?a ?b ?c ?d ?_; (case t => exact News.isTup (by k_asm) (by first | assumption | exact List.Mem.tail _ (by assumption) | exact List.Mem.tail _ (List.Mem.tail _ (by assumption)))); (case a => decide); (case b => decide); (case c => rfl); (case d => rfl); k_whole))
  k_with "call ref" => (k_here; (with_reducible show wpAny _ _ (call (Value.ref 193) _) _ _ _); k_dflt (refine' Claim.pairI (law_leading_ok _ _ _ _ _ _ _ ?hm ?g1 ?g2 ?g3 ?g4 _ _ ?h1 ?h2) ?k1 ?k2 ?k3 ?k4 ?k5 ?kK ?kd ?ku ?_); (case k4 => k_asm); (case hm => first | assumption | exact List.Mem.tail _ (by assumption) | exact List.Mem.tail _ (List.Mem.tail _ (by assumption)) | k_mem); (case g1 => omega); (case g2 => omega); (case g3 => omega); (case g4 => omega); (case h1 => omega); (case h2 => omega); (case k1 => k_asm); (case k2 => k_asm); (case k3 => k_asm); (case k5 => k_asm); (case kK => first | exact rfl | assumption); (case kd => ktr_room); (case ku => ktr_units); intro x9 u9 v9 h9 tk9 F9 N9 g9 l9 l8 l7; (try dsimp only); (try k_fold))
  k_with "call ref" => (k_here; (with_reducible show wpAny _ _ (call (Value.ref 179) _) _ _ _); k_dflt (refine' Claim.strP (law_fixed_ok _ _ _ _ _ _ _ ?hm ?g1 ?g2 ?g3 ?g4 _ _ _ _ _ ?h1 ?h2 ?h3 ?h4) ?k1 ?k2 ?k3 ?k4 ?k5 ?kK ?kd ?ku ?_); (case k4 => k_asm); (case hm => first | assumption | exact List.Mem.tail _ (by assumption) | exact List.Mem.tail _ (List.Mem.tail _ (by assumption)) | k_mem); (case g1 => omega); (case g2 => omega); (case g3 => omega); (case g4 => omega); (case h1 => omega); (case h2 => omega); (case h3 => omega); (case h4 => omega); (case k1 => k_asm); (case k2 => k_asm); (case k3 => k_asm); (case k5 => k_asm); (case kK => first | exact rfl | assumption); (case kd => ktr_room); (case ku => ktr_units); intro t9 h9 tk9 F9 N9 l9; (try dsimp only); (try k_fold))
  trivial
@[irreducible] noncomputable def editExpO (letter : Str) (n p width places : Int) (z : Option Int) (plus : Bool) : Str :=
  if longB (leadB n p (places + 0)) z = true then Txt.mul (Str.ofString "*") width
  else pointS (signS (decide (n < 0)) plus) (Str.ofString "") (Txt.mul (Str.ofString "0") (-0) ++ leadA n (places + 0) ++ expT letter (leadB n p (places + 0)) z) width
@[irreducible] noncomputable def lawExpO (letter : Str) (n p width places : Int) (z : Option Int) (plus : Bool) : Str :=
  if longB (lawLeadB n p places) z = true then Txt.mul (Str.ofString "*") width
  else lawField2 (signS (decide (n < 0)) plus ++ Str.ofString "0." ++ lawLeadA n places ++ expT letter (lawLeadB n p places) z)
    (signS (decide (n < 0)) plus ++ Str.ofString "." ++ lawLeadA n places ++ expT letter (lawLeadB n p places) z) width
section
variable {letter : Str} {n p width places : Int} {z : Option Int} {plus : Bool}
theorem editExpO_1 (h : longB (leadB n p (places + 0)) z = true) : Txt.mul (Str.ofString "*") width = editExpO letter n p width places z plus := by
  unfold editExpO; rw [if_pos h]
theorem editExpO_2 (h : ¬ longB (leadB n p (places + 0)) z = true) : pointS (signS (decide (n < 0)) plus) (Str.ofString "") (Txt.mul (Str.ofString "0") (-0) ++ leadA n (places + 0) ++ expT letter (leadB n p (places + 0)) z) width = editExpO letter n p width places z plus := by
  unfold editExpO; rw [if_neg h]
theorem lawExpO_1 (h : longB (lawLeadB n p places) z = true) : Txt.mul (Str.ofString "*") width = lawExpO letter n p width places z plus := by
  unfold lawExpO; rw [if_pos h]
theorem lawExpO_2 (h : ¬ longB (lawLeadB n p places) z = true) : lawField2 (signS (decide (n < 0)) plus ++ Str.ofString "0." ++ lawLeadA n places ++ expT letter (lawLeadB n p places) z)
    (signS (decide (n < 0)) plus ++ Str.ofString "." ++ lawLeadA n places ++ expT letter (lawLeadB n p places) z) width = lawExpO letter n p width places z plus := by
  unfold lawExpO; rw [if_neg h]
end
section
variable (w : World) (news : List (Addr × Obj)) (v : Addr) (n p : Int) (u1 u2 : Tok) (hm : (v, tupO [.int n u1, .int p u2]) ∈ news) (hn1 : - 10 ^ 9 < n) (hn2 : n < 10 ^ 9) (hp1 : -14 ≤ p) (hp2 : p ≤ 10) (width places : Int) (plus : Bool) (letter : Str) (h0 : letter.length ≤ 1) (h1 : 0 ≤ width) (h2 : width ≤ 30) (h3 : 1 ≤ places) (h4 : places ≤ 12) (vz : Value) (z : Option Int) (hz : SzV vz z)
include hm hn1 hn2 hp1 hp2 h1 h2 h3 h4 h0 hz
theorem edit_exp_ok (t0 t1 t2 t3 : Tok) : Claim w 116 3 news [.str letter t0, .ref v, .int width t1, .int places t2, vz, .int 0 t3, .bool plus] fun r nw => nw = news ∧ ∃ t x, r = .str x t ∧ x = editExpO letter n p width places z plus := by
  unfold Claim
  k_fill
  intros
  rename_i hret
  refine wpAny_call ?_
  k_dflt ktr_enter
  k_with "exec If" => (k_here; (fail_if_success (with_reducible rename Met 31 => m9)); (with_reducible show wpAny _ _ (exec (Stmt.If _ [Stmt.AugAssign (Expr.Name (Str.ofString "power") _) _ _ _] _ _) _) _ _ _); k_dflt (refine' meet_set ?F ?N 31 (x := Str.ofString "power") (v := Value.int (leadB n p (places + 0))) ?w ?_; (case F => k_asm); (case N => k_asm); (case w => (intro Q9 m9 q9; k_steps; (all_goals (first | exact q9 _ _ _ (Fr.as (by with_reducible assumption) (congrArg (fun x => Value.int x _) (Int.sub_zero _))) (by with_reducible assumption) | exact q9 _ _ _ (Fr.again (by with_reducible assumption) rfl) (by with_reducible assumption))))); intro t9 h9 tk9 F9 N9; (try dsimp only); (try k_fold)))
  k_steps
  all_goals (refine hret _ _ _ _ (by with_reducible assumption) (cb_drop (by with_reducible assumption) (fun _ hp => List.Mem.tail _ hp)) ⟨rfl, _, _, rfl, ?_⟩)
  all_goals (first | with_reducible exact editExpO_1 (by assumption) | with_reducible exact editExpO_2 (by assumption))
theorem law_exp_ok (t0 t1 t2 : Tok) : Claim w 207 3 news [.str letter t0, .ref v, .int width t1, .int places t2, vz, .bool plus] fun r nw => nw = news ∧ ∃ t x, r = .str x t ∧ x = lawExpO letter n p width places z plus := by
  unfold Claim
  k_fill
  intros
  rename_i hret
  refine wpAny_call ?_
  k_dflt ktr_enter
  k_steps
  all_goals (refine hret _ _ _ _ (by with_reducible assumption) (by first | exact cb_drop (by with_reducible assumption) (fun _ hp => List.Mem.tail _ (List.Mem.tail _ hp)) | exact cb_drop (by with_reducible assumption) (fun _ hp => List.Mem.tail _ hp)) ⟨rfl, _, _, rfl, ?_⟩)
  all_goals (first | with_reducible exact lawExpO_1 (by assumption) | with_reducible exact lawExpO_2 (by assumption))
end
example : True := by
  k_with "call ref" => (k_here; (first
  | ((with_reducible show wpAny _ _ (call (Value.ref 116) _) _ _ _); k_dflt (refine' Claim.str (edit_exp_ok _ _ _ _ _ _ _ ?hm ?g1 ?g2 ?g3 ?g4 _ _ _ _ ?h0 ?h1 ?h2 ?h3 ?h4 _ _ ?hz _ _ _ _) ?k1 ?k2 ?k3 ?k4 ?k5 ?kK ?kd ?ku ?_))
  | ((with_reducible show wpAny _ _ (call (Value.ref 207) _) _ _ _); k_dflt (refine' Claim.str (law_exp_ok _ _ _ _ _ _ _ ?hm ?g1 ?g2 ?g3 ?g4 _ _ _ _ ?h0 ?h1 ?h2 ?h3 ?h4 _ _ ?hz _ _ _) ?k1 ?k2 ?k3 ?k4 ?k5 ?kK ?kd ?ku ?_))); k_dflt ((case hz => assumption); (case k4 => k_asm); (case hm => first | assumption | exact List.Mem.tail _ (by assumption) | exact List.Mem.tail _ (List.Mem.tail _ (by assumption)) | k_mem); (case g1 => omega); (case g2 => omega); (case g3 => omega); (case g4 => omega); (case h0 => first | assumption | decide); (case h1 => omega); (case h2 => omega); (case h3 => omega); (case h4 => omega); (case k1 => k_asm); (case k2 => k_asm); (case k3 => k_asm); (case k5 => k_asm); (case kK => first | exact rfl | assumption); (case kd => ktr_room); (case ku => ktr_units); intro t9 h9 tk9 F9 N9; (try dsimp only); (try k_fold)))
  trivial
@[irreducible] noncomputable def fixTail (b width : Int) (t : Str) : Str := if width ≤ b then Txt.mul (Str.ofString "*") width else if (Txt.item t 0 == Str.ofString "*") = true then Txt.mul (Str.ofString "*") width else t ++ Txt.mul (Str.ofString " ") b
@[irreducible] noncomputable def editGenX (n p width places b : Int) (plus : Bool) (e : Str) : Str :=
  if n ≠ 0 ∧ 0 ≤ ((numS (n.natAbs : Nat)).length : Int) + p ∧ ((numS (n.natAbs : Nat)).length : Int) + p ≤ places then fixTail b width (fixedS n p (width - b) (places - (((numS (n.natAbs : Nat)).length : Int) + p)) plus) else e
@[irreducible] noncomputable def lawGenX (n p width places b : Int) (plus : Bool) (e : Str) : Str :=
  if places < ((spreadA (n.natAbs : Nat) p).length : Int) ∨ ((spreadA (n.natAbs : Nat) p == Str.ofString "") = true ∧ ([Str.ofString "", Str.ofString "0"].any fun x => x == Txt.slice (spreadB (n.natAbs : Nat) p) none (some 1)) = true) then e
  else fixTail b width (lawFixedS n p (width - b) (places - ((spreadA (n.natAbs : Nat) p).length : Int)) plus)
section
variable {n p width places b : Int} {plus : Bool} {e t : Str}
theorem fixTail_1 (h : width ≤ b) : Txt.mul (Str.ofString "*") width = fixTail b width t := by unfold fixTail; rw [if_pos h]
theorem fixTail_2 (h : ¬ width ≤ b) (g : (Txt.item t 0 == Str.ofString "*") = true) : Txt.mul (Str.ofString "*") width = fixTail b width t := by unfold fixTail; rw [if_neg h, if_pos g]
theorem fixTail_3 (h : ¬ width ≤ b) (g : (Txt.item t 0 == Str.ofString "*") = false) : t ++ Txt.mul (Str.ofString " ") b = fixTail b width t := by unfold fixTail; rw [if_neg h, if_neg (by rw [g]; decide)]
theorem fixTail_1' (h : ¬ b < width) : Txt.mul (Str.ofString "*") width = fixTail b width t := fixTail_1 (by omega)
theorem fixTail_2' (h : b < width) (g : (Txt.item t 0 == Str.ofString "*") = true) : Txt.mul (Str.ofString "*") width = fixTail b width t := fixTail_2 (by omega) g
theorem fixTail_3' (h : b < width) (g : (Txt.item t 0 == Str.ofString "*") = false) : t ++ Txt.mul (Str.ofString " ") b = fixTail b width t := fixTail_3 (by omega) g
theorem editGenX_no (h : ¬ (n ≠ 0 ∧ 0 ≤ ((numS (n.natAbs : Nat)).length : Int) + p ∧ ((numS (n.natAbs : Nat)).length : Int) + p ≤ places)) : e = editGenX n p width places b plus e := by
  unfold editGenX; rw [if_neg h]
theorem editGenX_yes (h1 : n ≠ 0) (h2 : 0 ≤ ((numS (n.natAbs : Nat)).length : Int) + p) (h3 : ((numS (n.natAbs : Nat)).length : Int) + p ≤ places) : fixTail b width (fixedS n p (width - b) (places - (((numS (n.natAbs : Nat)).length : Int) + p)) plus) = editGenX n p width places b plus e := by
  unfold editGenX; rw [if_pos ⟨h1, h2, h3⟩]
/-- G is told as E -/
def genC (n p places : Int) : Prop := places < ((spreadA (n.natAbs : Nat) p).length : Int) ∨ ((spreadA (n.natAbs : Nat) p == Str.ofString "") = true ∧ ([Str.ofString "", Str.ofString "0"].any fun x => x == Txt.slice (spreadB (n.natAbs : Nat) p) none (some 1)) = true)
theorem genC_1 (h : places < ((spreadA (n.natAbs : Nat) p).length : Int)) : genC n p places := Or.inl h
theorem genC_2 (h : (spreadA (n.natAbs : Nat) p == Str.ofString "") = true) (g : ([Str.ofString "", Str.ofString "0"].any fun x => x == Txt.slice (spreadB (n.natAbs : Nat) p) none (some 1)) = true) : genC n p places := Or.inr ⟨h, g⟩
theorem genC_3 (k : ¬ places < ((spreadA (n.natAbs : Nat) p).length : Int)) (g : ([Str.ofString "", Str.ofString "0"].any fun x => x == Txt.slice (spreadB (n.natAbs : Nat) p) none (some 1)) = false) : ¬ genC n p places :=
  fun h => h.elim k (fun h => by rw [g] at h; exact absurd h.2 (by decide))
theorem genC_4 (k : ¬ places < ((spreadA (n.natAbs : Nat) p).length : Int)) (g : (spreadA (n.natAbs : Nat) p == Str.ofString "") = false) : ¬ genC n p places :=
  fun h => h.elim k (fun h => by rw [g] at h; exact absurd h.1 (by decide))
theorem lawGenX_e (h : genC n p places) : e = lawGenX n p width places b plus e := by
  unfold lawGenX; exact (if_pos h).symm
theorem lawGenX_f (h : ¬ genC n p places) : fixTail b width (lawFixedS n p (width - b) (places - ((spreadA (n.natAbs : Nat) p).length : Int)) plus) = lawGenX n p width places b plus e := by
  unfold lawGenX; exact (if_neg h).symm
theorem genC_le (h : ¬ genC n p places) : ((spreadA (n.natAbs : Nat) p).length : Int) ≤ places := Int.not_lt.mp (fun g => h (Or.inl g))
theorem lawGenX_1 (h : places < ((spreadA (n.natAbs : Nat) p).length : Int)) : e = lawGenX n p width places b plus e := by
  unfold lawGenX; rw [if_pos (Or.inl h)]
theorem lawGenX_2 (h : (spreadA (n.natAbs : Nat) p == Str.ofString "") = true) (g : ([Str.ofString "", Str.ofString "0"].any fun x => x == Txt.slice (spreadB (n.natAbs : Nat) p) none (some 1)) = true) : e = lawGenX n p width places b plus e := by
  unfold lawGenX; rw [if_pos (Or.inr ⟨h, g⟩)]
theorem lawGenX_3 (k : ¬ places < ((spreadA (n.natAbs : Nat) p).length : Int)) (g : ([Str.ofString "", Str.ofString "0"].any fun x => x == Txt.slice (spreadB (n.natAbs : Nat) p) none (some 1)) = false) : fixTail b width (lawFixedS n p (width - b) (places - ((spreadA (n.natAbs : Nat) p).length : Int)) plus) = lawGenX n p width places b plus e := by
  unfold lawGenX; rw [if_neg (fun h => h.elim k (fun h => by rw [g] at h; exact absurd h.2 (by decide)))]
theorem lawGenX_4 (k : ¬ places < ((spreadA (n.natAbs : Nat) p).length : Int)) (g : (spreadA (n.natAbs : Nat) p == Str.ofString "") = false) : fixTail b width (lawFixedS n p (width - b) (places - ((spreadA (n.natAbs : Nat) p).length : Int)) plus) = lawGenX n p width places b plus e := by
  unfold lawGenX; rw [if_neg (fun h => h.elim k (fun h => by rw [g] at h; exact absurd h.1 (by decide)))]
end
/-- the blanks behind a number told by G as F -/
noncomputable def blkI : Option Int → Int
  | none => 4
  | some k => k + 2
theorem blk_lo {vz : Value} {z : Option Int} (hz : SzV vz z) : 3 ≤ blkI z := by
  rcases hz with ⟨_, e⟩ | ⟨n, _, _, e, h1, h2⟩
  · subst e; show (3 : Int) ≤ 4; decide
  · subst e; show (3 : Int) ≤ n + 2; omega
theorem blk_hi {vz : Value} {z : Option Int} (hz : SzV vz z) : blkI z ≤ 5 := by
  rcases hz with ⟨_, e⟩ | ⟨n, _, _, e, h1, h2⟩
  · subst e; show (4 : Int) ≤ 5; decide
  · subst e; show n + 2 ≤ 5; omega
section
variable (w : World) (news : List (Addr × Obj)) (v : Addr) (n p : Int) (u1 u2 : Tok) (hm : (v, tupO [.int n u1, .int p u2]) ∈ news) (hn1 : - 10 ^ 9 < n) (hn2 : n < 10 ^ 9) (hp1 : -14 ≤ p) (hp2 : p ≤ 10) (width places : Int) (plus : Bool) (h1 : 0 ≤ width) (h2 : width ≤ 30) (h3 : 1 ≤ places) (h4 : places ≤ 12) (vz : Value) (z : Option Int) (hz : SzV vz z)
include hm hn1 hn2 hp1 hp2 h1 h2 h3 h4 hz
theorem edit_general_ok (t1 t2 t3 : Tok) : Claim w 130 4 news [.ref v, .int width t1, .int places t2, vz, .int 0 t3, .bool plus] fun r nw => nw = news ∧ ∃ t x, r = .str x t ∧ x = editGenX n p width places (blkI z) plus (editExpO (Str.ofString "E") n p width places z plus) := by
  unfold Claim
  k_fill
  intros
  rename_i hret
  refine wpAny_call ?_
  k_dflt ktr_enter
  k_with "exec If" => (k_here; (fail_if_success (with_reducible rename Met 41 => m9)); (try dsimp only); (with_reducible show wpAny _ _ (exec (Stmt.If (Expr.Compare (Expr.Name (Str.ofString "size") _) _ _ _) _ _ _) _) _ _ _); k_dflt (refine' meet_set ?F ?N 41 (x := Str.ofString "blanks") (v := Value.int (blkI z)) ?w ?_; (case F => k_asm); (case N => k_asm); (case w => (intro Q9 m9 q9; rcases hz with ⟨e, e'⟩ | ⟨n, t, e, e', g1, g2⟩; (focus (subst e e'; k_steps; exact q9 _ _ _ (Fr.again (by with_reducible assumption) rfl) (by with_reducible assumption))); (focus (subst e e'; k_steps; exact q9 _ _ _ (Fr.as (v := Value.int (n + 2) _) (by with_reducible assumption) rfl) (by with_reducible assumption))))); intro t9 h9 tk9 F9 N9; have l9 := blk_lo hz; have l8 := blk_hi hz; (try dsimp only); (try k_fold)))
  k_steps
  all_goals (refine hret _ _ _ _ (by with_reducible assumption) (by with_reducible assumption) ⟨rfl, _, _, rfl, ?_⟩)
  all_goals (first
    | with_reducible exact editGenX_no (by assumption)
    | with_reducible exact Eq.trans (fixTail_1 (by assumption)) (editGenX_yes (by assumption) (by assumption) (by assumption))
    | with_reducible exact Eq.trans (fixTail_2 (by assumption) (by assumption)) (editGenX_yes (by assumption) (by assumption) (by assumption))
    | with_reducible exact Eq.trans (fixTail_3 (by assumption) (by assumption)) (editGenX_yes (by assumption) (by assumption) (by assumption)))
theorem law_general_ok (t1 t2 : Tok) : Claim w 214 4 news [.ref v, .int width t1, .int places t2, vz, .bool plus] fun r nw => nw = news ∧ ∃ t x, r = .str x t ∧ x = lawGenX n p width places (blkI z) plus (lawExpO (Str.ofString "E") n p width places z plus) := by
  unfold Claim
  k_fill
  intros
  rename_i hret
  refine wpAny_call ?_
  k_dflt ktr_enter
  k_with "isTrue BoolOp" => (k_here; (fail_if_success (with_reducible rename Met 42 => m9)); (with_reducible show wpAny _ _ (isTrue (Expr.BoolOp _ [Expr.Compare (Expr.Call _ _ _ _) _ _ _, Expr.BoolOp _ _ _] _) _ _) _ _ _); k_dflt (refine' meet_test ?F ?N 42 (C := genC n p places) ?w ?_ ?_; (case F => k_asm); (case N => k_asm); (case w => (intro Q9 m9 qt qf; k_steps; (all_goals (first
    | exact qt _ _ (by with_reducible assumption) (by first | with_reducible assumption | exact cb_drop (by with_reducible assumption) (fun _ hp => List.Mem.tail _ hp)) (by first | with_reducible exact genC_1 (by assumption) | with_reducible exact genC_2 (by assumption) (by assumption))
    | exact qf _ _ (by with_reducible assumption) (by first | with_reducible assumption | exact cb_drop (by with_reducible assumption) (fun _ hp => List.Mem.tail _ hp)) (by first | with_reducible exact genC_3 (by assumption) (by assumption) | with_reducible exact genC_4 (by assumption) (by assumption)))))); intro h9 tk9 F9 N9 g9; (try dsimp only); (try k_fold); rotate_left; intro h9 tk9 F9 N9 g9; have l9 := genC_le g9; (try dsimp only); (try k_fold); rotate_left))
  k_with "eval IfExp" => (k_here; (fail_if_success (with_reducible rename Met 43 => m9)); (with_reducible show wpAny _ _ (eval (Expr.IfExp (Expr.Compare (Expr.Name (Str.ofString "size") _) _ _ _) _ _ _) _) _ _ _); k_dflt (refine' meet_val ?F ?N 43 (v := Value.int (blkI z)) ?w ?_; (case F => k_asm); (case N => k_asm); (case w => (intro Q9 m9 q9; rcases hz with ⟨e, e'⟩ | ⟨n, t, e, e', g1, g2⟩; (focus (subst e e'; k_steps; exact q9 _ _ _ (by with_reducible assumption) (by with_reducible assumption))); (focus (subst e e'; k_steps; exact q9 _ _ _ (by with_reducible assumption) (by with_reducible assumption))))); intro t9 h9 tk9 F9 N9; have l9 := blk_lo hz; have l8 := blk_hi hz; (try dsimp only); (try k_fold)))
  k_steps
  all_goals (refine hret _ _ _ _ (by with_reducible assumption) (by first | exact cb_drop (by with_reducible assumption) (fun _ hp => List.Mem.tail _ (List.Mem.tail _ hp)) | exact cb_drop (by with_reducible assumption) (fun _ hp => List.Mem.tail _ hp)) ⟨rfl, _, _, rfl, ?_⟩)
  all_goals (first
    | with_reducible exact lawGenX_e (by assumption)
    | with_reducible exact Eq.trans (fixTail_1' (by assumption)) (lawGenX_f (by assumption))
    | with_reducible exact Eq.trans (fixTail_2' (by assumption) (by assumption)) (lawGenX_f (by assumption))
    | with_reducible exact Eq.trans (fixTail_3' (by assumption) (by assumption)) (lawGenX_f (by assumption)))
end
section
variable {prog : Program} {w : World} {A : Around} {E : Value → Shared → Prop} {s : Shared} {h₀ : Heap} {L P S : Addr} {m : Str → Option Value} {pre post : List (Addr × Obj)} {n k : Nat} {at' x : Int} {t t1 u : Tok} {vs : List Value}
theorem pen_mem {o : Obj} : (P, o) ∈ pre ++ (P, o) :: post := List.mem_append.mpr (.inr (.head _))
theorem pen_set {Q : Unit → Shared → Prop} (hS : ∀ o', (S, listOf vs.toArray k) ∈ pre ++ (P, o') :: post) (a : ∀ p ∈ pre, p.1 ≠ P) (b : ∀ p ∈ post, p.1 ≠ P) (F : Fr h₀ L s.heap m) (N : News h₀ L s.heap (pre ++ (P, listOf #[Value.ref S, Value.int at' t1] n) :: post))
    (h : ∀ h', Fr h₀ L h' m → News h₀ L h' (pre ++ (P, listOf #[Value.ref S, Value.int x u] n) :: post) → (P, listOf #[Value.ref S, Value.int x u] n) ∈ pre ++ (P, listOf #[Value.ref S, Value.int x u] n) :: post → (S, listOf vs.toArray k) ∈ pre ++ (P, listOf #[Value.ref S, Value.int x u] n) :: post → Q () { s with heap := h' }) :
    wpAny (model prog w) A (setItem (.ref P) (.int 1 t) (.int x u)) Q E s :=
  have z := N (P, listOf #[Value.ref S, Value.int at' t1] n) pen_mem
  ki_setAt z.1 (by decide) (by decide) (by show (1 : Int) < 2; decide) (h _ (F.change (Heap.SameBut.update ..) z.2.1 z.2.2) (ki_turn _ N a b rfl rfl) pen_mem (hS _))
theorem pen_read {Q : Value → Shared → Prop} {value slice : PySem.Expr} {j : Int} {v : Value} {news : List (Addr × Obj)} (N : News h₀ L s.heap news) (hm : (P, listOf #[Value.ref S, Value.int at' t1] n) ∈ news) (h0 : 0 ≤ j) (h1 : j < 2 ^ 63) (hx : [Value.ref S, Value.int at' t1][j.toNat]? = some v) (h : Q v s)
    (hs : subscripted slice false (.ref P) (.int j u) = operate [.ref P, .int j u] (getItem (.ref P) (.int j u)) := by with_unfolding_all rfl) :
    wpAny (model prog w) A (subscriptTail value slice (.ref P) (.int j u)) Q E s :=
  item_litK (PySem.IsL.isList (n := n) (N _ hm).1) h0 h1 hx h hs
theorem pen_len {Q : Value → Shared → Prop} {news : List (Addr × Obj)} {ns : List Int} (N : News h₀ L s.heap news) (hm : (S, listOf vs.toArray k) ∈ news) (hi : IntsAre vs ns) (hl : ns.length ≤ 24) (h : Q (.int (ns.length : Nat) (s.toks + 1)) { s with toks := s.toks + 1 + 1 }) :
    wpAny (model prog w) A (call (.builtin "len") [.ref S]) Q E s := by
  have e : vs.toArray.size = ns.length := by rw [List.size_toArray]; exact hi.length
  refine Calls.call_len_list (PySem.IsL.isList (n := k) (N _ hm).1) (by omega) ?_
  rw [e]
  exact h
end
section
local macro_rules | `(tactic| walk_at "call builtin:len") => `(tactic| (k_here; (with_reducible show wpAny _ _ (call (Value.builtin "len") [Value.ref _]) _ _ _); (refine pen_len (by k_asm) (by assumption) (by assumption) (by assumption) ?_)))
local macro_rules | `(tactic| walk_at "subscriptTail") => `(tactic| (k_here; (with_reducible show wpAny _ _ (subscriptTail _ _ (Value.ref _) (Value.int _ _)) _ _ _); (with_unfolding_all refine' ksa_sub ?k1 ?k2 ?k3 ?k4 ?k5 ?k6 ?_ ?k7; (case k1 => k_asm); (case k2 => assumption); (case k3 => assumption); (case k4 => omega); (case k5 => omega); (case k6 => omega); (case k7 => with_unfolding_all rfl); k_whole); intro _))
local macro_rules | `(tactic| walk_at "subscriptTail") => `(tactic| (k_here; (with_reducible show wpAny _ _ (subscriptTail _ _ (Value.ref _) (Value.int _ _)) _ _ _); (with_unfolding_all refine' pen_read ?k1 ?k2 ?k3 ?k4 ?k5 ?_ ?k6; (case k1 => k_asm); (case k2 => assumption); (case k3 => decide); (case k4 => decide); (case k5 => rfl); (case k6 => with_unfolding_all rfl); k_whole)))
local macro_rules | `(tactic| walk_at "setItem ref int") => `(tactic| (k_here; (with_reducible show wpAny _ _ (setItem (Value.ref _) (Value.int 1 _) (Value.int _ _)) _ _ _); (refine pen_set (by assumption) (by assumption) (by assumption) (by k_asm) (by k_asm) ?_); intro h' F' N' m1' m2'))
theorem draw_ok (w : World) (news : List (Addr × Obj)) (g : Obj → List (Addr × Obj)) (P S : Addr) (at' many : Int) (n k : Nat) (vs : List Value) (ns : List Int) (t1 t2 : Tok) (hU : UpdF P (listOf #[Value.ref S, Value.int at' t1] n) news g) (hS : ∀ o', (S, listOf vs.toArray k) ∈ g o') (hi : IntsAre vs ns) (h1 : 0 ≤ at') (h2 : at' ≤ 30) (h3 : 1 ≤ many) (h4 : many ≤ 10 ^ 11) (h5 : ns.length ≤ 24) :
    Claim w 137 1 news [.ref P, .int many t2] fun r nw => (∃ t, nw = g (listOf #[Value.ref S, Value.int (at' + 1) t] n)) ∧ ∃ t x, r = .int x t ∧ 0 ≤ x ∧ x < many := by
  obtain ⟨pre, post, rfl, hg, ha, hb⟩ := hU.split
  simp only [hg] at *
  have hP : (P, listOf #[Value.ref S, Value.int at' t1] n) ∈ pre ++ (P, listOf #[Value.ref S, Value.int at' t1] n) :: post := pen_mem
  unfold Claim
  k_fill
  intros
  rename_i hret
  refine wpAny_call ?_
  k_dflt ktr_enter
  k_steps
  all_goals (refine hret _ _ _ _ (by assumption) (by assumption) ⟨⟨_, rfl⟩, _, _, rfl, Int.fmod_nonneg_of_pos _ (by omega), Int.fmod_lt_of_pos _ (by omega)⟩)
end
theorem pow9 : (10 : Int) ^ Int.toNat 9 = 1000000000 := by decide
theorem pow10 : 2 * (10 : Int) ^ Int.toNat 10 = 20000000000 := by decide
theorem pow9_lo : (1 : Int) ≤ 10 ^ Int.toNat 9 := by rw [pow9]; decide
theorem pow9_hi : (10 : Int) ^ Int.toNat 9 ≤ 10 ^ 11 := by rw [pow9]; decide
theorem pow10_lo : (1 : Int) ≤ 2 * 10 ^ Int.toNat 10 := by rw [pow10]; decide
theorem pow10_hi : 2 * (10 : Int) ^ Int.toNat 10 ≤ 10 ^ 11 := by rw [pow10]; decide
theorem UpdF.again {d : Addr} {o o₁ : Obj} {l : List (Addr × Obj)} {g : Obj → List (Addr × Obj)} (h : UpdF d o l g) : UpdF d o₁ (g o₁) g := by
  induction h with
  | head a => exact .head a
  | tail a _ ih => exact .tail a ih
example : True := by
  k_with "call ref" => (k_here; (with_reducible show wpAny _ _ (call (Value.ref 137) _) _ _ _); k_dflt (refine' Claim.draw (draw_ok _ _ _ _ _ _ _ _ _ _ _ _ _ ?hU ?hS ?hi ?h1 ?h2 ?h3 ?h4 ?h5) ?k1 ?k2 ?k3 ?k4 ?k5 ?kK ?kd ?ku ?_; (case k4 => k_asm); (case hU => first | assumption | exact UpdF.again (by assumption) | k_updF); (case hS => first | assumption | (intro o'; k_mem)); (case hi => assumption); (case h1 => omega); (case h2 => omega); (case h3 => first | omega | exact pow9_lo | exact pow10_lo); (case h4 => first | omega | exact pow9_hi | exact pow10_hi); (case h5 => first | assumption | exact List.length_take_le _ _); (case k1 => k_asm); (case k2 => k_asm); (case k3 => k_asm); (case k5 => k_asm); (case kK => first | exact rfl | assumption); (case kd => ktr_room); (case ku => ktr_units); intro t8 t9 x9 h9 tk9 F9 N9 l9 l8; (try simp only [pow9, pow10] at l8); (try dsimp only); (try k_fold); (try dsimp only at N9)))
  trivial
theorem real_bound {x k : Int} (h0 : 0 ≤ x) (h1 : x < 1000000000) : 0 ≤ x.fmod (10 ^ k.toNat) ∧ x.fmod (10 ^ k.toNat) < 10 ^ 9 := by
  have hp := ten_pow_pos k.toNat
  have e := Int.fmod_eq_emod_of_nonneg x (Int.le_of_lt hp)
  have a := Int.emod_nonneg x (Int.ne_of_gt hp)
  have c := Int.mul_nonneg (Int.le_of_lt hp) (Int.ediv_nonneg h0 (Int.le_of_lt hp))
  have d := Int.emod_add_mul_ediv x (10 ^ k.toNat)
  rw [e]
  omega
section
variable {x k : Int} (h0 : 0 ≤ x) (h1 : x < 1000000000)
include h0 h1
theorem rb1 : - 10 ^ 9 < x.fmod (10 ^ k.toNat) := by have := real_bound (k := k) h0 h1; omega
theorem rb2 : x.fmod (10 ^ k.toNat) < 10 ^ 9 := (real_bound h0 h1).2
theorem rb3 : - 10 ^ 9 < - x.fmod (10 ^ k.toNat) := by have := real_bound (k := k) h0 h1; omega
theorem rb4 : - x.fmod (10 ^ k.toNat) < 10 ^ 9 := by have := real_bound (k := k) h0 h1; omega
end
theorem real_ok (w : World) (news : List (Addr × Obj)) (g : Obj → List (Addr × Obj)) (P S : Addr) (at' : Int) (n₀ k : Nat) (vs : List Value) (ns : List Int) (t1 : Tok) (hU : UpdF P (listOf #[Value.ref S, Value.int at' t1] n₀) news g) (hS : ∀ o', (S, listOf vs.toArray k) ∈ g o') (hi : IntsAre vs ns) (h1 : 0 ≤ at') (h2 : at' ≤ 20) (h5 : ns.length ≤ 24) :
    Claim w 144 2 news [.ref P] fun r nw => ∃ (x : Addr) (n p : Int) (u1 u2 t : Tok), r = .ref x ∧ nw = (x, tupO [.int n u1, .int p u2]) :: g (listOf #[Value.ref S, Value.int (at' + 1 + 1 + 1 + 1) t] n₀) ∧ (∀ q ∈ g (listOf #[Value.ref S, Value.int (at' + 1 + 1 + 1 + 1) t] n₀), q.1 < x) ∧ - 10 ^ 9 < n ∧ n < 10 ^ 9 ∧ -14 ≤ p ∧ p ≤ 10 := by
  unfold Claim
  k_fill
  intros
  rename_i hret
  refine wpAny_call ?_
  k_dflt ktr_enter
  k_steps
  all_goals (refine hret _ _ _ _ (by assumption) (by assumption) ⟨_, _, _, _, _, _, rfl, rfl, by assumption, ?_, ?_, by omega, by omega⟩)
  all_goals (first | with_reducible exact rb1 (by assumption) (by assumption) | with_reducible exact rb2 (by assumption) (by assumption) | with_reducible exact rb3 (by assumption) (by assumption) | with_reducible exact rb4 (by assumption) (by assumption))
/-! the plain law: rows of digits -/
theorem foldl_val : ∀ (b : List Nat) (a : Nat), b.foldl (fun acc c => acc * 10 + (c - 48)) a = a * 10 ^ b.length + NumText.digitsVal b
  | [], a => by
    show a = a * 10 ^ 0 + 0
    rw [Nat.pow_zero, Nat.mul_one, Nat.add_zero]
  | c :: r, a => by
    have h1 := foldl_val r (a * 10 + (c - 48))
    have h2 := foldl_val r (0 * 10 + (c - 48))
    have e : NumText.digitsVal (c :: r) = r.foldl (fun acc c => acc * 10 + (c - 48)) (0 * 10 + (c - 48)) := rfl
    rw [List.foldl_cons, h1, e, h2, List.length_cons, Nat.pow_succ, Nat.zero_mul, Nat.zero_add, Nat.add_mul, Nat.mul_assoc a, Nat.mul_comm 10, Nat.add_assoc]
theorem dv_app (a b : List Nat) : NumText.digitsVal (a ++ b) = NumText.digitsVal a * 10 ^ b.length + NumText.digitsVal b := by
  unfold NumText.digitsVal
  rw [List.foldl_append, foldl_val]
  rfl
theorem dv_cons (c : Nat) (r : List Nat) : NumText.digitsVal (c :: r) = (c - 48) * 10 ^ r.length + NumText.digitsVal r := by
  have h := dv_app [c] r
  have e : NumText.digitsVal [c] = c - 48 := by show 0 * 10 + (c - 48) = c - 48; omega
  rw [e] at h
  exact h
theorem dv_lt {l : List Nat} (h : NumText.AllDigits l) : NumText.digitsVal l < 10 ^ l.length := by
  have := digitsVal_lt l 0 h
  rwa [Nat.zero_add, Nat.one_mul] at this
theorem split_unique {a b a' b' m : Nat} (h : a * m + b = a' * m + b') (hb : b < m) (hb' : b' < m) : a = a' ∧ b = b' := by
  have hm : 0 < m := Nat.lt_of_le_of_lt (Nat.zero_le _) hb
  have h1 : (a * m + b) / m = a := by rw [Nat.mul_comm, Nat.mul_add_div hm, Nat.div_eq_of_lt hb, Nat.add_zero]
  have h2 : (a' * m + b') / m = a' := by rw [Nat.mul_comm, Nat.mul_add_div hm, Nat.div_eq_of_lt hb', Nat.add_zero]
  have e : a = a' := by rw [← h1, ← h2, h]
  subst e
  exact ⟨rfl, by omega⟩
theorem dv_inj : ∀ (a b : List Nat), NumText.AllDigits a → NumText.AllDigits b → a.length = b.length → NumText.digitsVal a = NumText.digitsVal b → a = b
  | [], [], _, _, _, _ => rfl
  | [], _ :: _, _, _, h, _ => by simp at h
  | _ :: _, [], _, _, h, _ => by simp at h
  | c :: r, d :: s, ha, hb, hl, hv => by
    have hl' : r.length = s.length := by simpa using hl
    rw [dv_cons, dv_cons, hl'] at hv
    have h1 := dv_lt ha.tail
    rw [hl'] at h1
    have h2 := dv_lt hb.tail
    obtain ⟨e1, e2⟩ := split_unique hv h1 h2
    have hc := ha.head
    have hd := hb.head
    have e : c = d := by omega
    rw [e, dv_inj r s ha.tail hb.tail hl' e2]
theorem dv_zeros (n : Nat) : NumText.digitsVal (List.replicate n 48) = 0 := by
  induction n with
  | zero => rfl
  | succ n ih => rw [List.replicate_succ, NumText.digitsVal_zero, ih]
/-- the same on texts -/
theorem valS_eq (x : Str) : valS x = ((NumText.digitsVal x.cps.toList : Nat) : Int) := by unfold valS; rfl
theorem val_app (x y : Str) : valS (x ++ y) = valS x * 10 ^ y.length + valS y := by
  rw [valS_eq, valS_eq, valS_eq, L_app, dv_app, L_len]
  push_cast
  rfl
theorem val_e : valS (Str.ofString "") = 0 := by rw [valS_eq, L_e]; rfl
theorem val_zeros (n : Int) : valS (Txt.mul (Str.ofString "0") n) = 0 := by rw [valS_eq, L_zeros, dv_zeros]; rfl
theorem val_num {n : Int} (h : 0 ≤ n) : valS (numS n) = n := by
  rw [valS_eq, L_num h, KIN.val_back]
  omega
theorem numS_ge {n : Int} {k : Nat} (h : (10 : Int) ^ k ≤ n) : k + 1 ≤ (numS n).length := by
  have h0 : 0 ≤ n := Int.le_trans (Int.le_of_lt (ten_pow_pos k)) h
  rw [← L_len, L_num h0, List.length_map]
  refine digits10_ge ?_
  have : ((10 ^ k : Nat) : Int) ≤ n := by exact_mod_cast h
  omega
theorem dig_eq {x y : Str} (hx : Dig x) (hy : Dig y) (hl : x.length = y.length) (hv : valS x = valS y) : x = y := by
  refine eq_of_L (dv_inj _ _ (Dig_iff.mp hx) (Dig_iff.mp hy) ?_ ?_)
  · rw [L_len, L_len, hl]
  · rw [valS_eq, valS_eq] at hv
    exact_mod_cast hv
theorem val_bound {x : Str} (hx : Dig x) : valS x < 10 ^ x.length := valS_lt hx (Nat.le_refl _)
theorem str_split (x : Str) {j : Int} (h : 0 ≤ j) : x = Txt.slice x none (some j) ++ Txt.slice x (some j) none := by
  refine eq_of_L ?_
  rw [L_app, L_to x h, L_from x h, List.take_append_drop]
/-- x says v in at least c places, without a nought ahead of the c -/
def Rep (x : Str) (v c : Int) : Prop := Dig x ∧ valS x = v ∧ c ≤ (x.length : Int) ∧ (c < (x.length : Int) → (10 : Int) ^ (x.length - 1) ≤ v)
theorem rep_lt {x y : Str} {v c : Int} (hx : Rep x v c) (hy : Rep y v c) : ¬ x.length < y.length := by
  intro h
  obtain ⟨dx, vx, cx, ux⟩ := hx
  obtain ⟨dy, vy, cy, uy⟩ := hy
  have h1 := uy (by omega)
  have h2 := val_bound dx
  have h3 : (10 : Int) ^ x.length ≤ 10 ^ (y.length - 1) := ten_pow_le (by omega)
  omega
theorem rep_unique {x y : Str} {v c : Int} (hx : Rep x v c) (hy : Rep y v c) : x = y := by
  have h1 := rep_lt hx hy
  have h2 := rep_lt hy hx
  exact dig_eq hx.1 hy.1 (by omega) (hx.2.1.trans hy.2.1.symm)
theorem num_lead {n : Int} (h : 0 ≤ n) (h1 : 0 < n ∨ 1 < (numS n).length) : (10 : Int) ^ ((numS n).length - 1) ≤ n := by
  have hp := numS_pos h
  by_cases h2 : (numS n).length = 1
  · rw [h2]
    show (10 : Int) ^ 0 ≤ n
    rw [Int.pow_zero]
    omega
  · by_cases h3 : n < 10 ^ ((numS n).length - 1)
    · have := numS_len h (by omega) h3
      omega
    · omega
theorem rep_pad {v c : Int} (h : 0 ≤ v) (h1 : 0 < v ∨ 0 < c) : Rep (Txt.mul (Str.ofString "0") (c - (numS v).length) ++ numS v) v c := by
  have hl : (Txt.mul (Str.ofString "0") (c - (numS v).length) ++ numS v).length = (c - (numS v).length).toNat + (numS v).length := by rw [strLen_append, zeros_len]
  refine ⟨Dig_app (Dig_zeros _) (Dig_num h), ?_, by omega, fun hc => ?_⟩
  · rw [val_app, val_zeros, val_num h]
    omega
  · have hp := numS_pos h
    have e : (Txt.mul (Str.ofString "0") (c - (numS v).length) ++ numS v).length = (numS v).length := by omega
    rw [e]
    exact num_lead h (by omega)
theorem rep_digS {N places : Int} (h : 0 ≤ N) (h1 : 0 ≤ places) : Rep (digS N places) N places := by
  by_cases h0 : N = 0
  · rw [digS_0 h0, len_e]
    have hl : (Txt.mul (Str.ofString "0") (places - ((0 : Nat) : Int)) ++ Str.ofString "").length = places.toNat := by
      rw [strLen_append, zeros_len, len_e]
      omega
    refine ⟨Dig_app (Dig_zeros _) Dig_e, ?_, by omega, fun hc => absurd hc (by omega)⟩
    rw [val_app, val_zeros, val_e, h0]
    omega
  · rw [digS_n h0]
    exact rep_pad h (Or.inl (by omega))
theorem round_to {V U q r : Int} (hU : 0 < U) (h : V = q * U + r) (h0 : 0 ≤ r) (h1 : 2 * r < U) : (2 * V + U).fdiv (2 * U) = q := by
  rw [Int.fdiv_eq_ediv_of_nonneg _ (by omega)]
  refine ((Int.ediv_emod_unique (r := 2 * r + U) (by omega)).mpr ⟨?_, by omega, by omega⟩).1
  rw [h, Int.mul_assoc 2 U q, Int.mul_comm U q]
  omega
theorem round_up {V U q r : Int} (hU : 0 < U) (h : V = q * U + r) (h0 : U ≤ 2 * r) (h1 : r < U) : (2 * V + U).fdiv (2 * U) = q + 1 := by
  rw [Int.fdiv_eq_ediv_of_nonneg _ (by omega)]
  refine ((Int.ediv_emod_unique (r := 2 * r - U) (by omega)).mpr ⟨?_, by omega, by omega⟩).1
  rw [h, Int.mul_assoc 2 U (q + 1), Int.mul_add, Int.mul_comm U q]
  omega
theorem drop_one (x : Str) {c : Nat} (h : c < x.length) : x.cps.toList.drop c = x.cps.getD c 0 :: x.cps.toList.drop (c + 1) := by
  have hl : c < x.cps.toList.length := by rw [L_len]; exact h
  rw [List.drop_eq_getElem_cons hl, ← getD_list, List.getD_eq_getElem?_getD, List.getElem?_eq_getElem hl, Option.getD_some]
theorem lt_five {x : Str} {c : Int} (h0 : 0 ≤ c) (h1 : c < x.length) : ((Txt.item x c).cps.toList < (Str.ofString "5").cps.toList) ↔ x.cps.getD c.toNat 0 < 53 := by
  rw [item_at h0 h1 rfl, L_5]
  show [x.cps.getD c.toNat 0] < [53] ↔ _
  rw [List.cons_lt_cons_iff]
  constructor
  · rintro (h | ⟨_, h⟩)
    · exact h
    · exact absurd h (List.not_lt_nil _)
  · exact fun h => Or.inl h
/-- the c-th sign parts a row of digits -/
theorem cut_parts {x : Str} (hx : Dig x) {c : Int} (h0 : 0 ≤ c) (h1 : c < x.length) : ∃ e f : Int, valS x = valS (Txt.slice x none (some c)) * 10 ^ (x.length - c.toNat) + (e * 10 ^ (x.length - c.toNat - 1) + f) ∧ 0 ≤ f ∧ f < 10 ^ (x.length - c.toNat - 1) ∧ 0 ≤ e ∧ e ≤ 9 ∧ (((Txt.item x c).cps.toList < (Str.ofString "5").cps.toList) ↔ e < 5) := by
  have hc : c.toNat < x.length := by omega
  have hd := drop_one x hc
  have hs := str_split x h0
  have hL := L_from x h0
  have hv := val_app (Txt.slice x none (some c)) (Txt.slice x (some c) none)
  rw [← hs] at hv
  have hlen : (Txt.slice x (some c) none).length = x.length - c.toNat := by
    rw [← L_len, hL, List.length_drop, L_len]
  rw [hlen, valS_eq (Txt.slice x (some c) none), hL, hd, dv_cons, List.length_drop, L_len] at hv
  have ht : NumText.AllDigits (x.cps.toList.drop (c.toNat + 1)) := fun d hd' => Dig_iff.mp hx d (List.mem_of_mem_drop hd')
  have hb := dv_lt ht
  rw [List.length_drop, L_len] at hb
  have h9 : 48 ≤ x.cps.getD c.toNat 0 ∧ x.cps.getD c.toNat 0 ≤ 57 := by
    refine Dig_iff.mp hx _ (List.mem_of_mem_drop (i := c.toNat) ?_)
    rw [hd]
    exact List.mem_cons_self ..
  have el : x.length - (c.toNat + 1) = x.length - c.toNat - 1 := by omega
  rw [el] at hv hb
  refine ⟨((x.cps.getD c.toNat 0 - 48 : Nat) : Int), ((NumText.digitsVal (x.cps.toList.drop (c.toNat + 1)) : Nat) : Int), ?_, by omega, by exact_mod_cast hb, by omega, by omega, ?_⟩
  · rw [hv]
    push_cast
    rfl
  · rw [lt_five h0 h1]
    omega
theorem len_to {x : Str} {c : Int} (h0 : 0 ≤ c) (h1 : c ≤ x.length) : ((Txt.slice x none (some c)).length : Int) = c := (fact_slice_ns x c).1 h0 h1
/-- the law's rounding of a row of digits is the code's -/
theorem rep_cut {d : Str} (hd : Dig d) {c : Int} (h0 : 0 ≤ c) : Rep (cutS d c) (scaledI (valS d) (c - d.length)) c := by
  have hD : Dig (d ++ Txt.mul (Str.ofString "0") (c + 1 - d.length)) := Dig_app hd (Dig_zeros _)
  have hl : (d ++ Txt.mul (Str.ofString "0") (c + 1 - d.length)).length = d.length + (c + 1 - d.length).toNat := by rw [strLen_append, zeros_len]
  have hv : valS (d ++ Txt.mul (Str.ofString "0") (c + 1 - d.length)) = valS d * 10 ^ (c + 1 - d.length).toNat := by rw [val_app, val_zeros, zeros_len]; omega
  obtain ⟨e, f, h1, h2, h3, h4, h5, h6⟩ := cut_parts hD h0 (by omega)
  have hk := len_to (x := d ++ Txt.mul (Str.ofString "0") (c + 1 - d.length)) h0 (by omega)
  have hdk : Dig (Txt.slice (d ++ Txt.mul (Str.ofString "0") (c + 1 - d.length)) none (some c)) := Dig_to hD h0
  have hk0 := valS_nonneg (Txt.slice (d ++ Txt.mul (Str.ofString "0") (c + 1 - d.length)) none (some c))
  -- the rounding, as numbers
  have key : scaledI (valS d) (c - d.length) = valS (Txt.slice (d ++ Txt.mul (Str.ofString "0") (c + 1 - d.length)) none (some c)) + (if e < 5 then 0 else 1) := by
    rw [hv] at h1
    generalize valS (Txt.slice (d ++ Txt.mul (Str.ofString "0") (c + 1 - d.length)) none (some c)) = kv at *
    unfold scaledI
    split
    · rename_i hp
      have e1 : (d ++ Txt.mul (Str.ofString "0") (c + 1 - d.length)).length - c.toNat = 1 := by omega
      have e2 : (c + 1 - (d.length : Int)).toNat = (c - (d.length : Int)).toNat + 1 := by omega
      rw [e1] at h1 h3
      rw [e2, Int.pow_succ] at h1
      have e3 : (10 : Int) ^ (1 - 1) = 1 := by decide
      have e4 : (10 : Int) ^ 1 = 10 := by decide
      rw [e3] at h1 h3
      rw [e4, ← Int.mul_assoc] at h1
      generalize valS d * 10 ^ (c - (d.length : Int)).toNat = X at *
      rw [if_pos (by omega)]
      omega
    · rename_i hp
      have e1 : (d ++ Txt.mul (Str.ofString "0") (c + 1 - d.length)).length - c.toNat = (-(c - (d.length : Int))).toNat := by omega
      have e2 : (c + 1 - (d.length : Int)).toNat = 0 := by omega
      rw [e2, Int.pow_zero, Int.mul_one] at h1
      rw [e1] at h1 h3
      have e5 : (-(c - (d.length : Int))).toNat = (-(c - (d.length : Int))).toNat - 1 + 1 := by omega
      have hW := ten_pow_pos ((-(c - (d.length : Int))).toNat - 1)
      have hU : (10 : Int) ^ (-(c - (d.length : Int))).toNat = 10 ^ ((-(c - (d.length : Int))).toNat - 1) * 10 := (congrArg (fun k => (10 : Int) ^ k) e5).trans (Int.pow_succ _ _)
      generalize (10 : Int) ^ ((-(c - (d.length : Int))).toNat - 1) = W at *
      rw [hU] at h1 ⊢
      split
      · rename_i he
        have q : e * W ≤ 4 * W := Int.mul_le_mul_of_nonneg_right (by omega) (by omega)
        have q0 : 0 ≤ e * W := Int.mul_nonneg h4 (by omega)
        rw [Int.add_zero]
        exact round_to (by omega) h1 (by omega) (by omega)
      · rename_i he
        have q : 5 * W ≤ e * W := Int.mul_le_mul_of_nonneg_right (by omega) (by omega)
        have q0 : e * W ≤ 9 * W := Int.mul_le_mul_of_nonneg_right (by omega) (by omega)
        exact round_up (by omega) h1 (by omega) (by omega)
  by_cases g : (Txt.item (d ++ Txt.mul (Str.ofString "0") (c + 1 - d.length)) c).cps.toList < (Str.ofString "5").cps.toList
  · rw [key, if_pos (h6.mp g), ← cutS_1 g, Int.add_zero]
    exact ⟨hdk, rfl, by omega, fun h => absurd h (by omega)⟩
  · rw [key, if_neg (fun h => g (h6.mpr h)), ← cutS_2 g]
    exact rep_pad (by omega) (Or.inl (by omega))
theorem scaledI_ge {m p : Int} {a b : Nat} (h : (10 : Int) ^ a ≤ m) (hb : (b : Int) = a + p) : (10 : Int) ^ b ≤ scaledI m p := by
  unfold scaledI
  split
  · have e : b = a + p.toNat := by omega
    rw [e, Int.pow_add]
    exact Int.mul_le_mul_of_nonneg_right h (Int.le_of_lt (ten_pow_pos _))
  · have e : a = b + (-p).toNat := by omega
    have hU := ten_pow_pos (-p).toNat
    rw [e, Int.pow_add] at h
    rw [Int.fdiv_eq_ediv_of_nonneg _ (by omega)]
    refine Int.le_ediv_of_mul_le (by omega) ?_
    rw [Int.mul_comm 2, ← Int.mul_assoc]
    omega
theorem natAbs_pos {n : Int} (h : n ≠ 0) : (0 : Int) < (n.natAbs : Nat) := by omega
/-- the law's leading digits are the code's -/
theorem cut_lead {m c : Int} (h : 0 < m) (h1 : 1 ≤ c) : cutS (numS m) c = numS (scaledI m (c - (numS m).length)) := by
  have h0 : 0 ≤ m := by omega
  have hr := rep_cut (Dig_num h0) (c := c) (by omega)
  rw [val_num h0] at hr
  have hp := numS_pos h0
  have hg := num_lead h0 (Or.inl h)
  have hs : (10 : Int) ^ (c.toNat - 1) ≤ scaledI m (c - (numS m).length) := scaledI_ge hg (by omega)
  have hs0 : 0 ≤ scaledI m (c - (numS m).length) := scaledI_pos h0
  have hl := numS_ge hs
  refine rep_unique hr ⟨Dig_num hs0, val_num hs0, by omega, fun _ => num_lead hs0 (Or.inl ?_)⟩
  have := ten_pow_pos (c.toNat - 1)
  omega
theorem leadA_eq {n c : Int} (h1 : 1 ≤ c) : lawLeadA n c = leadA n c := by
  unfold lawLeadA leadA leadD
  by_cases h : n = 0
  · rw [if_pos h, if_pos (by omega)]
  · rw [if_neg h, if_neg (by omega), cut_lead (natAbs_pos h) h1]
    split
    · rfl
    · rename_i g
      have hr := (cutS_len (Dig_num (n := (n.natAbs : Nat)) (by omega)) (c := c) (by omega)).1
      rw [cut_lead (natAbs_pos h) h1] at hr
      refine eq_of_L ?_
      rw [L_to _ (by omega), List.take_of_length_le]
      rw [L_len]
      omega
theorem leadB_eq {n p c : Int} (h1 : 1 ≤ c) : lawLeadB n p c = leadB n p c := by
  unfold lawLeadB leadB leadD
  by_cases h : n = 0
  · rw [if_pos h, if_pos (by omega)]
  · have hr := cutS_len (Dig_num (n := (n.natAbs : Nat)) (by omega)) (c := c) (by omega)
    rw [if_neg h, if_neg (by omega)]
    rw [cut_lead (natAbs_pos h) h1] at hr ⊢
    split <;> omega
/-! lstrip and the spread -/
theorem dw_val : ∀ l : List Nat, NumText.digitsVal (l.dropWhile fun c => c == 48) = NumText.digitsVal l
  | [] => rfl
  | c :: r => by
    rw [List.dropWhile_cons]
    by_cases h : c = 48
    · subst h
      rw [if_pos (by rfl), NumText.digitsVal_zero]
      exact dw_val r
    · rw [if_neg (by simpa using h)]
theorem dw_lead : ∀ l : List Nat, NumText.AllDigits l → (l.dropWhile fun c => c == 48) = [] ∨ 10 ^ ((l.dropWhile fun c => c == 48).length - 1) ≤ NumText.digitsVal (l.dropWhile fun c => c == 48)
  | [], _ => Or.inl rfl
  | c :: r, ha => by
    rw [List.dropWhile_cons]
    by_cases h : c = 48
    · rw [if_pos (by simpa using h)]
      exact dw_lead r ha.tail
    · rw [if_neg (by simpa using h)]
      refine Or.inr ?_
      rw [dv_cons, List.length_cons, Nat.add_sub_cancel]
      have hc := ha.head
      have h1 : 1 ≤ c - 48 := by omega
      have := Nat.mul_le_mul_right (10 ^ r.length) h1
      omega
theorem lstrip_val (x : Str) : valS (Txt.lstripChars x (Str.ofString "0")) = valS x := by rw [valS_eq, valS_eq, L_lstrip, dw_val]
theorem lstrip_lead {x : Str} (hx : Dig x) (h : 0 < (Txt.lstripChars x (Str.ofString "0")).length) : (10 : Int) ^ ((Txt.lstripChars x (Str.ofString "0")).length - 1) ≤ valS (Txt.lstripChars x (Str.ofString "0")) := by
  rw [valS_eq]
  rw [← L_len, L_lstrip] at *
  rcases dw_lead _ (Dig_iff.mp hx) with e | e
  · rw [e] at h
    simp at h
  · exact_mod_cast e
theorem spreadA_lead {m p : Int} (hm : 0 ≤ m) (h : 0 < (spreadA m p).length) : (10 : Int) ^ ((spreadA m p).length - 1) ≤ valS (spreadA m p) := by
  unfold spreadA at *
  by_cases hp : 0 ≤ p
  · rw [if_pos hp] at *
    exact lstrip_lead (Dig_app (Dig_num hm) (Dig_zeros _)) h
  · rw [if_neg hp] at *
    exact lstrip_lead (Dig_to (Dig_app (Dig_zeros _) (Dig_num hm)) pad_nonneg) h
theorem spread_up {m p : Int} (hm : 0 ≤ m) (hp : 0 ≤ p) : spreadB m p = Str.ofString "" ∧ valS (spreadA m p) = m * 10 ^ p.toNat := by
  refine ⟨(spreadB_1 hp).symm, ?_⟩
  rw [← spreadA_1 hp, lstrip_val, val_app, val_zeros, val_num hm, zeros_len]
  omega
theorem pad_len (m p : Int) : (Txt.mul (Str.ofString "0") (-p - (numS m).length) ++ numS m).length = (-p - (numS m).length).toNat + (numS m).length := by rw [strLen_append, zeros_len]
theorem spread_down {m p : Int} (hm : 0 ≤ m) (hp : ¬ 0 ≤ p) : ((spreadB m p).length : Int) = -p ∧ valS (spreadA m p) * 10 ^ (spreadB m p).length + valS (spreadB m p) = m := by
  have h0 : 0 ≤ ((Txt.mul (Str.ofString "0") (-p - (numS m).length) ++ numS m).length : Int) + p := pad_nonneg
  have hl := pad_len m p
  have hs := str_split (Txt.mul (Str.ofString "0") (-p - (numS m).length) ++ numS m) h0
  have hv : valS (Txt.mul (Str.ofString "0") (-p - (numS m).length) ++ numS m) = m := by rw [val_app, val_zeros, val_num hm]; omega
  have hB := spreadB_2 (n := m) hp
  have hA := spreadA_2 (n := m) hp
  refine ⟨?_, ?_⟩
  · rw [← hB]
    have := (fact_slice_sn (Txt.mul (Str.ofString "0") (-p - (numS m).length) ++ numS m) (((Txt.mul (Str.ofString "0") (-p - (numS m).length) ++ numS m).length : Int) + p)).1 h0 (by omega)
    omega
  · rw [← hA, ← hB, lstrip_val, ← val_app, ← hs, hv]
theorem scaled_shift {m p q : Int} (h1 : 0 ≤ p) (h2 : 0 ≤ q) : scaledI (m * 10 ^ p.toNat) q = scaledI m (p + q) := by
  unfold scaledI
  rw [if_pos h2, if_pos (by omega)]
  have e : (p + q).toNat = p.toNat + q.toNat := by omega
  rw [e, Int.pow_add, Int.mul_assoc]
theorem told_scaled {m p places : Int} (hm : 0 ≤ m) (h : 0 ≤ places) : scaledI (valS (spreadA m p ++ spreadB m p)) (((spreadA m p).length : Int) + places - ((spreadA m p ++ spreadB m p).length : Int)) = scaledI m (p + 0 + places) := by
  rw [strLen_append]
  by_cases hp : 0 ≤ p
  · obtain ⟨hB, hA⟩ := spread_up hm hp
    rw [val_app, hB, val_e, hA, len_e]
    have e : ((spreadA m p).length : Int) + places - (((spreadA m p).length + 0 : Nat) : Int) = places := by omega
    rw [e, Int.pow_zero, Int.mul_one, Int.add_zero, Int.add_zero]
    exact scaled_shift hp h
  · obtain ⟨hB, hA⟩ := spread_down hm hp
    rw [val_app, hA]
    have e : ((spreadA m p).length : Int) + places - (((spreadA m p).length + (spreadB m p).length : Nat) : Int) = p + 0 + places := by omega
    rw [e]
theorem spread_big {m p : Int} (hm : 0 ≤ m) (h : 0 < (spreadA m p).length) : (10 : Int) ^ ((spreadA m p).length - 1 + (spreadB m p).length) ≤ valS (spreadA m p ++ spreadB m p) := by
  have hl := spreadA_lead hm h
  have hb := valS_nonneg (spreadB m p)
  rw [val_app, Int.pow_add]
  have := Int.mul_le_mul_of_nonneg_right hl (Int.le_of_lt (ten_pow_pos (spreadB m p).length))
  omega
/-- what the law tells of a fixed field are the code's digits -/
theorem told_eq {n p places : Int} (h : 0 ≤ places) : toldS n p places = digS (scaledI (n.natAbs : Nat) (p + 0 + places)) places := by
  have hm : (0 : Int) ≤ (n.natAbs : Nat) := by omega
  have hd := Dig_app (spreadA_dig (p := p) hm) (spreadB_dig (p := p) hm)
  have hr := rep_cut hd (c := ((spreadA (n.natAbs : Nat) p).length : Int) + places) (by omega)
  rw [told_scaled hm h] at hr
  rw [← told_is]
  obtain ⟨r1, r2, r3, r4⟩ := hr
  refine rep_unique ⟨r1, r2, by omega, fun hc => ?_⟩ (rep_digS (scaledI_pos hm) h)
  by_cases g : ((spreadA (n.natAbs : Nat) p).length : Int) + places < ((cutS (spreadA (n.natAbs : Nat) p ++ spreadB (n.natAbs : Nat) p) (((spreadA (n.natAbs : Nat) p).length : Int) + places)).length : Int)
  · exact r4 g
  · have hA : 0 < (spreadA (n.natAbs : Nat) p).length := by omega
    have hb := spread_big hm hA
    rw [← told_scaled hm h]
    refine scaledI_ge hb ?_
    rw [strLen_append]
    omega
/-! strip -/
theorem str_beq {a b : Str} : ((a == b) = true) ↔ a = b := by
  constructor
  · exact fun h => eq_of_beq h
  · exact fun h => by rw [h]; exact beq_self_eq_true b
theorem goes_z : (Str.ofString "0").cps.contains = fun c => c == 48 := by
  funext c
  have e : Str.ofString "0" = ⟨#[48]⟩ := by decide +kernel
  rw [e]
  simp only [List.contains_toArray]
  show (c == 48 || false) = (c == 48)
  exact Bool.or_false _
theorem takeWhile_len_all {p : Nat → Bool} : ∀ l : List Nat, (l.takeWhile p).length = l.length → ∀ c ∈ l, p c = true
  | [], _, c, hc => nomatch hc
  | d :: r, h, c, hc => by
    rw [List.takeWhile_cons] at h
    cases hp : p d with
    | false => rw [hp] at h; simp at h
    | true =>
      rw [hp] at h
      rcases List.mem_cons.mp hc with e | e
      · rw [e]; exact hp
      · exact takeWhile_len_all r (by simpa using h) c e
theorem takeWhile_rep {p : Nat → Bool} {c : Nat} (h : p c = true) : ∀ n : Nat, (List.replicate n c).takeWhile p = List.replicate n c
  | 0 => rfl
  | n + 1 => by rw [List.replicate_succ, List.takeWhile_cons, h, if_pos rfl, takeWhile_rep h n]
theorem strip_empty {x : Str} (hx : Dig x) : (Txt.stripChars x (Str.ofString "0") == Str.ofString "") = decide (valS x = 0) := by
  have hl := L_len x
  unfold Txt.stripChars
  rw [PyProof.Rows.stripBy_eq, goes_z]
  obtain ⟨a1, a2, a3⟩ := lo_facts (fun c => c == 48) x
  obtain ⟨b1, b2, b3, b4⟩ := hi_facts (fun c => c == 48) x (stripLo (fun c => c == 48) true x) a1
  have hlen : (PySem.Builtin.Str.strSub x (stripLo (fun c => c == 48) true x) (stripHi (fun c => c == 48) true x (stripLo (fun c => c == 48) true x))).length = stripHi (fun c => c == 48) true x (stripLo (fun c => c == 48) true x) - stripLo (fun c => c == 48) true x := by
    rw [← L_len, StrLaws.strSub_toList, List.length_take, List.length_drop]
    omega
  by_cases hv : valS x = 0
  · rw [decide_eq_true hv, str_beq]
    have hz : x = Txt.mul (Str.ofString "0") x.length := dig_eq hx (Dig_zeros _) (by rw [zeros_len]; omega) (by rw [hv, val_zeros])
    have hlo : stripLo (fun c => c == 48) true x = x.length := by
      show (x.cps.toList.takeWhile _).length = _
      have e : x.cps.toList = List.replicate x.length 48 := by
        have := congrArg (fun s : Str => s.cps.toList) hz
        rw [L_zeros] at this
        exact this
      rw [e, takeWhile_rep (by rfl), List.length_replicate]
    refine eq_of_L ?_
    rw [L_e]
    exact List.eq_nil_of_length_eq_zero (by rw [L_len, hlen]; omega)
  · rw [decide_eq_false hv]
    refine Bool.eq_false_iff.mpr fun he => hv ?_
    have h0 : stripHi (fun c => c == 48) true x (stripLo (fun c => c == 48) true x) - stripLo (fun c => c == 48) true x = 0 := by
      rw [← hlen, str_beq.mp he, len_e]
    have hlo : stripLo (fun c => c == 48) true x = x.length := by
      rcases a3 with h | h
      · exact h
      · by_cases hlt : stripLo (fun c => c == 48) true x < x.length
        · have := b3 (stripLo (fun c => c == 48) true x) (by omega) hlt
          rw [this] at h
          exact absurd h (by decide)
        · omega
    have hall := takeWhile_len_all x.cps.toList (by rw [hl]; exact hlo)
    have e : x.cps.toList = List.replicate x.length 48 := List.eq_replicate_iff.mpr ⟨hl, fun c hc => by simpa using hall c hc⟩
    rw [valS_eq, e, dv_zeros]
    rfl
/-! the fields -/
theorem field_eq {a : Str} {width : Int} : lawField1 a width = fieldS a width := by
  unfold lawField1 fieldS
  by_cases h : (a.length : Int) ≤ width
  · rw [if_pos h, if_neg (by omega)]
  · rw [if_neg h, if_pos (by omega)]
theorem app_e (a b : Str) : a ++ Str.ofString "" ++ b = a ++ b := by
  refine eq_of_L ?_
  rw [L_app, L_app, L_app, L_e, List.append_nil]
theorem e_app (a : Str) : Str.ofString "" ++ a = a := by
  refine eq_of_L ?_
  rw [L_app, L_e, List.nil_append]
theorem field2_eq {sg b : Str} {width : Int} : lawField2 (sg ++ Str.ofString "0." ++ b) (sg ++ Str.ofString "." ++ b) width = if (((sg.length + (Str.ofString "0.").length + b.length : Nat) : Int) ≤ width) then fieldS (sg ++ Str.ofString "0." ++ b) width else fieldS (sg ++ Str.ofString "" ++ Str.ofString "." ++ b) width := by
  unfold lawField2
  have e : (sg ++ Str.ofString "0." ++ b).length = sg.length + (Str.ofString "0.").length + b.length := by rw [strLen_append, strLen_append]
  rw [e, app_e]
  split
  · rename_i h
    unfold fieldS
    rw [if_neg (by rw [e]; omega), e]
  · exact field_eq
theorem pick_eq {sg a b : Str} {width : Int} : lawPick sg a b width = pointS sg a b width := by
  unfold lawPick pointS
  by_cases ha : (a == Str.ofString "") = true
  · rw [if_pos ha, if_pos ha]
    have e : a = Str.ofString "" := str_beq.mp ha
    by_cases hb : (b == Str.ofString "") = true
    · rw [if_pos hb, if_neg (by unfold bne; rw [hb]; decide)]
      exact field_eq
    · rw [if_neg hb, if_pos (by unfold bne; rw [Bool.eq_false_iff.mpr hb]; decide), e]
      exact field2_eq
  · rw [if_neg ha, if_neg ha]
    exact field_eq
theorem fixed_eq {n p width places : Int} {plus : Bool} (h : 0 ≤ places) : lawFixedS n p width places plus = fixedS n p width places plus := by
  have hm : (0 : Int) ≤ (n.natAbs : Nat) := by omega
  have hN := scaledI_pos (n := ((n.natAbs : Nat) : Int)) (p := p + 0 + places) hm
  have hr := rep_digS hN h
  unfold lawFixedS fixedS
  rw [pick_eq, told_eq h, strip_empty hr.1, hr.2.1]
  have e : (!decide (scaledI (n.natAbs : Nat) (p + 0 + places) = 0)) = decide (0 < scaledI (n.natAbs : Nat) (p + 0 + places)) := by
    rw [← decide_not]
    exact decide_eq_decide.mpr (by omega)
  rw [e]
theorem expS_pos {letter : Str} {p size : Int} : 1 ≤ (expS letter p size).length := by
  have h2 := numS_pos (n := ((p.natAbs : Nat) : Int)) (by omega)
  unfold expS
  rw [strLen_append, strLen_append, strLen_append]
  omega
theorem expT_pos {letter : Str} {p : Int} {z : Option Int} : 1 ≤ (expT letter p z).length := by
  cases z with
  | none => exact expS_pos
  | some n => exact expS_pos
theorem exp_eq {letter : Str} {n p width places : Int} {z : Option Int} {plus : Bool} (h : 1 ≤ places) : lawExpO letter n p width places z plus = editExpO letter n p width places z plus := by
  unfold lawExpO editExpO
  rw [leadA_eq h, leadB_eq h, Int.add_zero]
  have hz : Txt.mul (Str.ofString "0") (-0) = Str.ofString "" := by decide +kernel
  rw [hz, e_app]
  by_cases hl : longB (leadB n p places) z = true
  · rw [if_pos hl, if_pos hl]
  rw [if_neg hl, if_neg hl]
  have hne : ((leadA n places ++ expT letter (leadB n p places) z) == Str.ofString "") = false := by
    refine Bool.eq_false_iff.mpr fun he => ?_
    have e := congrArg Str.length (str_beq.mp he)
    have h2 := expT_pos (letter := letter) (p := leadB n p places) (z := z)
    rw [strLen_append, len_e] at e
    omega
  unfold pointS
  rw [if_pos (by exact beq_self_eq_true _), if_neg (by rw [hne]; decide)]
  have a1 (x : Str) : x ++ leadA n places ++ expT letter (leadB n p places) z = x ++ (leadA n places ++ expT letter (leadB n p places) z) := Str.append_assoc _ _ _
  rw [a1, a1]
  exact field2_eq
theorem int_eq {value width least : Int} {plus : Bool} : lawIntS value width least plus = editIntS value width least plus := by
  unfold lawIntS editIntS padS
  have hm : (0 : Int) ≤ (value.natAbs : Nat) := by omega
  have e0 : numS 0 = Str.ofString "0" := by unfold numS; rfl
  have e : ((numS (value.natAbs : Nat) == Str.ofString "0") = true) ↔ value = 0 := by
    rw [str_beq]
    constructor
    · intro h
      have h1 := val_num hm
      rw [h, ← e0, val_num (by decide)] at h1
      omega
    · intro h
      rw [h]
      exact e0
  by_cases h : value = 0 ∧ least = 0
  · rw [if_pos h, if_pos ⟨h.2, e.mpr h.1⟩]
  · rw [if_neg h, if_neg (fun g => h ⟨e.mp g.2, g.1⟩), field_eq, Str.append_assoc]
theorem any_two {y : Str} : ([Str.ofString "", Str.ofString "0"].any fun x => x == y) = true ↔ (y = Str.ofString "" ∨ y = Str.ofString "0") := by
  rw [List.any_cons, List.any_cons, List.any_nil, Bool.or_false, Bool.or_eq_true, str_beq, str_beq]
  constructor
  · rintro (h | h)
    · exact Or.inl h.symm
    · exact Or.inr h.symm
  · rintro (h | h)
    · exact Or.inl h.symm
    · exact Or.inr h.symm
/-- the first sign of a row of digits is a nought (or there is none) -/
theorem first_sign {y : Str} (hy : Dig y) : (([Str.ofString "", Str.ofString "0"].any fun x => x == Txt.slice y none (some 1)) = true) ↔ (y.length = 0 ∨ valS y < 10 ^ (y.length - 1)) := by
  rw [any_two]
  have hL := L_to y (j := 1) (by decide)
  by_cases h0 : y.length = 0
  · have e : y.cps.toList = [] := List.eq_nil_of_length_eq_zero (by rw [L_len, h0])
    constructor
    · exact fun _ => Or.inl h0
    · refine fun _ => Or.inl (eq_of_L ?_)
      rw [hL, e, L_e]
      rfl
  · have hd := drop_one y (c := 0) (by omega)
    rw [List.drop_zero] at hd
    have hv := valS_eq y
    have ht : NumText.AllDigits (y.cps.toList.drop (0 + 1)) := fun d hd' => Dig_iff.mp hy d (List.mem_of_mem_drop hd')
    have hb := dv_lt ht
    have hlen : (y.cps.toList.drop (0 + 1)).length = y.length - 1 := by rw [List.length_drop, L_len]
    have h9 : 48 ≤ y.cps.getD 0 0 := by
      refine (Dig_iff.mp hy _ ?_).1
      rw [hd]
      exact List.mem_cons_self ..
    have hT : (Txt.slice y none (some 1)).cps.toList = [y.cps.getD 0 0] := by
      rw [hL, hd]
      rfl
    rw [hd, dv_cons, hlen] at hv
    rw [hlen] at hb
    have hb' : ((NumText.digitsVal (y.cps.toList.drop (0 + 1)) : Nat) : Int) < 10 ^ (y.length - 1) := by exact_mod_cast hb
    constructor
    · rintro (h | h)
      · rw [h, L_e] at hT
        cases hT
      · rw [h, L_z] at hT
        have e : y.cps.getD 0 0 = 48 := by
          injection hT with e _
          exact e.symm
        refine Or.inr ?_
        rw [hv, e, Nat.sub_self, Nat.zero_mul, Nat.zero_add]
        exact hb'
    · rintro (h | h)
      · exact absurd h h0
      · refine Or.inr (eq_of_L ?_)
        rw [hT, L_z]
        by_cases e : y.cps.getD 0 0 = 48
        · rw [e]
        · have h1 : 1 ≤ y.cps.getD 0 0 - 48 := by omega
          have h2 := Nat.mul_le_mul_right (10 ^ (y.length - 1)) h1
          rw [Nat.one_mul] at h2
          have h3 : 10 ^ (y.length - 1) ≤ (y.cps.getD 0 0 - 48) * 10 ^ (y.length - 1) + NumText.digitsVal (y.cps.toList.drop (0 + 1)) := by omega
          have h4 : ((10 ^ (y.length - 1) : Nat) : Int) ≤ valS y := by rw [hv]; exact_mod_cast h3
          rw [Int.natCast_pow] at h4
          have h5 : ((10 : Nat) : Int) = 10 := rfl
          rw [h5] at h4
          omega
theorem len_zero {x : Str} : ((x == Str.ofString "") = true) ↔ x.length = 0 := by
  rw [str_beq]
  constructor
  · intro h
    rw [h, len_e]
  · intro h
    refine eq_of_L ?_
    rw [L_e]
    exact List.eq_nil_of_length_eq_zero (by rw [L_len, h])
theorem num_len {v : Int} {k : Nat} (h1 : (10 : Int) ^ k ≤ v) (h2 : v < 10 ^ (k + 1)) : (numS v).length = k + 1 := by
  have := numS_ge h1
  have hp := ten_pow_pos k
  have := numS_len (n := v) (by omega) (k := k + 1) (by omega) h2
  omega
theorem num_hi {v : Int} (h : 0 ≤ v) : v < 10 ^ (numS v).length := by
  have := val_bound (Dig_num h)
  rwa [val_num h] at this
/-- where the whole part ends -/
theorem whole_len {m p : Int} (hm : 0 < m) : ((spreadA m p).length : Int) = if 0 ≤ ((numS m).length : Int) + p then ((numS m).length : Int) + p else 0 := by
  have hm0 : 0 ≤ m := by omega
  have hl1 := numS_pos hm0
  have lo := num_lead hm0 (Or.inl hm)
  have hi := num_hi hm0
  by_cases hp : 0 ≤ p
  · obtain ⟨hB, hA⟩ := spread_up hm0 hp
    have h1 : (10 : Int) ^ ((numS m).length - 1 + p.toNat) ≤ m * 10 ^ p.toNat := by
      rw [Int.pow_add]
      exact Int.mul_le_mul_of_nonneg_right lo (Int.le_of_lt (ten_pow_pos _))
    have h2 : m * 10 ^ p.toNat < 10 ^ ((numS m).length - 1 + p.toNat + 1) := by
      have e : (numS m).length - 1 + p.toNat + 1 = (numS m).length + p.toNat := by omega
      rw [e, Int.pow_add]
      exact Int.mul_lt_mul_of_pos_right hi (ten_pow_pos _)
    have h3 := num_len h1 h2
    have hpos := ten_pow_pos ((numS m).length - 1 + p.toNat)
    have hb := val_bound (spreadA_dig (p := p) hm0)
    have hA0 : 0 < (spreadA m p).length := by
      by_cases h0 : (spreadA m p).length = 0
      · rw [h0, Int.pow_zero] at hb
        omega
      · omega
    have hlead := spreadA_lead hm0 hA0
    rw [hA] at hb hlead
    have e : (spreadA m p).length = (spreadA m p).length - 1 + 1 := by omega
    rw [e] at hb
    have h4 := num_len hlead hb
    rw [if_pos (by omega)]
    omega
  · obtain ⟨hB, hA⟩ := spread_down hm0 hp
    have hb := val_bound (spreadB_dig (p := p) hm0)
    have ha := val_bound (spreadA_dig (p := p) hm0)
    have hb0 := valS_nonneg (spreadB m p)
    by_cases h0 : (spreadA m p).length = 0
    · rw [h0, Int.pow_zero] at ha
      have ha0 := valS_nonneg (spreadA m p)
      have e : valS (spreadA m p) = 0 := by omega
      rw [e, Int.zero_mul] at hA
      have h1 : m < 10 ^ (spreadB m p).length := by omega
      have h2 := numS_len hm0 (by omega) h1
      split <;> omega
    · have hlead := spreadA_lead (p := p) hm0 (by omega)
      have h1 : (10 : Int) ^ ((spreadA m p).length - 1 + (spreadB m p).length) ≤ m := by
        rw [Int.pow_add]
        have := Int.mul_le_mul_of_nonneg_right hlead (Int.le_of_lt (ten_pow_pos (spreadB m p).length))
        omega
      have h2 : m < 10 ^ ((spreadA m p).length - 1 + (spreadB m p).length + 1) := by
        have e : (spreadA m p).length - 1 + (spreadB m p).length + 1 = (spreadA m p).length + (spreadB m p).length := by omega
        rw [e, Int.pow_add]
        have h3 : valS (spreadA m p) + 1 ≤ 10 ^ (spreadA m p).length := by omega
        have h4 := Int.mul_le_mul_of_nonneg_right h3 (Int.le_of_lt (ten_pow_pos (spreadB m p).length))
        rw [Int.add_mul, Int.one_mul] at h4
        omega
      have h3 := num_len h1 h2
      split <;> omega
theorem gen_eq {n p width places b : Int} {plus : Bool} {e : Str} (h : 1 ≤ places) : lawGenX n p width places b plus e = editGenX n p width places b plus e := by
  have hm0 : (0 : Int) ≤ (n.natAbs : Nat) := by omega
  have hf := first_sign (spreadB_dig (p := p) hm0)
  by_cases hn : n = 0
  · rw [← editGenX_no (fun g => g.1 hn)]
    have hm : ((n.natAbs : Nat) : Int) = 0 := by omega
    have hA0 : (spreadA (n.natAbs : Nat) p).length = 0 := by
      by_cases h0 : (spreadA (n.natAbs : Nat) p).length = 0
      · exact h0
      · have hl := spreadA_lead hm0 (p := p) (by omega)
        have hp0 := ten_pow_pos ((spreadA (n.natAbs : Nat) p).length - 1)
        by_cases hp : 0 ≤ p
        · have ez : valS (spreadA (n.natAbs : Nat) p) = 0 := by rw [(spread_up hm0 hp).2, hm, Int.zero_mul]
          omega
        · have := (spread_down hm0 hp).2
          have hb0 := valS_nonneg (spreadB (n.natAbs : Nat) p)
          have := Int.mul_le_mul_of_nonneg_right hl (Int.le_of_lt (ten_pow_pos (spreadB (n.natAbs : Nat) p).length))
          have := Int.mul_pos hp0 (ten_pow_pos (spreadB (n.natAbs : Nat) p).length)
          omega
    refine (lawGenX_2 (len_zero.mpr hA0) (hf.mpr ?_)).symm
    by_cases hp : 0 ≤ p
    · left
      rw [(spread_up hm0 hp).1, len_e]
    · right
      obtain ⟨hB, hA⟩ := spread_down hm0 hp
      have ha0 := Int.mul_nonneg (valS_nonneg (spreadA (n.natAbs : Nat) p)) (Int.le_of_lt (ten_pow_pos (spreadB (n.natAbs : Nat) p).length))
      have := ten_pow_pos ((spreadB (n.natAbs : Nat) p).length - 1)
      omega
  · have hm := natAbs_pos hn
    have hw := whole_len (p := p) hm
    have hl1 := numS_pos hm0
    by_cases hg : 0 ≤ ((numS (n.natAbs : Nat)).length : Int) + p
    · rw [if_pos hg] at hw
      by_cases hpl : ((numS (n.natAbs : Nat)).length : Int) + p ≤ places
      · rw [← editGenX_yes hn hg hpl, ← fixed_eq (by omega), ← hw]
        have k : ¬ places < ((spreadA (n.natAbs : Nat) p).length : Int) := by omega
        by_cases h0 : (spreadA (n.natAbs : Nat) p == Str.ofString "") = true
        · refine (lawGenX_3 k (Bool.eq_false_iff.mpr fun hx => ?_)).symm
          have hA0 := len_zero.mp h0
          have hp : ¬ 0 ≤ p := by omega
          obtain ⟨hB, hA⟩ := spread_down hm0 hp
          rcases hf.mp hx with g | g
          · omega
          · have lo := num_lead hm0 (Or.inl hm)
            have ha := val_bound (spreadA_dig (p := p) hm0)
            rw [hA0, Int.pow_zero] at ha
            have ha0 := valS_nonneg (spreadA (n.natAbs : Nat) p)
            have ez : valS (spreadA (n.natAbs : Nat) p) = 0 := by omega
            rw [ez, Int.zero_mul] at hA
            have el : (spreadB (n.natAbs : Nat) p).length = (numS (n.natAbs : Nat)).length := by omega
            rw [el] at g
            omega
        · exact (lawGenX_4 k (Bool.eq_false_iff.mpr h0)).symm
      · rw [← editGenX_no (fun g => hpl g.2.2)]
        exact (lawGenX_1 (by omega)).symm
    · rw [if_neg hg] at hw
      rw [← editGenX_no (fun g => hg g.2.1)]
      have hp : ¬ 0 ≤ p := by omega
      obtain ⟨hB, hA⟩ := spread_down hm0 hp
      refine (lawGenX_2 (len_zero.mpr (by omega)) (hf.mpr (Or.inr ?_))).symm
      have hi := num_hi hm0
      have hA0 := Int.mul_nonneg (valS_nonneg (spreadA (n.natAbs : Nat) p)) (Int.le_of_lt (ten_pow_pos (spreadB (n.natAbs : Nat) p).length))
      have hle : (10 : Int) ^ (numS (n.natAbs : Nat)).length ≤ 10 ^ ((spreadB (n.natAbs : Nat) p).length - 1) := ten_pow_le (by omega)
      omega
theorem SzV_none : SzV Value.none none := Or.inl ⟨rfl, rfl⟩
theorem law_int_ok' (w : World) (news : List (Addr × Obj)) (value width least : Int) (plus : Bool) (vz : Value) (t1 t2 : Tok) (hz : FwV vz least) (h1 : - 10 ^ 11 < value) (h2 : value < 10 ^ 11) (h4 : 0 ≤ width) (h5 : width ≤ 100) (h6 : 0 ≤ least) (h7 : least ≤ 100) :
    Claim w 200 2 news [.int value t1, .int width t2, vz, .bool plus] fun r nw => nw = news ∧ ∃ t x, r = .str x t ∧ x = editIntS value width least plus := by
  have c := law_int_ok w news value width least plus vz t1 t2 hz h1 h2 h4 h5 h6 h7
  rwa [int_eq] at c
section
variable (w : World) (news : List (Addr × Obj)) (v : Addr) (n p : Int) (u1 u2 : Tok) (hm : (v, tupO [.int n u1, .int p u2]) ∈ news) (hn1 : - 10 ^ 9 < n) (hn2 : n < 10 ^ 9) (hp1 : -14 ≤ p) (hp2 : p ≤ 10) (width places : Int) (plus : Bool)
include hm hn1 hn2 hp1 hp2
theorem law_fixed_ok' (t1 t2 : Tok) (h1 : 0 ≤ width) (h2 : width ≤ 30) (h3 : 0 ≤ places) (h4 : places ≤ 15) :
    Claim w 179 3 news [.ref v, .int width t1, .int places t2, .bool plus] fun r nw => nw = news ∧ ∃ t x, r = .str x t ∧ x = fixedS n p width places plus ∧ (x.length : Int) = width := by
  have c := law_fixed_ok w news v n p u1 u2 hm hn1 hn2 hp1 hp2 width places plus t1 t2 h1 h2 h3 h4
  rwa [fixed_eq h3] at c
variable (letter : Str) (h0 : letter.length ≤ 1) (h1 : 0 ≤ width) (h2 : width ≤ 30) (h3 : 1 ≤ places) (h4 : places ≤ 12) (vz : Value) (z : Option Int) (hz : SzV vz z)
include h1 h2 h3 h4 hz
theorem law_general_ok' (t1 t2 : Tok) : Claim w 214 4 news [.ref v, .int width t1, .int places t2, vz, .bool plus] fun r nw => nw = news ∧ ∃ t x, r = .str x t ∧ x = editGenX n p width places (blkI z) plus (editExpO (Str.ofString "E") n p width places z plus) := by
  have c := law_general_ok w news v n p u1 u2 hm hn1 hn2 hp1 hp2 width places plus h1 h2 h3 h4 vz z hz t1 t2
  rwa [exp_eq h3, gen_eq h3] at c
include h0
theorem law_exp_ok' (t0 t1 t2 : Tok) : Claim w 207 3 news [.str letter t0, .ref v, .int width t1, .int places t2, vz, .bool plus] fun r nw => nw = news ∧ ∃ t x, r = .str x t ∧ x = editExpO letter n p width places z plus := by
  have c := law_exp_ok w news v n p u1 u2 hm hn1 hn2 hp1 hp2 width places plus letter h0 h1 h2 h3 h4 vz z hz t0 t1 t2
  rwa [exp_eq h3] at c
end
section
variable {prog : Program} {w : World} {A : Around} {E : Value → Shared → Prop} {s : Shared} {Q : Value → Shared → Prop} {t u : Tok} {a k : Int}
theorem fdiv_pow (h0 : 0 ≤ a) (hk : k ≤ 30) (h : 0 ≤ a.fdiv (10 ^ k.toNat) → a.fdiv (10 ^ k.toNat) ≤ a → Q (.int (a.fdiv (10 ^ k.toNat)) s.toks) { s with toks := s.toks + 1 }) :
    wpAny (model prog w) A (binaryOp .FloorDiv (.int a t) (.int (10 ^ k.toNat) u)) Q E s :=
  floordiv_int (ten_pow_ne _) (h (Int.fdiv_nonneg h0 (Int.le_of_lt (ten_pow_pos _))) (fdiv_le_self h0 (ten_pow_pos _))) (Or.inl (PyProof.noPylong_of_log2 (ten_py (by omega))))
end
section
variable {prog : Program} {w : World} {A : Around} {E : Value → Shared → Prop} {s : Shared} {h₀ : Heap} {L P : Addr} {m : Str → Option Value} {news : List (Addr × Obj)} {n : Nat} {k : Int} {u t1 t2 t3 : Tok} {x : Str} {Q : Value → Shared → Prop}
theorem size_menu {value slice : PySem.Expr} (N : News h₀ L s.heap news) (hm : (P, listOf #[Value.none, Value.int 1 t1, Value.int 2 t2, Value.int 3 t3] n) ∈ news) (h0 : 0 ≤ k) (h1 : k < 4)
    (h : ∀ vz z, SzV vz z → Q vz s)
    (hd : subscripted slice false (.ref P) (.int k u) = operate [.ref P, .int k u] (getItem (.ref P) (.int k u)) := by with_unfolding_all rfl) :
    wpAny (model prog w) A (subscriptTail value slice (.ref P) (.int k u)) Q E s := by
  have hl : s.heap.IsList P [Value.none, Value.int 1 t1, Value.int 2 t2, Value.int 3 t3].toArray := PySem.IsL.isList (n := n) (N _ hm).1
  have hk : k = 0 ∨ k = 1 ∨ k = 2 ∨ k = 3 := by omega
  rcases hk with e | e | e | e
  · subst e; exact item_litK hl (by decide) (by decide) rfl (h _ none (Or.inl ⟨rfl, rfl⟩)) hd
  · subst e; exact item_litK hl (by decide) (by decide) rfl (h _ (some 1) (Or.inr ⟨1, t1, rfl, rfl, by decide, by decide⟩)) hd
  · subst e; exact item_litK hl (by decide) (by decide) rfl (h _ (some 2) (Or.inr ⟨2, t2, rfl, rfl, by decide, by decide⟩)) hd
  · subst e; exact item_litK hl (by decide) (by decide) rfl (h _ (some 3) (Or.inr ⟨3, t3, rfl, rfl, by decide, by decide⟩)) hd
theorem str_ne_same (h : Q (.bool false) s) : wpAny (model prog w) A (compareOp .NotEq (.str x t1) (.str x t2)) Q E s :=
  ne_str (by rw [bne_self_eq_false]; exact h)
theorem str_eq_same (h : Q (.bool true) s) : wpAny (model prog w) A (compareOp .Eq (.str x t1) (.str x t2)) Q E s :=
  eq_str (by rw [beq_self_eq_true]; exact h)
/-- the number of least digits: none said, or a small one -/
theorem meet_fw {M : Model} {T : Sem Value} (F0 : Fr h₀ L s.heap m) (N0 : News h₀ L s.heap news) (i : Nat)
    (walk : ∀ Q' : Value → Shared → Prop, Met i → (∀ (v : Value) (least : Int) (h' : Heap) (tk' : Nat), Fr h₀ L h' m → News h₀ L h' news → FwV v least → 0 ≤ least → least ≤ 100 → Q' v { s with heap := h', toks := tk' }) → wpAny M A T Q' E s)
    (ret : ∀ (v : Value) (least : Int) (h' : Heap) (tk' : Nat), Fr h₀ L h' m → News h₀ L h' news → FwV v least → 0 ≤ least → least ≤ 100 → Q v { s with heap := h', toks := tk' }) : wpAny M A T Q E s := walk Q (met i) ret
end
example : True := by
  k_with "binaryOp FloorDiv int int" => (k_here; (with_reducible refine fdiv_pow (by omega) (by omega) ?_); intro _ _)
  k_with "call ref" => (k_here; (with_reducible show wpAny _ _ (call (Value.ref 179) _) _ _ _); k_dflt (refine' Claim.strP (law_fixed_ok' _ _ _ _ _ _ _ ?hm ?g1 ?g2 ?g3 ?g4 _ _ _ _ _ ?h1 ?h2 ?h3 ?h4) ?k1 ?k2 ?k3 ?k4 ?k5 ?kK ?kd ?ku ?_; (case k4 => k_asm); (case hm => first | assumption | exact List.Mem.tail _ (by assumption) | exact List.Mem.tail _ (List.Mem.tail _ (by assumption)) | k_mem); (case g1 => omega); (case g2 => omega); (case g3 => omega); (case g4 => omega); (case h1 => omega); (case h2 => omega); (case h3 => omega); (case h4 => omega); (case k1 => k_asm); (case k2 => k_asm); (case k3 => k_asm); (case k5 => k_asm); (case kK => first | exact rfl | assumption); (case kd => ktr_room); (case ku => ktr_units); intro t9 h9 tk9 F9 N9 l9; (try dsimp only); (try k_fold)))
  k_with "call ref" => (k_here; (with_reducible show wpAny _ _ (call (Value.ref 144) _) _ _ _); k_dflt (refine' Claim.real (real_ok _ _ _ _ _ _ _ _ _ _ _ ?hU ?hS ?hi ?h1 ?h2 ?h5) ?k1 ?k2 ?k3 ?k4 ?k5 ?kK ?kd ?ku ?_; (case k4 => k_asm); (case hU => first | assumption | exact UpdF.again (by assumption) | k_updF); (case hS => first | assumption | (intro o'; k_mem)); (case hi => assumption); (case h1 => omega); (case h2 => omega); (case h5 => first | assumption | exact List.length_take_le _ _); (case k1 => k_asm); (case k2 => k_asm); (case k3 => k_asm); (case k5 => k_asm); (case kK => first | exact rfl | assumption); (case kd => ktr_room); (case ku => ktr_units); intro x9 n9 p9 u9 v9 t8 h9 tk9 F9 N9 g9 q9 q8 q7 q6; (try dsimp only); (try k_fold); (try dsimp only at N9 g9); (try k_lt g9)))
  k_with "call ref" => (k_here; (with_reducible show wpAny _ _ (call (Value.ref 95) _) _ _ _); k_dflt (refine' Claim.strP (edit_fixed_ok _ _ _ _ _ _ _ ?hm ?g1 ?g2 ?g3 ?g4 _ _ _ _ _ _ ?h1 ?h2 ?h3 ?h4) ?k1 ?k2 ?k3 ?k4 ?k5 ?kK ?kd ?ku ?_; (case k4 => k_asm); (case hm => first | assumption | exact List.Mem.tail _ (by assumption) | exact List.Mem.tail _ (List.Mem.tail _ (by assumption)) | k_mem); (case g1 => omega); (case g2 => omega); (case g3 => omega); (case g4 => omega); (case h1 => omega); (case h2 => omega); (case h3 => omega); (case h4 => omega); (case k1 => k_asm); (case k2 => k_asm); (case k3 => k_asm); (case k5 => k_asm); (case kK => first | exact rfl | assumption); (case kd => ktr_room); (case ku => ktr_units); intro t9 h9 tk9 F9 N9 l9; (try dsimp only); (try k_fold)))
  k_with "compareOp NotEq str str" => (k_here; (with_reducible refine str_ne_same ?_))
  k_with "compareOp Eq str str" => (k_here; (with_reducible refine str_eq_same ?_))
  k_with "call ref" => (k_here; (first | (with_reducible show wpAny _ _ (call (Value.ref 81) _) _ _ _) | (with_reducible show wpAny _ _ (call (Value.ref 200) _) _ _ _)); k_dflt ((first | refine' Claim.str (edit_int_ok _ _ _ _ _ _ _ _ _ ?hz ?h1 ?h2 ?h4 ?h5 ?h6 ?h7) ?k1 ?k2 ?k3 ?k4 ?k5 ?kK ?kd ?ku ?_ | refine' Claim.str (law_int_ok' _ _ _ _ _ _ _ _ _ ?hz ?h1 ?h2 ?h4 ?h5 ?h6 ?h7) ?k1 ?k2 ?k3 ?k4 ?k5 ?kK ?kd ?ku ?_); (case k4 => k_asm); (case hz => with_reducible assumption); (case h1 => omega); (case h2 => omega); (case h4 => omega); (case h5 => omega); (case h6 => with_reducible assumption); (case h7 => with_reducible assumption); (case k1 => k_asm); (case k2 => k_asm); (case k3 => k_asm); (case k5 => k_asm); (case kK => first | exact rfl | assumption); (case kd => ktr_room); (case ku => ktr_units); intro t9 h9 tk9 F9 N9; (try dsimp only); (try k_fold)))
  k_with "call ref" => (k_here; (first | (with_reducible show wpAny _ _ (call (Value.ref 116) _) _ _ _) | (with_reducible show wpAny _ _ (call (Value.ref 207) _) _ _ _)); k_dflt ((first | refine' Claim.str (edit_exp_ok _ _ _ _ _ _ _ ?hm ?g1 ?g2 ?g3 ?g4 _ _ _ _ ?h0 ?h1 ?h2 ?h3 ?h4 _ _ ?hz _ _ _ _) ?k1 ?k2 ?k3 ?k4 ?k5 ?kK ?kd ?ku ?_ | refine' Claim.str (law_exp_ok' _ _ _ _ _ _ _ ?hm ?g1 ?g2 ?g3 ?g4 _ _ _ _ ?h0 ?h1 ?h2 ?h3 ?h4 _ _ ?hz _ _ _) ?k1 ?k2 ?k3 ?k4 ?k5 ?kK ?kd ?ku ?_); (case hz => first | with_reducible assumption | exact SzV_none); (case k4 => k_asm); (case hm => first | assumption | exact List.Mem.tail _ (by assumption) | exact List.Mem.tail _ (List.Mem.tail _ (by assumption)) | k_mem); (case g1 => omega); (case g2 => omega); (case g3 => omega); (case g4 => omega); (case h0 => first | assumption | decide); (case h1 => omega); (case h2 => omega); (case h3 => omega); (case h4 => omega); (case k1 => k_asm); (case k2 => k_asm); (case k3 => k_asm); (case k5 => k_asm); (case kK => first | exact rfl | assumption); (case kd => ktr_room); (case ku => ktr_units); intro t9 h9 tk9 F9 N9; (try dsimp only); (try k_fold)))
  k_with "call ref" => (k_here; (first | (with_reducible show wpAny _ _ (call (Value.ref 130) _) _ _ _) | (with_reducible show wpAny _ _ (call (Value.ref 214) _) _ _ _)); k_dflt ((first | refine' Claim.str (edit_general_ok _ _ _ _ _ _ _ ?hm ?g1 ?g2 ?g3 ?g4 _ _ _ ?h1 ?h2 ?h3 ?h4 _ _ ?hz _ _ _) ?k1 ?k2 ?k3 ?k4 ?k5 ?kK ?kd ?ku ?_ | refine' Claim.str (law_general_ok' _ _ _ _ _ _ _ ?hm ?g1 ?g2 ?g3 ?g4 _ _ _ ?h1 ?h2 ?h3 ?h4 _ _ ?hz _ _) ?k1 ?k2 ?k3 ?k4 ?k5 ?kK ?kd ?ku ?_); (case hz => first | with_reducible assumption | exact SzV_none); (case k4 => k_asm); (case hm => first | assumption | exact List.Mem.tail _ (by assumption) | exact List.Mem.tail _ (List.Mem.tail _ (by assumption)) | k_mem); (case g1 => omega); (case g2 => omega); (case g3 => omega); (case g4 => omega); (case h1 => omega); (case h2 => omega); (case h3 => omega); (case h4 => omega); (case k1 => k_asm); (case k2 => k_asm); (case k3 => k_asm); (case k5 => k_asm); (case kK => first | exact rfl | assumption); (case kd => ktr_room); (case ku => ktr_units); intro t9 h9 tk9 F9 N9; (try dsimp only); (try k_fold)))
  k_with "subscriptTail" => (k_here; (with_reducible show wpAny _ _ (subscriptTail _ _ (Value.ref _) (Value.int _ _)) _ _ _); k_dflt (with_unfolding_all refine' size_menu ?k1 ?k2 ?k3 ?k4 ?_ ?k6; (case k1 => k_asm); (case k2 => k_mem); (case k3 => omega); (case k4 => omega); (case k6 => with_unfolding_all rfl); intro vz9 z9 hz9; (try dsimp only); (try k_fold)))
  k_with "eval IfExp" => (k_here; (fail_if_success (with_reducible rename Met 51 => m9)); (with_reducible show wpAny _ _ (eval (Expr.IfExp (Expr.Compare (Expr.Name (Str.ofString "size") _) _ _ _) (Expr.Constant _ _ _) (Expr.BinOp _ _ _ _) _) _) _ _ _); k_dflt (refine' meet_fw ?F ?N 51 ?w ?_; (case F => k_asm); (case N => k_asm); (case w => ((with_reducible rename SzV _ _ => hz); intro Q9 m9 q9; rcases hz with ⟨e, e'⟩ | ⟨n, t, e, e', g1, g2⟩; (focus (subst e e'; k_steps; exact q9 _ 1 _ _ (by with_reducible assumption) (by with_reducible assumption) (Or.inl ⟨rfl, rfl⟩) (by decide) (by decide))); (focus (subst e e'; k_steps; exact q9 _ _ _ _ (by with_reducible assumption) (by with_reducible assumption) (Or.inr ⟨_, rfl⟩) (Int.fmod_nonneg_of_pos _ (by omega)) (Int.le_trans (Int.le_of_lt (Int.fmod_lt_of_pos _ (by omega))) (by omega)))))); intro v9 l9 h9 tk9 F9 N9 f9 g9 g8; (try dsimp only); (try k_fold)))
  k_with "exec If" => (k_here; (fail_if_success (with_reducible rename Met 52 => m9)); (try dsimp only); (with_reducible show wpAny _ _ (exec (Stmt.If (Expr.Compare (Expr.Name (Str.ofString "places") _) _ _ _) _ _ _) _) _ _ _); k_dflt (refine' meet_setI ?F ?N 52 (x := Str.ofString "places") 1 9 ?w ?_; (case F => k_asm); (case N => k_asm); (case w => (intro Q9 m9 q9; k_steps; (all_goals (first | exact q9 1 _ _ _ (by with_reducible assumption) (by with_reducible assumption) (by decide) (by decide) | exact q9 _ _ _ _ (Fr.again (by with_reducible assumption) rfl) (by with_reducible assumption) (by omega) (by omega))))); intro k9 t9 h9 tk9 F9 N9 g9 g8; (try dsimp only); (try k_fold)))
  trivial
set_option maxHeartbeats 40000000 in
theorem law_whole : PySem.Challenge.rw_no0230_01.Holds := hd (by
  k_go0
  (all_goals try k_fold)
  k_steps)
end Mine
theorem PySem.Challenge.cw_no0230_01_holds : PySem.Challenge.rw_no0230_01.Holds := by
  exact Mine.law_whole
