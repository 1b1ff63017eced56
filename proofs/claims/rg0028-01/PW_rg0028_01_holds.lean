import PyProof.Rows.All
import Wide.All
import OpenK.AllK
import Wide.FinOn
import Lean
import PySem.Challenge.RW_rg0028_01
set_option rowWalk.seconds 0
set_option linter.all false
open PySem PySem.W PyProof.Rows
def Mine.hd.tw8023555137839647201 : Unit := ()
namespace Mine
section
local macro_rules | `(tactic| o_head $_) => `(tactic| k_extra "oh")
local macro_rules | `(tactic| w_witness2) => `(tactic| k_extra "ow")
example : True := by
  k_with_none
  k_with "oh" => refine (fun (_ : True) (h : _) => h) ?hw ?hc
  k_with "ow" => exact True.intro
  trivial
set_option Elab.async true in
set_option maxRecDepth 100000 in
set_option maxHeartbeats 8000000 in
theorem hd : True := (trivial : (fun (_ : PySem.Challenge.rw_rg0028_01.row.Holds → PySem.Challenge.rw_rg0028_01.Holds) => True) (by
  intro h
  w_on; o_law; k_head; (case hw => w_witness2)
  exact h))
end
end Mine
open PySem PySem.W PySem.Spec PySem.Calls PyProof.Rows
set_option Elab.async false
section
namespace Mine
def DropP (A : Type) (_ : Option A) : Prop := False
theorem dropI {P : Prop} (h : P) (_ : (T : Type) → T → False → False) : P := h
theorem dropT (h : False) (_ : Type) : False := h
abbrev Led := List (Addr × Obj)
abbrev PR : Program := PySem.Challenge.rw_rg0028_01.row.prog
def SpecV (w : World) (p : Program) (loose : List Str) (mean : ExcName → Option Value) (mg mb : Str → Option Value) (f : Addr) (args : List Value) (du uu : Nat)
    (Pre : Led → Prop) (Post : Value → Prop) : Prop :=
  ∀ (dp un : Nat) (gd : Option (List Code)) (cn : Str) (cs : Scope) (a : Addr) (ccd : Value) (cl : List (Str × Addr)) (outer : List Env) (A₀ : Around) (base h₀ : Heap) (L : Addr) (m : Str → Option Value) (news : Led) (s : Shared)
    (Q E : Value → Shared → Prop),
    Below A₀ base outer h₀ → Fr h₀ L s.heap m → (hd.heap_1_39 w.params).In h₀ → News h₀ L s.heap news → Top p loose mean mg mb h₀ → cs.kind = .function → Pre news → dp + du < recursionLimit → un + uu < cLine →
    (∀ r h' tk', Fr h₀ L h' m → News h₀ L h' news → Post r → Q r { s with heap := h', toks := tk' }) →
    wpAny (model PR w) (ktrTop dp un gd cn cs L a ccd cl outer) (call (.ref f) args) Q E s
theorem specV_use {w : World} {p : Program} {loose : List Str} {mean : ExcName → Option Value} {mg mb : Str → Option Value} {f : Addr} {args : List Value} {du uu : Nat}
    {Pre : Led → Prop} {Post : Value → Prop} {dp un : Nat} {gd : Option (List Code)} {cn : Str} {cs : Scope} {a : Addr} {ccd : Value} {cl : List (Str × Addr)} {outer : List Env} {A₀ : Around} {base h₀ : Heap} {L : Addr} {m : Str → Option Value} {news : Led} {s : Shared}
    {Q E : Value → Shared → Prop} (S : SpecV w p loose mean mg mb f args du uu Pre Post)
    (B : Below A₀ base outer h₀) (F : Fr h₀ L s.heap m) (X : (hd.heap_1_39 w.params).In h₀) (N : News h₀ L s.heap news) (T : Top p loose mean mg mb h₀) (hk : cs.kind = .function) (hP : Pre news) (hd : dp + du < recursionLimit) (hu : un + uu < cLine)
    (ret : ∀ r h' tk', Fr h₀ L h' m → News h₀ L h' news → Post r → Q r { s with heap := h', toks := tk' }) :
    wpAny (model PR w) (ktrTop dp un gd cn cs L a ccd cl outer) (call (.ref f) args) Q E s := S _ _ _ _ _ _ _ _ _ _ _ _ _ _ _ _ _ _ B F X N T hk hP hd hu ret
theorem specV_useE {w : World} {p : Program} {loose : List Str} {mean : ExcName → Option Value} {mg mb : Str → Option Value} {f : Addr} {args : List Value} {du uu : Nat}
    {Pre : Led → Prop} {v : Value} {dp un : Nat} {gd : Option (List Code)} {cn : Str} {cs : Scope} {a : Addr} {ccd : Value} {cl : List (Str × Addr)} {outer : List Env} {A₀ : Around} {base h₀ : Heap} {L : Addr} {m : Str → Option Value} {news : Led} {s : Shared}
    {Q E : Value → Shared → Prop} (S : SpecV w p loose mean mg mb f args du uu Pre (fun r => r = v))
    (B : Below A₀ base outer h₀) (F : Fr h₀ L s.heap m) (X : (hd.heap_1_39 w.params).In h₀) (N : News h₀ L s.heap news) (T : Top p loose mean mg mb h₀) (hk : cs.kind = .function) (hP : Pre news) (hd : dp + du < recursionLimit) (hu : un + uu < cLine)
    (ret : ∀ h' tk', Fr h₀ L h' m → News h₀ L h' news → Q v { s with heap := h', toks := tk' }) :
    wpAny (model PR w) (ktrTop dp un gd cn cs L a ccd cl outer) (call (.ref f) args) Q E s := S _ _ _ _ _ _ _ _ _ _ _ _ _ _ _ _ _ _ B F X N T hk hP hd hu fun _ h' tk' F' N' e => e ▸ ret h' tk' F' N'
def SpecO (w : World) (p : Program) (loose : List Str) (mean : ExcName → Option Value) (mg mb : Str → Option Value) (f : Addr) (args : List Value) (du uu : Nat)
    (Pre : Led → Prop) (Post : Led → Value → Prop) : Prop :=
  ∀ (dp un : Nat) (gd : Option (List Code)) (cn : Str) (cs : Scope) (a : Addr) (ccd : Value) (cl : List (Str × Addr)) (outer : List Env) (A₀ : Around) (base h₀ : Heap) (L : Addr) (m : Str → Option Value) (news : Led) (s : Shared)
    (Q E : Value → Shared → Prop),
    Below A₀ base outer h₀ → Fr h₀ L s.heap m → (hd.heap_1_39 w.params).In h₀ → News h₀ L s.heap news → Top p loose mean mg mb h₀ → cs.kind = .function → Pre news → dp + du < recursionLimit → un + uu < cLine →
    (∀ r tl h' tk', Fr h₀ L h' m → News h₀ L h' (tl ++ news) → (∀ q ∈ news, ∀ p ∈ tl, @LT.lt Nat _ q.1 p.1) → Post (tl ++ news) r → Q r { s with heap := h', toks := tk' }) →
    wpAny (model PR w) (ktrTop dp un gd cn cs L a ccd cl outer) (call (.ref f) args) Q E s
theorem specO_use {w : World} {p : Program} {loose : List Str} {mean : ExcName → Option Value} {mg mb : Str → Option Value} {f : Addr} {args : List Value} {du uu : Nat}
    {Pre : Led → Prop} {Post : Led → Value → Prop} {dp un : Nat} {gd : Option (List Code)} {cn : Str} {cs : Scope} {a : Addr} {ccd : Value} {cl : List (Str × Addr)} {outer : List Env} {A₀ : Around} {base h₀ : Heap} {L : Addr} {m : Str → Option Value} {news : Led} {s : Shared}
    {Q E : Value → Shared → Prop} (S : SpecO w p loose mean mg mb f args du uu Pre Post)
    (B : Below A₀ base outer h₀) (F : Fr h₀ L s.heap m) (X : (hd.heap_1_39 w.params).In h₀) (N : News h₀ L s.heap news) (T : Top p loose mean mg mb h₀) (hk : cs.kind = .function) (hP : Pre news) (hd : dp + du < recursionLimit) (hu : un + uu < cLine)
    (ret : ∀ r tl h' tk', Fr h₀ L h' m → News h₀ L h' (tl ++ news) → (∀ q ∈ news, ∀ p ∈ tl, @LT.lt Nat _ q.1 p.1) → Post (tl ++ news) r → Q r { s with heap := h', toks := tk' }) :
    wpAny (model PR w) (ktrTop dp un gd cn cs L a ccd cl outer) (call (.ref f) args) Q E s := S _ _ _ _ _ _ _ _ _ _ _ _ _ _ _ _ _ _ B F X N T hk hP hd hu ret
theorem news_sub {h₀ h : Heap} {L : Addr} {news news' : Led} (N : News h₀ L h news') (hs : ∀ p ∈ news, p ∈ news') : News h₀ L h news := fun p hp => N p (hs p hp)
theorem specV_cases {w : World} {p : Program} {loose : List Str} {mean : ExcName → Option Value} {mg mb : Str → Option Value} {f : Addr} {args : List Value} {du uu : Nat} {Pre : Led → Prop} {Post : Value → Prop}
    (h : ∀ news, Pre news → ∃ Pre' du' uu', Pre' news ∧ du' ≤ du ∧ uu' ≤ uu ∧ SpecV w p loose mean mg mb f args du' uu' Pre' Post) : SpecV w p loose mean mg mb f args du uu Pre Post := by
 refine @dropI _ ?_ ?_
 ·
  intro dp un gd cn cs a ccd cl outer A₀ base h₀ L m news s Q E B F X N T hk hP hd hu ret
  obtain ⟨P', du', uu', hP', h1, h2, S⟩ := h news hP
  exact S dp un gd cn cs a ccd cl outer A₀ base h₀ L m news s Q E B F X N T hk hP' (by omega) (by omega) ret
 · intro T x h; refine dropT ?zB ?zA; simpa only using (h : DropP ?zA x); assumption
theorem specV_post {w : World} {p : Program} {loose : List Str} {mean : ExcName → Option Value} {mg mb : Str → Option Value} {f : Addr} {args : List Value} {du uu : Nat} {Pre : Led → Prop} {Post Post' : Value → Prop}
    (S : SpecV w p loose mean mg mb f args du uu Pre Post) (h : ∀ r, Post r → Post' r) : SpecV w p loose mean mg mb f args du uu Pre Post' := by
 refine @dropI _ ?_ ?_
 ·
  intro dp un gd cn cs a ccd cl outer A₀ base h₀ L m news s Q E B F X N T hk hP hd hu ret
  exact S dp un gd cn cs a ccd cl outer A₀ base h₀ L m news s Q E B F X N T hk hP hd hu fun r h' tk' F' N' hr => ret r h' tk' F' N' (h r hr)
 · intro T x h; refine dropT ?zB ?zA; simpa only using (h : DropP ?zA x); assumption
theorem and3 {A0 A1 A2 G : Prop} (h : A0 ∧ A1 ∧ A2) (k : A0 → A1 → A2 → G) : G := k h.1 h.2.1 h.2.2
theorem and4 {A0 A1 A2 A3 G : Prop} (h : A0 ∧ A1 ∧ A2 ∧ A3) (k : A0 → A1 → A2 → A3 → G) : G := k h.1 h.2.1 h.2.2.1 h.2.2.2
theorem and5 {A0 A1 A2 A3 A4 G : Prop} (h : A0 ∧ A1 ∧ A2 ∧ A3 ∧ A4) (k : A0 → A1 → A2 → A3 → A4 → G) : G := k h.1 h.2.1 h.2.2.1 h.2.2.2.1 h.2.2.2.2
theorem and6 {A0 A1 A2 A3 A4 A5 G : Prop} (h : A0 ∧ A1 ∧ A2 ∧ A3 ∧ A4 ∧ A5) (k : A0 → A1 → A2 → A3 → A4 → A5 → G) : G := k h.1 h.2.1 h.2.2.1 h.2.2.2.1 h.2.2.2.2.1 h.2.2.2.2.2
theorem and7 {A0 A1 A2 A3 A4 A5 A6 G : Prop} (h : A0 ∧ A1 ∧ A2 ∧ A3 ∧ A4 ∧ A5 ∧ A6) (k : A0 → A1 → A2 → A3 → A4 → A5 → A6 → G) : G := k h.1 h.2.1 h.2.2.1 h.2.2.2.1 h.2.2.2.2.1 h.2.2.2.2.2.1 h.2.2.2.2.2.2
theorem and8 {A0 A1 A2 A3 A4 A5 A6 A7 G : Prop} (h : A0 ∧ A1 ∧ A2 ∧ A3 ∧ A4 ∧ A5 ∧ A6 ∧ A7) (k : A0 → A1 → A2 → A3 → A4 → A5 → A6 → A7 → G) : G := k h.1 h.2.1 h.2.2.1 h.2.2.2.1 h.2.2.2.2.1 h.2.2.2.2.2.1 h.2.2.2.2.2.2.1 h.2.2.2.2.2.2.2
theorem and9 {A0 A1 A2 A3 A4 A5 A6 A7 A8 G : Prop} (h : A0 ∧ A1 ∧ A2 ∧ A3 ∧ A4 ∧ A5 ∧ A6 ∧ A7 ∧ A8) (k : A0 → A1 → A2 → A3 → A4 → A5 → A6 → A7 → A8 → G) : G := k h.1 h.2.1 h.2.2.1 h.2.2.2.1 h.2.2.2.2.1 h.2.2.2.2.2.1 h.2.2.2.2.2.2.1 h.2.2.2.2.2.2.2.1 h.2.2.2.2.2.2.2.2
theorem and10 {A0 A1 A2 A3 A4 A5 A6 A7 A8 A9 G : Prop} (h : A0 ∧ A1 ∧ A2 ∧ A3 ∧ A4 ∧ A5 ∧ A6 ∧ A7 ∧ A8 ∧ A9) (k : A0 → A1 → A2 → A3 → A4 → A5 → A6 → A7 → A8 → A9 → G) : G := k h.1 h.2.1 h.2.2.1 h.2.2.2.1 h.2.2.2.2.1 h.2.2.2.2.2.1 h.2.2.2.2.2.2.1 h.2.2.2.2.2.2.2.1 h.2.2.2.2.2.2.2.2.1 h.2.2.2.2.2.2.2.2.2
theorem and11 {A0 A1 A2 A3 A4 A5 A6 A7 A8 A9 A10 G : Prop} (h : A0 ∧ A1 ∧ A2 ∧ A3 ∧ A4 ∧ A5 ∧ A6 ∧ A7 ∧ A8 ∧ A9 ∧ A10) (k : A0 → A1 → A2 → A3 → A4 → A5 → A6 → A7 → A8 → A9 → A10 → G) : G := k h.1 h.2.1 h.2.2.1 h.2.2.2.1 h.2.2.2.2.1 h.2.2.2.2.2.1 h.2.2.2.2.2.2.1 h.2.2.2.2.2.2.2.1 h.2.2.2.2.2.2.2.2.1 h.2.2.2.2.2.2.2.2.2.1 h.2.2.2.2.2.2.2.2.2.2
theorem and12 {A0 A1 A2 A3 A4 A5 A6 A7 A8 A9 A10 A11 G : Prop} (h : A0 ∧ A1 ∧ A2 ∧ A3 ∧ A4 ∧ A5 ∧ A6 ∧ A7 ∧ A8 ∧ A9 ∧ A10 ∧ A11) (k : A0 → A1 → A2 → A3 → A4 → A5 → A6 → A7 → A8 → A9 → A10 → A11 → G) : G := k h.1 h.2.1 h.2.2.1 h.2.2.2.1 h.2.2.2.2.1 h.2.2.2.2.2.1 h.2.2.2.2.2.2.1 h.2.2.2.2.2.2.2.1 h.2.2.2.2.2.2.2.2.1 h.2.2.2.2.2.2.2.2.2.1 h.2.2.2.2.2.2.2.2.2.2.1 h.2.2.2.2.2.2.2.2.2.2.2
theorem and13 {A0 A1 A2 A3 A4 A5 A6 A7 A8 A9 A10 A11 A12 G : Prop} (h : A0 ∧ A1 ∧ A2 ∧ A3 ∧ A4 ∧ A5 ∧ A6 ∧ A7 ∧ A8 ∧ A9 ∧ A10 ∧ A11 ∧ A12) (k : A0 → A1 → A2 → A3 → A4 → A5 → A6 → A7 → A8 → A9 → A10 → A11 → A12 → G) : G := k h.1 h.2.1 h.2.2.1 h.2.2.2.1 h.2.2.2.2.1 h.2.2.2.2.2.1 h.2.2.2.2.2.2.1 h.2.2.2.2.2.2.2.1 h.2.2.2.2.2.2.2.2.1 h.2.2.2.2.2.2.2.2.2.1 h.2.2.2.2.2.2.2.2.2.2.1 h.2.2.2.2.2.2.2.2.2.2.2.1 h.2.2.2.2.2.2.2.2.2.2.2.2
theorem and14 {A0 A1 A2 A3 A4 A5 A6 A7 A8 A9 A10 A11 A12 A13 G : Prop} (h : A0 ∧ A1 ∧ A2 ∧ A3 ∧ A4 ∧ A5 ∧ A6 ∧ A7 ∧ A8 ∧ A9 ∧ A10 ∧ A11 ∧ A12 ∧ A13) (k : A0 → A1 → A2 → A3 → A4 → A5 → A6 → A7 → A8 → A9 → A10 → A11 → A12 → A13 → G) : G := k h.1 h.2.1 h.2.2.1 h.2.2.2.1 h.2.2.2.2.1 h.2.2.2.2.2.1 h.2.2.2.2.2.2.1 h.2.2.2.2.2.2.2.1 h.2.2.2.2.2.2.2.2.1 h.2.2.2.2.2.2.2.2.2.1 h.2.2.2.2.2.2.2.2.2.2.1 h.2.2.2.2.2.2.2.2.2.2.2.1 h.2.2.2.2.2.2.2.2.2.2.2.2.1 h.2.2.2.2.2.2.2.2.2.2.2.2.2
theorem and15 {A0 A1 A2 A3 A4 A5 A6 A7 A8 A9 A10 A11 A12 A13 A14 G : Prop} (h : A0 ∧ A1 ∧ A2 ∧ A3 ∧ A4 ∧ A5 ∧ A6 ∧ A7 ∧ A8 ∧ A9 ∧ A10 ∧ A11 ∧ A12 ∧ A13 ∧ A14) (k : A0 → A1 → A2 → A3 → A4 → A5 → A6 → A7 → A8 → A9 → A10 → A11 → A12 → A13 → A14 → G) : G := k h.1 h.2.1 h.2.2.1 h.2.2.2.1 h.2.2.2.2.1 h.2.2.2.2.2.1 h.2.2.2.2.2.2.1 h.2.2.2.2.2.2.2.1 h.2.2.2.2.2.2.2.2.1 h.2.2.2.2.2.2.2.2.2.1 h.2.2.2.2.2.2.2.2.2.2.1 h.2.2.2.2.2.2.2.2.2.2.2.1 h.2.2.2.2.2.2.2.2.2.2.2.2.1 h.2.2.2.2.2.2.2.2.2.2.2.2.2.1 h.2.2.2.2.2.2.2.2.2.2.2.2.2.2
theorem and16 {A0 A1 A2 A3 A4 A5 A6 A7 A8 A9 A10 A11 A12 A13 A14 A15 G : Prop} (h : A0 ∧ A1 ∧ A2 ∧ A3 ∧ A4 ∧ A5 ∧ A6 ∧ A7 ∧ A8 ∧ A9 ∧ A10 ∧ A11 ∧ A12 ∧ A13 ∧ A14 ∧ A15) (k : A0 → A1 → A2 → A3 → A4 → A5 → A6 → A7 → A8 → A9 → A10 → A11 → A12 → A13 → A14 → A15 → G) : G := k h.1 h.2.1 h.2.2.1 h.2.2.2.1 h.2.2.2.2.1 h.2.2.2.2.2.1 h.2.2.2.2.2.2.1 h.2.2.2.2.2.2.2.1 h.2.2.2.2.2.2.2.2.1 h.2.2.2.2.2.2.2.2.2.1 h.2.2.2.2.2.2.2.2.2.2.1 h.2.2.2.2.2.2.2.2.2.2.2.1 h.2.2.2.2.2.2.2.2.2.2.2.2.1 h.2.2.2.2.2.2.2.2.2.2.2.2.2.1 h.2.2.2.2.2.2.2.2.2.2.2.2.2.2.1 h.2.2.2.2.2.2.2.2.2.2.2.2.2.2.2
theorem and17 {A0 A1 A2 A3 A4 A5 A6 A7 A8 A9 A10 A11 A12 A13 A14 A15 A16 G : Prop} (h : A0 ∧ A1 ∧ A2 ∧ A3 ∧ A4 ∧ A5 ∧ A6 ∧ A7 ∧ A8 ∧ A9 ∧ A10 ∧ A11 ∧ A12 ∧ A13 ∧ A14 ∧ A15 ∧ A16) (k : A0 → A1 → A2 → A3 → A4 → A5 → A6 → A7 → A8 → A9 → A10 → A11 → A12 → A13 → A14 → A15 → A16 → G) : G := k h.1 h.2.1 h.2.2.1 h.2.2.2.1 h.2.2.2.2.1 h.2.2.2.2.2.1 h.2.2.2.2.2.2.1 h.2.2.2.2.2.2.2.1 h.2.2.2.2.2.2.2.2.1 h.2.2.2.2.2.2.2.2.2.1 h.2.2.2.2.2.2.2.2.2.2.1 h.2.2.2.2.2.2.2.2.2.2.2.1 h.2.2.2.2.2.2.2.2.2.2.2.2.1 h.2.2.2.2.2.2.2.2.2.2.2.2.2.1 h.2.2.2.2.2.2.2.2.2.2.2.2.2.2.1 h.2.2.2.2.2.2.2.2.2.2.2.2.2.2.2.1 h.2.2.2.2.2.2.2.2.2.2.2.2.2.2.2.2
theorem and18 {A0 A1 A2 A3 A4 A5 A6 A7 A8 A9 A10 A11 A12 A13 A14 A15 A16 A17 G : Prop} (h : A0 ∧ A1 ∧ A2 ∧ A3 ∧ A4 ∧ A5 ∧ A6 ∧ A7 ∧ A8 ∧ A9 ∧ A10 ∧ A11 ∧ A12 ∧ A13 ∧ A14 ∧ A15 ∧ A16 ∧ A17) (k : A0 → A1 → A2 → A3 → A4 → A5 → A6 → A7 → A8 → A9 → A10 → A11 → A12 → A13 → A14 → A15 → A16 → A17 → G) : G := k h.1 h.2.1 h.2.2.1 h.2.2.2.1 h.2.2.2.2.1 h.2.2.2.2.2.1 h.2.2.2.2.2.2.1 h.2.2.2.2.2.2.2.1 h.2.2.2.2.2.2.2.2.1 h.2.2.2.2.2.2.2.2.2.1 h.2.2.2.2.2.2.2.2.2.2.1 h.2.2.2.2.2.2.2.2.2.2.2.1 h.2.2.2.2.2.2.2.2.2.2.2.2.1 h.2.2.2.2.2.2.2.2.2.2.2.2.2.1 h.2.2.2.2.2.2.2.2.2.2.2.2.2.2.1 h.2.2.2.2.2.2.2.2.2.2.2.2.2.2.2.1 h.2.2.2.2.2.2.2.2.2.2.2.2.2.2.2.2.1 h.2.2.2.2.2.2.2.2.2.2.2.2.2.2.2.2.2
theorem sealG {G : Prop} (h : ∀ P : Prop, (G → P) → P) : G := h G id
theorem sub_at {A B : Led} {p : Addr × Obj} (hp : p ∈ A) (h : ∀ p ∈ A, p ∈ B) : p ∈ B := h p hp
section
variable {d a : Nat} {o : Obj} {l : Led} {x0 x1 x2 x3 x4 x5 x6 x7 x8 x9 x10 x11 x12 x13 x14 : Addr × Obj}
theorem asm_all {q : Addr × Obj} (h : ∀ p ∈ l, @LT.lt Nat _ p.1 d) (hq : q ∈ l) : @LT.lt Nat _ q.1 d := h q hq
theorem ord_nil : ∀ q ∈ l, ∀ p ∈ ([] : Led), @LT.lt Nat _ q.1 p.1 := fun _ _ _ h => nomatch h
theorem ord_cons {tl : Led} (h : ∀ q ∈ l, @LT.lt Nat _ q.1 a) (k : ∀ q ∈ l, ∀ p ∈ tl, @LT.lt Nat _ q.1 p.1) : ∀ q ∈ l, ∀ p ∈ (a, o) :: tl, @LT.lt Nat _ q.1 p.1 := by
  intro q hq p hp
  rcases List.mem_cons.mp hp with rfl | hp
  · exact h q hq
  · exact k q hq p hp
theorem mm0 {x : Addr × Obj} : x ∈ (x :: l : Led) := List.Mem.head _
theorem mm1 {x : Addr × Obj} : x ∈ (x0 :: x :: l : Led) := List.mem_cons_of_mem _ mm0
theorem mm2 {x : Addr × Obj} : x ∈ (x0 :: x1 :: x :: l : Led) := List.mem_cons_of_mem _ mm1
theorem mm3 {x : Addr × Obj} : x ∈ (x0 :: x1 :: x2 :: x :: l : Led) := List.mem_cons_of_mem _ mm2
theorem mm4 {x : Addr × Obj} : x ∈ (x0 :: x1 :: x2 :: x3 :: x :: l : Led) := List.mem_cons_of_mem _ mm3
theorem mm5 {x : Addr × Obj} : x ∈ (x0 :: x1 :: x2 :: x3 :: x4 :: x :: l : Led) := List.mem_cons_of_mem _ mm4
theorem mm6 {x : Addr × Obj} : x ∈ (x0 :: x1 :: x2 :: x3 :: x4 :: x5 :: x :: l : Led) := List.mem_cons_of_mem _ mm5
theorem mm7 {x : Addr × Obj} : x ∈ (x0 :: x1 :: x2 :: x3 :: x4 :: x5 :: x6 :: x :: l : Led) := List.mem_cons_of_mem _ mm6
theorem mm8 {x : Addr × Obj} : x ∈ (x0 :: x1 :: x2 :: x3 :: x4 :: x5 :: x6 :: x7 :: x :: l : Led) := List.mem_cons_of_mem _ mm7
theorem mm9 {x : Addr × Obj} : x ∈ (x0 :: x1 :: x2 :: x3 :: x4 :: x5 :: x6 :: x7 :: x8 :: x :: l : Led) := List.mem_cons_of_mem _ mm8
theorem mm10 {x : Addr × Obj} : x ∈ (x0 :: x1 :: x2 :: x3 :: x4 :: x5 :: x6 :: x7 :: x8 :: x9 :: x :: l : Led) := List.mem_cons_of_mem _ mm9
theorem mm11 {x : Addr × Obj} : x ∈ (x0 :: x1 :: x2 :: x3 :: x4 :: x5 :: x6 :: x7 :: x8 :: x9 :: x10 :: x :: l : Led) := List.mem_cons_of_mem _ mm10
theorem mm12 {x : Addr × Obj} : x ∈ (x0 :: x1 :: x2 :: x3 :: x4 :: x5 :: x6 :: x7 :: x8 :: x9 :: x10 :: x11 :: x :: l : Led) := List.mem_cons_of_mem _ mm11
theorem mm13 {x : Addr × Obj} : x ∈ (x0 :: x1 :: x2 :: x3 :: x4 :: x5 :: x6 :: x7 :: x8 :: x9 :: x10 :: x11 :: x12 :: x :: l : Led) := List.mem_cons_of_mem _ mm12
def InK (a : Nat) (l : Led) : Prop := ∃ o : Obj, (a, o) ∈ l
theorem ink0 : InK a ((a, o) :: l) := ⟨o, List.Mem.head _⟩
theorem ink1 : InK a (x0 :: (a, o) :: l) := ⟨o, mm1⟩
theorem ink2 : InK a (x0 :: x1 :: (a, o) :: l) := ⟨o, mm2⟩
theorem ink3 : InK a (x0 :: x1 :: x2 :: (a, o) :: l) := ⟨o, mm3⟩
theorem ink4 : InK a (x0 :: x1 :: x2 :: x3 :: (a, o) :: l) := ⟨o, mm4⟩
theorem ink5 : InK a (x0 :: x1 :: x2 :: x3 :: x4 :: (a, o) :: l) := ⟨o, mm5⟩
theorem ink6 : InK a (x0 :: x1 :: x2 :: x3 :: x4 :: x5 :: (a, o) :: l) := ⟨o, mm6⟩
theorem ink7 : InK a (x0 :: x1 :: x2 :: x3 :: x4 :: x5 :: x6 :: (a, o) :: l) := ⟨o, mm7⟩
theorem ink8 : InK a (x0 :: x1 :: x2 :: x3 :: x4 :: x5 :: x6 :: x7 :: (a, o) :: l) := ⟨o, mm8⟩
theorem ink9 : InK a (x0 :: x1 :: x2 :: x3 :: x4 :: x5 :: x6 :: x7 :: x8 :: (a, o) :: l) := ⟨o, mm9⟩
theorem ink10 : InK a (x0 :: x1 :: x2 :: x3 :: x4 :: x5 :: x6 :: x7 :: x8 :: x9 :: (a, o) :: l) := ⟨o, mm10⟩
theorem ink11 : InK a (x0 :: x1 :: x2 :: x3 :: x4 :: x5 :: x6 :: x7 :: x8 :: x9 :: x10 :: (a, o) :: l) := ⟨o, mm11⟩
theorem ink12 : InK a (x0 :: x1 :: x2 :: x3 :: x4 :: x5 :: x6 :: x7 :: x8 :: x9 :: x10 :: x11 :: (a, o) :: l) := ⟨o, mm12⟩
theorem ink13 : InK a (x0 :: x1 :: x2 :: x3 :: x4 :: x5 :: x6 :: x7 :: x8 :: x9 :: x10 :: x11 :: x12 :: (a, o) :: l) := ⟨o, mm13⟩
theorem ink14 : InK a (x0 :: x1 :: x2 :: x3 :: x4 :: x5 :: x6 :: x7 :: x8 :: x9 :: x10 :: x11 :: x12 :: x13 :: (a, o) :: l) := ⟨o, List.mem_cons_of_mem _ mm13⟩
theorem ltm (h : AllLt d l) (k : InK a l) : @LT.lt Nat _ a d := k.elim fun _ m => tb_ltOf h _ m
theorem nem (h : AllLt d l) (k : InK a l) : @Ne Nat a d := Nat.ne_of_lt (ltm h k)
theorem enm (h : AllLt d l) (k : InK a l) : @Ne Nat d a := Nat.ne_of_gt (ltm h k)
theorem lnm {q : Addr × Obj} (h : AllLt d l) (m : q ∈ l) : @LT.lt Nat _ q.1 d := tb_ltOf h q m
theorem mn1 {q : Addr × Obj} (h : q ∈ l) : q ∈ (x0 :: l : Led) := List.mem_cons_of_mem _ h
theorem mn2 {q : Addr × Obj} (h : q ∈ l) : q ∈ (x0 :: x1 :: l : Led) := List.mem_cons_of_mem _ (mn1 h)
theorem mn3 {q : Addr × Obj} (h : q ∈ l) : q ∈ (x0 :: x1 :: x2 :: l : Led) := List.mem_cons_of_mem _ (mn2 h)
theorem mn4 {q : Addr × Obj} (h : q ∈ l) : q ∈ (x0 :: x1 :: x2 :: x3 :: l : Led) := List.mem_cons_of_mem _ (mn3 h)
theorem mn5 {q : Addr × Obj} (h : q ∈ l) : q ∈ (x0 :: x1 :: x2 :: x3 :: x4 :: l : Led) := List.mem_cons_of_mem _ (mn4 h)
theorem mn6 {q : Addr × Obj} (h : q ∈ l) : q ∈ (x0 :: x1 :: x2 :: x3 :: x4 :: x5 :: l : Led) := List.mem_cons_of_mem _ (mn5 h)
theorem mn7 {q : Addr × Obj} (h : q ∈ l) : q ∈ (x0 :: x1 :: x2 :: x3 :: x4 :: x5 :: x6 :: l : Led) := List.mem_cons_of_mem _ (mn6 h)
theorem mn8 {q : Addr × Obj} (h : q ∈ l) : q ∈ (x0 :: x1 :: x2 :: x3 :: x4 :: x5 :: x6 :: x7 :: l : Led) := List.mem_cons_of_mem _ (mn7 h)
theorem mn9 {q : Addr × Obj} (h : q ∈ l) : q ∈ (x0 :: x1 :: x2 :: x3 :: x4 :: x5 :: x6 :: x7 :: x8 :: l : Led) := List.mem_cons_of_mem _ (mn8 h)
theorem mn10 {q : Addr × Obj} (h : q ∈ l) : q ∈ (x0 :: x1 :: x2 :: x3 :: x4 :: x5 :: x6 :: x7 :: x8 :: x9 :: l : Led) := List.mem_cons_of_mem _ (mn9 h)
theorem mn11 {q : Addr × Obj} (h : q ∈ l) : q ∈ (x0 :: x1 :: x2 :: x3 :: x4 :: x5 :: x6 :: x7 :: x8 :: x9 :: x10 :: l : Led) := List.mem_cons_of_mem _ (mn10 h)
theorem mn12 {q : Addr × Obj} (h : q ∈ l) : q ∈ (x0 :: x1 :: x2 :: x3 :: x4 :: x5 :: x6 :: x7 :: x8 :: x9 :: x10 :: x11 :: l : Led) := List.mem_cons_of_mem _ (mn11 h)
theorem mn13 {q : Addr × Obj} (h : q ∈ l) : q ∈ (x0 :: x1 :: x2 :: x3 :: x4 :: x5 :: x6 :: x7 :: x8 :: x9 :: x10 :: x11 :: x12 :: l : Led) := List.mem_cons_of_mem _ (mn12 h)
theorem mn14 {q : Addr × Obj} (h : q ∈ l) : q ∈ (x0 :: x1 :: x2 :: x3 :: x4 :: x5 :: x6 :: x7 :: x8 :: x9 :: x10 :: x11 :: x12 :: x13 :: l : Led) := List.mem_cons_of_mem _ (mn13 h)
end
section
variable {dp a k un : Nat}
theorem rm00 (h : dp + a < recursionLimit) : dp < recursionLimit := Nat.lt_of_le_of_lt (Nat.le_add_right _ _) h
theorem rmk (h : dp + a < recursionLimit) (e : k.ble a = true) : dp + k < recursionLimit := Nat.lt_of_le_of_lt (Nat.add_le_add_left (Nat.le_of_ble_eq_true e) _) h
theorem rm1k (h : dp + a < recursionLimit) (e : (1 + k).ble a = true) : dp + 1 + k < recursionLimit := by rw [Nat.add_assoc]; exact rmk h e
theorem ut00 (h : un + a < cLine) : un < cLine := Nat.lt_of_le_of_lt (Nat.le_add_right _ _) h
theorem utk (h : un + a < cLine) (e : k.ble a = true) : un + k < cLine := Nat.lt_of_le_of_lt (Nat.add_le_add_left (Nat.le_of_ble_eq_true e) _) h
theorem ut3 (h : un + a < cLine) (e : (3 + k).ble a = true) : un + 3 + k < cLine := by rw [Nat.add_assoc]; exact utk h e
theorem ut6 (h : un + a < cLine) (e : (3 + (3 + k)).ble a = true) : un + 3 + 3 + k < cLine := by rw [Nat.add_assoc]; exact ut3 h e
theorem ut9 (h : un + a < cLine) (e : (3 + (3 + (3 + k))).ble a = true) : un + 3 + 3 + 3 + k < cLine := by rw [Nat.add_assoc]; exact ut6 h e
end
theorem lo1 {L d : Nat} (h : L + 3 < d) : L + 1 < d := Nat.lt_trans (Nat.lt_add_of_pos_right (n := L + 1) (k := 2) (by decide)) h
theorem lo2 {L d : Nat} (h : L + 3 < d) : L + 2 < d := Nat.lt_trans (Nat.lt_succ_self _) h
theorem lo5 {c L d : Nat} (h : L + 3 < d) (h5 : c < L) : c < d := Nat.lt_trans h5 (Nat.lt_of_le_of_lt (Nat.le_add_right L 3) h)
theorem dec_lt {i n : Nat} (h : i < n) : n + 1 - (i + 1) < n + 1 - i := by omega
theorem neF {a d : Addr} {o : Obj} (h : @Ne Nat a d) : (a, o).1 ≠ d := h
theorem le_c1 {a c d : Nat} (h : a ≤ c) (e : c.ble d = true) : a ≤ d := Nat.le_trans h (Nat.le_of_ble_eq_true e)
theorem le_c2 {a b c d : Nat} (h : a = b) (h2 : b ≤ c) (e : c.ble d = true) : a ≤ d := h ▸ le_c1 h2 e
theorem rmc {a : Nat} (e : (a + 1).ble recursionLimit = true) : a < recursionLimit := Nat.le_of_ble_eq_true e
theorem utc {a : Nat} (e : (a + 1).ble cLine = true) : a < cLine := Nat.le_of_ble_eq_true e
theorem nin_nil {a : Addr} : a ∉ ([] : List Addr) := fun h => nomatch h
theorem nin_cons {a x : Addr} {l : List Addr} (h : @Ne Nat a x) (k : a ∉ l) : a ∉ x :: l := fun q => (List.mem_cons.mp q).elim h k
theorem nin_hd {a x : Addr} {l : List Addr} (h : a ∉ x :: l) : @Ne Nat a x := fun e => h (e ▸ List.mem_cons_self)
theorem nin_tl {a x : Addr} {l : List Addr} (h : a ∉ x :: l) : a ∉ l := fun e => h (List.mem_cons_of_mem _ e)
theorem sub_nil {B : Led} : ∀ p ∈ ([] : Led), p ∈ B := fun _ h => nomatch h
theorem sub_cons {x : Addr × Obj} {l B : Led} (h : x ∈ B) (k : ∀ p ∈ l, p ∈ B) : ∀ p ∈ x :: l, p ∈ B := fun p hp => (List.mem_cons.mp hp).elim (fun e => e ▸ h) (k p)
theorem nea_cons {a d : Addr} {o : Obj} {l : Led} (h : @Ne Nat a d) (k : ∀ p ∈ l, p.1 ≠ d) : ∀ p ∈ (a, o) :: l, p.1 ≠ d := fun p hp => (List.mem_cons.mp hp).elim (fun e => e ▸ h) (k p)
theorem mem0 {a : Str} {l : List Str} : a ∈ a :: l := List.mem_cons_self
abbrev tupO (vs : List Value) (n : Nat := 0) : Obj := { cls := .type "tuple", data := .seq vs.toArray n }
abbrev lstO (vs : List Value) (n : Nat := 0) : Obj := { cls := .type "list", data := .seq vs.toArray n }
inductive Part where
  | num (i : Int)
  | obj
  | disc
  deriving DecidableEq
def Part.isDisc : Part → Bool
  | .disc => true
  | _ => false
def PartAt (W : Addr) (news : Led) (v : Value) : Part → Prop
  | .num i => ∃ t, v = .int i t
  | .obj => ∃ a n t t' t2, v = .ref a ∧ (a, tupO [.str "obj" t, .ref W, .int 0 t2, .str "n" t'] n) ∈ news
  | .disc => ∃ a n t t', v = .ref a ∧ (a, tupO [.str "disc" t, .ref W, .str "e" t'] n) ∈ news
inductive PairAt (W : Addr) (news : Led) (v : Value) (q : Str × Part) : Prop
  | mk (a n t pv : _) (c09 : v = .ref a) (c19 : (a, tupO [.str q.1 t, pv] n) ∈ news) (c29 : PartAt W news pv q.2)
inductive All2 {α β : Type} (R : α → β → Prop) : List α → List β → Prop
  | nil : All2 R [] []
  | cons {a b l₁ l₂} : R a b → All2 R l₁ l₂ → All2 R (a :: l₁) (b :: l₂)
theorem All2.length {α β : Type} {R : α → β → Prop} {l₁ : List α} {l₂ : List β} (h : All2 R l₁ l₂) : l₁.length = l₂.length := by
  induction h with
  | nil => rfl
  | cons _ _ ih => exact congrArg (· + 1) ih
theorem All2.imp {α β : Type} {R R' : α → β → Prop} (h : ∀ a b, R a b → R' a b) {l₁ : List α} {l₂ : List β} (t : All2 R l₁ l₂) : All2 R' l₁ l₂ := by
  induction t with
  | nil => exact .nil
  | cons x _ ih => exact .cons (h _ _ x) ih
theorem All2.get {α β : Type} {R : α → β → Prop} {l₁ : List α} {l₂ : List β} {i : Nat} {a : α} (t : All2 R l₁ l₂) (e : l₁[i]? = some a) : ∃ b, l₂[i]? = some b ∧ R a b := by
  induction t generalizing i with
  | nil => exact nomatch e
  | cons x _ ih =>
    cases i with
    | zero => cases e; exact ⟨_, rfl, x⟩
    | succ i => exact ih e
theorem All2.snoc {α β : Type} {R : α → β → Prop} {a : α} {b : β} {l₁ : List α} {l₂ : List β} (t : All2 R l₁ l₂) (h : R a b) : All2 R (l₁ ++ [a]) (l₂ ++ [b]) := by
  induction t with
  | nil => exact .cons h .nil
  | cons x _ ih => exact .cons x ih
inductive PairsAt (W : Addr) (news : Led) (v : Value) (ps : List (Str × Part)) : Prop
  | mk (l n vs : _) (c09 : v = .ref l) (c19 : (l, lstO vs n) ∈ news) (c29 : All2 (PairAt W news) vs ps)
inductive ConAt (W : Addr) (news : Led) (v : Value) (ps : List (Str × Part)) : Prop
  | mk (a n t lv : _) (c09 : v = .ref a) (c19 : (a, tupO [.str "discs" t, lv] n) ∈ news) (c29 : PairsAt W news lv ps)
abbrev Inst (news : Led) (x C d : Addr) (es : List DictEntry) (n : Nat) : Prop := (x, instObj C d) ∈ news ∧ (d, dictOf es n) ∈ news
section
variable {W : Addr} {l l' : Led} (hs : ∀ q ∈ l, q ∈ l')
include hs
theorem PartAt.mono {v : Value} {x : Part} (h : PartAt W l v x) : PartAt W l' v x := by
  cases x with
  | num _ => exact h
  | obj => obtain ⟨a, n, t, t', t2, e, h⟩ := h; exact ⟨a, n, t, t', t2, e, hs _ h⟩
  | disc => obtain ⟨a, n, t, t', e, h⟩ := h; exact ⟨a, n, t, t', e, hs _ h⟩
theorem PairAt.mono {v : Value} {q : Str × Part} (h : PairAt W l v q) : PairAt W l' v q := by obtain ⟨a, n, t, pv, e, h1, h2⟩ := h; exact ⟨a, n, t, pv, e, hs _ h1, h2.mono hs⟩
theorem PairsAt.mono {v : Value} {ps : List (Str × Part)} (h : PairsAt W l v ps) : PairsAt W l' v ps := by obtain ⟨a, n, vs, e, h1, h2⟩ := h; exact ⟨a, n, vs, e, hs _ h1, h2.imp fun _ _ x => x.mono hs⟩
theorem ConAt.mono {v : Value} {ps : List (Str × Part)} (h : ConAt W l v ps) : ConAt W l' v ps := by obtain ⟨a, n, t, lv, e, h1, h2⟩ := h; exact ⟨a, n, t, lv, e, hs _ h1, h2.mono hs⟩
end
end Mine
end
open PySem PySem.W PySem.Spec PySem.Calls PyProof.Rows
set_option Elab.async false
set_option maxRecDepth 100000
set_option maxHeartbeats 4000000
namespace Mine
section
variable {w : World} {p : Program} {loose : List Str} {mean : ExcName → Option Value} {mg mb : Str → Option Value}
def upm (a : Str) (v : Value) (D : Str → Option Value) : Str → Option Value := fun x => bif x == a then some v else D x
def emm : Str → Option Value := fun _ => none
structure IsMap (es : List DictEntry) (D : Str → Option Value) (k : Nat) : Prop where
  get : ∀ x, (es.find? (·.key.isStr x)).map (·.val) = D x
  noref : es.any (·.refKey) = false
  len : es.length ≤ k
theorem IsMap.getL {es : List DictEntry} {D : Str → Option Value} {k : Nat} (h : IsMap es D k) (x : Str) : PySem.W.getL x es = some (D x) := by
  have := h.get x
  unfold PySem.W.getL
  rw [h.noref]
  cases hf : es.find? (·.key.isStr x) <;> rw [hf] at this <;> simp at this <;> simp [this]
theorem IsMap.at {es : List DictEntry} {D : Str → Option Value} {k : Nat} {x : Str} {v : Value} (h : IsMap es D k) (e : D x = some v) : PySem.W.getL x es = some (some v) := by rw [h.getL, e]
theorem IsMap.le {es : List DictEntry} {D : Str → Option Value} {k n : Nat} (h : IsMap es D k) (e : k.ble n = true) : es.length ≤ n := Nat.le_trans h.len (Nat.le_of_ble_eq_true e)
theorem IsMap.nil : IsMap [] emm 0 := ⟨fun _ => rfl, rfl, Nat.le_refl _⟩
theorem upm_hit {a : Str} {v : Value} {D : Str → Option Value} : upm a v D a = some v := by unfold upm; simp
theorem upm_miss {a x : Str} {v u : Value} {D : Str → Option Value} (h : (x == a) = false) (e : D x = some u) : upm a v D x = some u := by unfold upm; rw [h]; exact e
theorem put_find {a x : Str} {hs : Int} {tk : Tok} {v : Value} : ∀ es : List DictEntry,
    ((putL a hs (.str a tk) v es).find? (·.key.isStr x)).map (·.val) = bif x == a then some v else (es.find? (·.key.isStr x)).map (·.val)
  | [] => by
    unfold putL
    by_cases h : x = a
    · subst h; simp [Value.isStr, List.find?]
    · have h' : (a == x) = false := by simpa using fun e : a = x => h e.symm
      have hb : (x == a) = false := by simpa using h
      simp [Value.isStr, List.find?, hb, h']
  | d :: r => by
    unfold putL
    by_cases hd : d.key.isStr a = true
    · rw [if_pos hd]
      by_cases h : x = a
      · subst h; simp [List.find?, hd]
      · have hx : d.key.isStr x = false := by
          cases hk : d.key <;> rw [hk] at hd <;> simp [Value.isStr] at hd ⊢
          rw [hd]; exact fun e => h e.symm
        have hb : (x == a) = false := by simpa using h
        simp [List.find?, hx, hb]
    · rw [if_neg hd]
      by_cases hx : d.key.isStr x = true
      · have h : x ≠ a := fun e => hd (e ▸ hx)
        have hb : (x == a) = false := by simpa using h
        simp [List.find?, hx, hb]
      · have ih := put_find (a := a) (x := x) (hs := hs) (tk := tk) (v := v) r
        simp only [Bool.not_eq_true] at hx
        simp only [List.find?, hx, ih]
theorem put_noref {a : Str} {hs : Int} {tk : Tok} {v : Value} : ∀ es : List DictEntry, (putL a hs (.str a tk) v es).any (·.refKey) = es.any (·.refKey)
  | [] => rfl
  | d :: r => by
    unfold putL
    by_cases hd : d.key.isStr a = true
    · rw [if_pos hd]; rfl
    · rw [if_neg hd, List.any_cons, List.any_cons, put_noref r]
theorem put_len {a : Str} {hs : Int} {key v : Value} : ∀ es : List DictEntry, (putL a hs key v es).length ≤ es.length + 1
  | [] => Nat.le_refl _
  | d :: r => by
    unfold putL
    split
    · exact Nat.le_succ _
    · exact Nat.succ_le_succ (put_len r)
theorem IsMap.put {es : List DictEntry} {D : Str → Option Value} {k : Nat} (h : IsMap es D k) {a : Str} {hs : Int} {tk : Tok} {v : Value} : IsMap (putL a hs (.str a tk) v es) (upm a v D) (k + 1) :=
  ⟨fun x => by rw [put_find, h.get]; rfl, by rw [put_noref]; exact h.noref, Nat.le_trans (put_len es) (Nat.succ_le_succ h.len)⟩
theorem ne_all {d : Addr} {l : Led} (h : ∀ p ∈ l, @LT.lt Nat _ p.1 d) : ∀ p ∈ l, p.1 ≠ d := fun p hp => Nat.ne_of_lt (h p hp)
theorem UpdF.to {d : Addr} {o o' : Obj} {l : Led} {g : Obj → Led} (u : UpdF d o l g) : Upd d o o' l (g o') := by
  induction u with
  | head h => exact .head h
  | tail h _ ih => exact .tail h ih
section
variable {prog : Program} {A : Around} {E : Value → Shared → Prop} {s : Shared} {K : Frag} {x C dx L : Addr} {h₀ : Heap} {m : Str → Option Value} {news : Led} {g : Obj → Led} {es : List DictEntry} {n k : Nat} {name : Str} {v : Value} {D : Str → Option Value}
theorem set_map {Q : Unit → Shared → Prop} (F : Fr h₀ L s.heap m) (X₀ : K.In h₀) (N : News h₀ L s.heap news) (hx : (x, instObj C dx) ∈ news) (hdx : (dx, dictOf es n) ∈ news) (hM : IsMap es D k)
    (hs : (findIn K (.ref C) "__setattr__" == some (some (.builtin "object.__setattr__")) && plainOver K C && takerIn K C name == some none && hasDictIn K C) = true)
    (U : UpdF dx (dictOf es n) news g) (hz : k.ble 900 = true)
    (h : ∀ es' n' h' tk', IsMap es' (upm name v D) (k + 1) → Fr h₀ L h' m → News h₀ L h' (g (dictOf es' n')) → Q () { s with heap := h', toks := tk' }) :
    wpAny (model prog w) A (setAttr (.ref x) name v) Q E s := by
 refine @dropI _ ?_ ?_
 ·
  simp only [Bool.and_eq_true, beq_iff_eq] at hs
  refine sealG fun pS hS9 => ?_
  obtain ⟨⟨⟨h1, h2⟩, h3⟩, h4⟩ := hs
  refine hS9 ?_
  clear hS9 pS
  refine set_dict F X₀ N (InstAt.of_news N hx hdx) rfl h1 h2 h3 h4 (by rw [hM.getL]; rfl) rfl (UpdF.to U) ?_ fun h' F' N' => h _ _ h' _ hM.put F' N'
  have h5 := (hM.put (a := name) (hs := PyData.keyHash w.params name) (tk := s.toks + 1) (v := v)).len
  have h6 := Nat.le_of_ble_eq_true hz
  omega
 · intro T x h; refine dropT ?zB ?zA; simpa only using (h : DropP ?zA x); assumption
theorem call_clsM {pos : List Value} {kw : List (Str × Value)} {fI : Addr} {Q : Value → Shared → Prop} (F : Fr h₀ L s.heap m) (X₀ : K.In h₀) (N : News h₀ L s.heap news) (hm : makesIn K C = true) (hi : findIn K (.ref C) "__init__" = some (some (.ref fI))) (hf : isFn K (.ref fI) = true)
    (h : ∀ x dx es n h', IsMap es emm 0 → Fr h₀ L h' m → News h₀ L h' ((x, instObj C dx) :: (dx, dictOf es n) :: news) → (∀ p ∈ news, p.1 < dx) → dx < x →
      codeAny (model prog w) (A.under (.builtin "type.__call__" ⟨.ref C :: pos, kw⟩)) (.call (.ref fI) ⟨.ref x :: pos, kw⟩) (InitBack x fun r s' => match r with | .ok (.ret v) => Q v s' | .ok _ => False | .error e => E e s') { s with heap := h' }) :
    wpAny (model prog w) A (call (.ref C) pos kw) Q E s := call_cls F X₀ N hm hi hf fun x dx h' F' N' l1 l2 => h x dx [] 0 h' .nil F' N' l1 l2
end
end
section
open PyProof.Rows.LCg (NsObj Off3 Off1 lst ns_obj fr_but news_but lst_snoc)
section
variable {prog : Program} {w : World} {A : Around} {E : Value → Shared → Prop} {s : Shared} {h₀ : Heap} {L : Addr} {m : Str → Option Value} {env : Env}
theorem loop_full {elt target iter : Expr} {ifs : List Expr} {scope : Scope} {pos : Pos} {it acc : Value} {env : Env} {R : Result → Shared → Prop} (Inv : Nat → Shared → Prop)
    (turn : ∀ n s, Inv n s → wpAny (model prog w) A (pyNext it) (fun r s₁ => match r with
      | none => R (.ok .next) s₁
      | some v => wpAny (model prog w) A (letOwnedTupleGo target it v >>= fun _ => assign target env v) (fun _ s₂ =>
          wpAny (model prog w) A (forIn ifs true fun c r => if r = true then do let ok ← isTrue c env (eval c env); pure (ForInStep.yield ok) else pure (ForInStep.yield r)) (fun ok s₃ =>
            if ok = true then wpAny (model prog w) A (eval elt env) (fun x s₄ =>
              wpAny (model prog w) A (call (.builtin "list.append") [acc, x]) (fun _ s₅ => ∃ k, k < n ∧ Inv k s₅) (notedBy (model prog w) A env fun e s' => R (.error e) s') s₄) (notedBy (model prog w) A env fun e s' => R (.error e) s') s₃
            else ∃ k, k < n ∧ Inv k s₃) (notedBy (model prog w) A env fun e s' => R (.error e) s') s₂) (notedBy (model prog w) A env fun e s' => R (.error e) s') s₁) (notedBy (model prog w) A env fun e s' => R (.error e) s') s)
    (n : Nat) (h : Inv n s) : codeAny (model prog w) A (.compLoop (.ListComp elt [⟨target, iter, ifs, 0⟩] scope pos) 0 it acc env) R s := by
 refine @dropI _ ?_ ?_
 ·
  refine codeAny_loop rfl Inv (fun n s hI => ?_) n h
  show wpAny _ A ((compTurn (.ListComp elt [⟨target, iter, ifs, 0⟩] scope pos) 0 it acc env).onRaise (fun x => do noteFrame x env; theTreesLotGoes x)) _ _ s
  refine wpAny_noted ?_
  rw [compTurn_list]
  refine wpAny_bind (wpAny_standAt (wpAny_bind (wpAny_mono (turn n s hI) (fun r s₁ h₁ => ?_) fun _ _ h' => h')))
  cases r with
  | none => exact wpAny_pure h₁
  | some v =>
    have h₁' : wpAny (model prog w) A (letOwnedTupleGo target it v >>= fun _ => assign target env v) _ _ s₁ := h₁
    have key : ∀ {f : Unit → Sem Fin} {Q : Fin → Shared → Prop} {E : Value → Shared → Prop}, wpAny (model prog w) A (letOwnedTupleGo target it v >>= fun _ => assign target env v) (fun a s₂ => wpAny (model prog w) A (f a) Q E s₂) E s₁ →
        wpAny (model prog w) A (letOwnedTupleGo target it v >>= fun _ => assign target env v >>= f) Q E s₁ := fun h => by
      have := wpAny_bind (f := _) h
      rwa [bind_assoc] at this
    refine key (wpAny_mono h₁' (fun _ s₂ h₂ => wpAny_bind (wpAny_mono h₂ (fun ok s₃ h₃ => ?_) fun _ _ h' => h')) fun _ _ h' => h')
    cases ok with
    | false => exact wpAny_pure ⟨rfl, h₃⟩
    | true =>
      exact wpAny_bind (wpAny_bind (wpAny_mono h₃ (fun x s₄ h₄ => wpAny_bind (wpAny_mono h₄ (fun _ s₅ h₅ => wpAny_pure (wpAny_pure ⟨rfl, h₅⟩)) fun _ _ h' => h')) fun _ _ h' => h'))
 · intro T x h; refine dropT ?zB ?zA; simpa only using (h : DropP ?zA x); assumption
def TurnEnd (h₀ : Heap) (L : Addr) (m : Str → Option Value) (s₁ : Shared) (I : Addr) (oI : Obj) (C : Addr) (oC : Obj) (D : Addr) (oD : Obj) (news' : Led) (K : Led → Prop) (s' : Shared) : Prop :=
  ∃ h' tk news'', s' = { s₁ with heap := h', toks := tk } ∧ Fr h₀ L h' m ∧ News h₀ L h' ((I, oI) :: (C, oC) :: (D, oD) :: news'') ∧ Off3 I C D news'' ∧ (∀ p ∈ news', p ∈ news'') ∧ (∀ p ∈ news'', p ∈ news' ∨ @LT.lt Nat _ D p.1) ∧ K news''
theorem comp_core {elt target iter : Expr} {ifs : List Expr} {scope : Scope} {cl : List (Str × Addr)} {pos : Pos} {s₂ : Shared} {I : Addr} {fp : List Addr} {n : Nat} {P : Nat → Value → Prop} {St : Nat → Heap → Prop} {news : Led}
    {Bd : (Str → Option Value) → Value → Led → Prop} {J : Nat → List Value → Led → Prop} {E₁ : Addr → Value → Shared → Prop} {RR : Value → Addr → Result → Shared → Prop}
    (W : Walks prog w A I fp [I] n P St) (hsz : n ≤ sizeLine) (hIo : ∀ i h, St i h → ∃ o, h.get? I = some o)
    (hSt : ∀ i h h' o, St i h → h.get? I = some o → h'.get? I = some o → (∀ p ∈ news, h'.get? p.1 = some p.2) → St i h')
    (hcell : ∀ y ∈ scope.names, y.2 ≠ .cell) (hkind : scope.kind = .function)
    (hst : St 0 s₂.heap) (hfp : ∀ b ∈ fp, b < s₂.heap.objs.size)
    (F : Fr h₀ L s₂.heap m) (N : News h₀ L s₂.heap news) (hIL : L ≠ I) (hI₀ : h₀.get? I = none) (off : ∀ p ∈ news, p.1 ≠ I) (hJ : J 0 [] news)
    (hJl : ∀ i ys news', J i ys news' → ys.length ≤ i)
    (bnd : ∀ i v ys news' C (s : Shared) m' (Q : Unit → Shared → Prop) (E' : Value → Shared → Prop), i < n → P i v → St (i + 1) s.heap → J i ys news' → (∀ p ∈ news, p ∈ news') → (∀ p ∈ news', s.heap.get? p.1 = some p.2) → s.heap.Ns C m' →
      (∀ h₃ m₃ tk', h₃.Ns C m₃ → Bd m₃ v news' → (∀ b o, b ≠ C → s.heap.get? b = some o → h₃.get? b = some o) → Q () { s with heap := h₃, toks := tk' }) →
      wpAny (model prog w) A (letOwnedTupleGo target (.ref I) v >>= fun _ => assign target (compEnvC scope cl C env) v) Q E' s)
    (turn : ∀ i v ys news' oI C oC D m₂ h tk, i < n → P i v → J i ys news' → (∀ p ∈ news, p ∈ news') → (∀ p ∈ news, @LT.lt Nat _ p.1 D) → NsObj oC m₂ → Bd m₂ v news' → Fr h₀ L h m → News h₀ L h ((I, oI) :: (C, oC) :: (D, lst ys) :: news') → Off3 I C D news' →
      ((@Ne Nat I C) ∧ (@Ne Nat I D) ∧ (@Ne Nat C D)) →
      wpAny (model prog w) A (forIn ifs true fun c r => if r = true then do let ok ← isTrue c (compEnvC scope cl C env) (eval c (compEnvC scope cl C env)); pure (ForInStep.yield ok) else pure (ForInStep.yield r)) (fun ok s₃ =>
        if ok = true then wpAny (model prog w) A (eval elt (compEnvC scope cl C env)) (fun y s₄ => TurnEnd h₀ L m s₂ I oI C oC D (lst ys) news' (J (i + 1) (ys ++ [y])) s₄) (E₁ C) s₃
        else TurnEnd h₀ L m s₂ I oI C oC D (lst ys) news' (J (i + 1) ys) s₃) (E₁ C) { s₂ with heap := h, toks := tk })
    (hE : ∀ D C e s', E₁ C e s' → notedBy (model prog w) A (compEnvC scope cl C env) (fun e s'' => RR (.ref D) C (.error e) s'') e s')
    (hRR : ∀ D C h tk m' ys news', Fr h₀ L h m → News h₀ L h ((D, lst ys) :: news') → Off1 D news' → (∀ p ∈ news, p ∈ news') → (∀ p ∈ news, @LT.lt Nat _ p.1 D) → (∀ p ∈ news', p ∈ news ∨ @LT.lt Nat _ D p.1) → h.Ns C m' → h₀.get? C = none → h₀.get? D = none → C ≠ L → D ≠ L → C ≠ D →
      (∀ p ∈ news', p.1 ≠ C) → J n ys news' → RR (.ref D) C (.ok .next) { s₂ with heap := h, toks := tk }) :
    wpAny (model prog w) A (newList []) (fun acc s₃ => wpAny (model prog w) A (newFunctionEnv scope env.globals cl [] env.qual none .none (some env)) (fun cenv s₄ =>
      codeAny (model prog w) A (.compStart (.ListComp elt [⟨target, iter, ifs, 0⟩] scope pos) 0 (.ref I) acc { cenv with scope := relabel scope env }) (RR acc cenv.locals) s₄) E s₃) E s₂ := by
 refine @dropI _ ?_ ?_
 ·
  refine wpAny_newObj_type (wpAny_newFunctionEnv hcell (by intro y hy; simp at hy) (fun h₁ hns₁ hsb₁ => ?_) hkind)
  dsimp only at hns₁ hsb₁ ⊢
  generalize hH2 : s₂.heap.push { cls := .type "list", dict := none, data := .seq ([] : List Value).toArray } = H2 at hns₁ hsb₁ ⊢
  have hC : H2.objs.size = s₂.heap.objs.size + 1 := by rw [← hH2, Heap.size_push]
  have hDC : s₂.heap.objs.size ≠ H2.objs.size := by rw [hC]; exact Nat.ne_of_lt (Nat.lt_succ_self _)
  have below : ∀ b, b < s₂.heap.objs.size → b ≠ H2.objs.size ∧ b ≠ s₂.heap.objs.size := fun b hb => ⟨by rw [hC]; exact Nat.ne_of_lt (Nat.lt_succ_of_lt hb), Nat.ne_of_lt hb⟩
  have hDf : s₂.heap.objs.size ∉ fp := fun hm => Nat.lt_irrefl _ (hfp _ hm)
  have hCf : H2.objs.size ∉ fp := fun hm => by have := hfp _ hm; rw [hC] at this; exact Nat.lt_irrefl _ (Nat.lt_of_succ_lt this)
  have hIf : I ∈ fp := W.sub I (List.mem_singleton.mpr rfl)
  have hIlt : I < s₂.heap.objs.size := hfp I hIf
  have old : ∀ b o, s₂.heap.get? b = some o → h₁.get? b = some o := fun b o e => hsb₁.extBut b o (below b (Heap.lt_size e)).1 (Heap.get?_push_of_some _ (hH2 ▸ Heap.get?_push_of_some _ e))
  have hacc : h₁.get? s₂.heap.objs.size = some (lst []) := hsb₁.extBut _ _ hDC (Heap.get?_push_of_some _ (hH2 ▸ Heap.get?_push_size _ rfl))
  have hst₁ : St 0 h₁ := W.frame _ _ _ hst fun b _ o e => old b o e
  have fresh : ∀ a, s₂.heap.objs.size ≤ a → s₂.heap.get? a = none := fun a ha => by
    cases e : s₂.heap.get? a with
    | none => rfl
    | some o' => exact absurd (Heap.lt_size e) (Nat.not_lt.mpr ha)
  have fresh₀ : ∀ a, s₂.heap.objs.size ≤ a → h₀.get? a = none := fun a ha => by
    cases e : h₀.get? a with
    | none => rfl
    | some o' => have := F.keep a o' e; rw [fresh a ha] at this; cases this
  have hD₀ : h₀.get? s₂.heap.objs.size = none := fresh₀ _ (Nat.le_refl _)
  have hC₀ : h₀.get? H2.objs.size = none := fresh₀ _ (by rw [hC]; exact Nat.le_succ _)
  have hLlt : L < s₂.heap.objs.size := F.ns.lt
  have hDL : s₂.heap.objs.size ≠ L := Ne.symm (below L hLlt).2
  have hCL : H2.objs.size ≠ L := Ne.symm (below L hLlt).1
  have hCI : I ≠ H2.objs.size := (below I hIlt).1
  have hDI : I ≠ s₂.heap.objs.size := (below I hIlt).2
  have ltD : ∀ p ∈ news, @LT.lt Nat _ p.1 s₂.heap.objs.size := fun p hp => Heap.lt_size (N p hp).1
  have off₀ : Off3 I H2.objs.size s₂.heap.objs.size news := Off3.of fun p hp => ⟨off p hp, (below _ (ltD p hp)).1, (below _ (ltD p hp)).2⟩
  have loop : ∀ s₃ : Shared, s₃ = { s₂ with heap := h₁, toks := s₂.toks + ([] : List (Str × Value)).length } →
      codeAny (model prog w) A (.compLoop (.ListComp elt [⟨target, iter, ifs, 0⟩] scope pos) 0 (.ref I) (.ref s₂.heap.objs.size) (compEnvC scope cl H2.objs.size env))
        (RR (.ref s₂.heap.objs.size) H2.objs.size) s₃ := by
    rintro s₃ rfl
    refine loop_full
      (fun k s' => ∃ h' tk i ys m' news', s' = { s₂ with heap := h', toks := tk } ∧ i ≤ n ∧ k = n + 1 - i ∧ St i h' ∧ Fr h₀ L h' m ∧ h'.Ns H2.objs.size m' ∧ News h₀ L h' ((s₂.heap.objs.size, lst ys) :: news') ∧
        Off3 I H2.objs.size s₂.heap.objs.size news' ∧ (∀ p ∈ news, p ∈ news') ∧ (∀ p ∈ news', p ∈ news ∨ @LT.lt Nat _ s₂.heap.objs.size p.1) ∧ J i ys news') ?_ (n + 1)
      ⟨h₁, _, 0, [], _, news, rfl, Nat.zero_le _, rfl, hst₁, F.keeps old, hns₁, fun p hp => ?_, off₀, fun _ h => h, fun _ h => .inl h, hJ⟩
    · intro k s' hR29
      refine sealG fun pS hS9 => ?_
      obtain ⟨h', tk, i, ys, m', news', rfl, hi, rfl, hst', F', hn', N', off', sub', ord', J'⟩ := hR29
      refine hS9 ?_
      clear hS9 pS
      by_cases hlt : i < n
      · refine W.item i _ _ _ hlt hst' fun v h₂ tk₂ hPv hst₂ hk₂ => ?_
        have off3 := off'.mem
        have N₂ : News h₀ L h₂ ((s₂.heap.objs.size, lst ys) :: news') := news_but N' hk₂ fun p hp => by
          rcases List.mem_cons.mp hp with rfl | hp
          · exact Ne.symm hDI
          · exact (off3 p hp).1
        refine bnd i v ys news' H2.objs.size _ m' _ _ hlt hPv hst₂ J' sub' (fun p hp => (N₂ p (List.mem_cons_of_mem _ hp)).1) (hn'.at' fun o e => hk₂ _ o (by simpa using Ne.symm hCI) e) fun h₃ m₃ tk₃ hn₃ hB₃ hk₃ => ?_
        have hst₃ : St (i + 1) h₃ := W.frame _ _ _ hst₂ fun b hb o e => hk₃ b o (fun q => hCf (by rw [← q]; exact hb)) e
        refine sealG fun pS hS9 => ?_
        obtain ⟨oI, heI⟩ := hIo _ _ hst₃
        obtain ⟨oC, heC, hoC⟩ := ns_obj hn₃
        refine hS9 ?_
        clear hS9 pS
        have F₂ := fr_but F' hk₂ hIL hI₀
        have F₃ : Fr h₀ L h₃ m := ⟨F₂.ns.at' fun o e => hk₃ L o (Ne.symm hCL) e, fun b o e => hk₃ b o (fun q => by rw [q, hC₀] at e; cases e) (F₂.keep b o e), F₂.above⟩
        have N₃ : News h₀ L h₃ ((I, oI) :: (H2.objs.size, oC) :: (s₂.heap.objs.size, lst ys) :: news') := fun p hp => by
          rcases List.mem_cons.mp hp with rfl | hp
          · exact ⟨heI, Ne.symm hIL, hI₀⟩
          · rcases List.mem_cons.mp hp with rfl | hp
            · exact ⟨heC, hCL, hC₀⟩
            · have z := N₂ p hp
              refine ⟨hk₃ _ _ ?_ z.1, z.2⟩
              rcases List.mem_cons.mp hp with rfl | hp
              · exact hDC
              · exact (off3 p hp).2.1
        refine wpAny_mono (turn i v ys news' oI H2.objs.size oC s₂.heap.objs.size m₃ h₃ tk₃ hlt hPv J' sub' ltD hoC hB₃ F₃ N₃ off' ⟨hCI, hDI, Ne.symm hDC⟩) (fun ok s₄ h₄ => ?_) (fun e s' he => hE _ _ e s' he)
        have fin : ∀ {ys' : List Value} {h₄ : Heap} {tk₄ : Nat} {news₄ : Led}, Fr h₀ L h₄ m → News h₀ L h₄ ((I, oI) :: (H2.objs.size, oC) :: (s₂.heap.objs.size, lst ys) :: news₄) → (∀ p ∈ news', p ∈ news₄) → St (i + 1) h₄ := fun F₄ N₄ sub₄ =>
          hSt _ _ _ _ hst₃ heI (N₄ (I, oI) List.mem_cons_self).1 fun p hp => (N₄ p (List.mem_cons_of_mem _ (List.mem_cons_of_mem _ (List.mem_cons_of_mem _ (sub₄ p (sub' p hp)))))).1
        cases ok with
        | false =>
          simp only [Bool.false_eq_true, if_false] at h₄ ⊢
          refine sealG fun pS hS9 => ?_
          obtain ⟨h₄, tk₄, news₄, rfl, F₄, N₄, off₄, sub₄, ord₄, J₄⟩ := h₄
          refine hS9 ?_
          clear hS9 pS
          refine ⟨n + 1 - (i + 1), dec_lt (by assumption), h₄, tk₄, i + 1, ys, _, news₄, rfl, hlt, rfl, fin (ys' := ys) (tk₄ := tk₄) F₄ N₄ sub₄, F₄, hoC.ns (N₄ _ (List.mem_cons_of_mem _ List.mem_cons_self)).1, fun p hp => N₄ p (List.mem_cons_of_mem _ (List.mem_cons_of_mem _ hp)), off₄,
            fun p hp => sub₄ p (sub' p hp), fun p hp => (ord₄ p hp).elim (ord' p) .inr, J₄⟩
        | true =>
          simp only [if_true] at h₄ ⊢
          refine wpAny_mono h₄ (fun y s₅ h₅ => ?_) (fun e s' he => hE _ _ e s' he)
          refine sealG fun pS hS9 => ?_
          obtain ⟨h₄, tk₄, news₄, rfl, F₄, N₄, off₄, sub₄, ord₄, J₄⟩ := h₅
          refine hS9 ?_
          clear hS9 pS
          have zC := (N₄ (H2.objs.size, oC) (List.mem_cons_of_mem _ List.mem_cons_self)).1
          have zD := (N₄ (s₂.heap.objs.size, lst ys) (List.mem_cons_of_mem _ (List.mem_cons_of_mem _ List.mem_cons_self))).1
          have N₄' : News h₀ L h₄ news₄ := fun p hp => N₄ p (List.mem_cons_of_mem _ (List.mem_cons_of_mem _ (List.mem_cons_of_mem _ hp)))
          have hst₄ : St (i + 1) h₄ := fin (ys' := ys) (tk₄ := tk₄) F₄ N₄ sub₄
          refine append_at (hsz := by show ys.toArray.size ≤ sizeLine; rw [List.size_toArray]; exact Nat.le_trans (hJl _ _ _ J') (Nat.le_trans hi hsz)) zD fun h₅ hs₅ hD₅ => ?_
          have off4 := off₄.mem
          refine ⟨n + 1 - (i + 1), dec_lt (by assumption), h₅, tk₄, i + 1, ys ++ [y], _, news₄, rfl, hlt, rfl, W.frame _ _ _ hst₄ fun b hb o e => hs₅.extBut b o (fun q => hDf (q ▸ hb)) e, F₄.change hs₅ hDL hD₀,
            (hoC.ns zC).sameBut hs₅ (Ne.symm hDC), fun p hp => ?_, off₄, fun p hp => sub₄ p (sub' p hp), fun p hp => (ord₄ p hp).elim (ord' p) .inr, J₄⟩
          rcases List.mem_cons.mp hp with rfl | hp
          · exact ⟨hD₅.trans (congrArg some (lst_snoc ys y)), hDL, hD₀⟩
          · exact ⟨hs₅.extBut _ _ (off4 p hp).2.2 (N₄' p hp).1, (N₄' p hp).2⟩
      · obtain rfl : i = n := Nat.le_antisymm hi (Nat.not_lt.mp hlt)
        refine W.done _ _ _ hst' fun h₂ tk₂ hk₂ => ?_
        have off3 := off'.mem
        exact hRR _ _ h₂ tk₂ _ ys news' (fr_but F' hk₂ hIL hI₀) (news_but N' hk₂ fun p hp => by
          rcases List.mem_cons.mp hp with rfl | hp
          · exact Ne.symm hDI
          · exact (off3 p hp).1) off'.one sub' ltD ord' (hn'.at' fun o e => hk₂ _ o (by simpa using Ne.symm hCI) e) hC₀ hD₀ hCL hDL (Ne.symm hDC) (fun p hp => (off3 p hp).2.1) J'
    · rcases List.mem_cons.mp hp with rfl | hp
      · exact ⟨hacc, hDL, hD₀⟩
      · exact ⟨old _ _ (N p hp).1, (N p hp).2⟩
  exact codeAny_compStart_list (loop _ rfl) (W.self 0 _ _ _ hst₁ (loop _ rfl))
 · intro T x h; refine dropT ?zB ?zA; simpa only using (h : DropP ?zA x); assumption
abbrev IsIter (h : Heap) (I : Addr) : Prop := (∃ l j, h.IsListIter I l j) ∨ ∃ l j, h.IsTupleIter I l j
theorem owned_skip {elts : List Expr} {x1} {pos : Pos} {I T : Addr} {Q : Unit → Shared → Prop} (hit : IsIter s.heap I) (hQ : Q () s) :
    wpAny (model prog w) A (letOwnedTupleGo (.Tuple elts x1 pos) (.ref I) (.ref T)) Q E s := by
 refine @dropI _ ?_ ?_
 ·
  rcases hit with ⟨l, j, hit⟩ | ⟨l, j, o, ho, hc, hd⟩
  · exact wpAny_letOwnedTupleGo_listiter hit hQ
  · unfold letOwnedTupleGo
    refine wpAny_bind (wpAny_load ho ?_)
    rw [hc, hd]
    show wpAny _ A (if (["enumerate", "zip", "dict_itemiterator", "dict_reverseitemiterator", "odict_iterator", "itertools.zip_longest", "itertools.pairwise"].contains "tuple_iterator" &&
        (#[.ref l, .int j 0] : Array Value)[0]? == some (rawInt T)) = true then _ else _) Q E s
    rw [show (["enumerate", "zip", "dict_itemiterator", "dict_reverseitemiterator", "odict_iterator", "itertools.zip_longest", "itertools.pairwise"].contains "tuple_iterator") = false from by decide, Bool.false_and]
    simp only [Bool.false_eq_true, if_false]
    exact wpAny_pure hQ
 · intro T x h; refine dropT ?zB ?zA; simpa only using (h : DropP ?zA x); assumption
def Binds (prog : Program) (w : World) (A : Around) (env : Env) (scope : Scope) (cl : List (Str × Addr)) (target : Expr) (Ok : Value → Led → Prop) (Bd : (Str → Option Value) → Value → Led → Prop) : Prop :=
  ∀ (v : Value) (news' : Led) (C I : Addr) (s : Shared) (m' : Str → Option Value) (Q : Unit → Shared → Prop) (E' : Value → Shared → Prop), IsIter s.heap I → Ok v news' → (∀ p ∈ news', s.heap.get? p.1 = some p.2) → s.heap.Ns C m' →
      (∀ h₃ m₃ tk', h₃.Ns C m₃ → Bd m₃ v news' → (∀ b o, b ≠ C → s.heap.get? b = some o → h₃.get? b = some o) → Q () { s with heap := h₃, toks := tk' }) →
      wpAny (model prog w) A (letOwnedTupleGo target (.ref I) v >>= fun _ => assign target (compEnvC scope cl C env) v) Q E' s
theorem binds_name {scope : Scope} {cl : List (Str × Addr)} {x : Str} {px : Pos} (hkind : scope.kind = .function) (hx : scope.names.lookup x = some .local) :
    Binds prog w A env scope cl (.Name x px) (fun _ _ => True) (fun m₂ v _ => m₂ x = some v) := by
 refine @dropI _ ?_ ?_
 ·
  intro v news' C I s m' Q E' _ _ _ hn k
  refine wpAny_bind (wpAny_pure ?_)
  refine wpAny_assign_Name (wpAny_storeName_local (lookup_relabel_local hx) hn (fun h₃ hn₃ hs₃ => ?_) (by simp [compEnvC, relabel, hkind]))
  exact k h₃ _ _ hn₃ (by simp) fun b o hb e => hs₃.extBut b o hb e
 · intro T x h; refine dropT ?zB ?zA; simpa only using (h : DropP ?zA x); assumption
abbrev TupIn (v : Value) (vs : List Value) (news : Led) : Prop := ∃ t n, v = .ref t ∧ (t, ({ cls := .type "tuple", data := .seq vs.toArray n } : Obj)) ∈ news
theorem binds_two {scope : Scope} {cl : List (Str × Addr)} {x y : Str} {px py tp : Pos} {k1 : Nat} (hh : A.handled = none) (hkind : scope.kind = .function) (hx : scope.names.lookup x = some .local) (hy : scope.names.lookup y = some .local) (hxy : x ≠ y) :
    Binds prog w A env scope cl (.Tuple [.Name x px, .Name y py] k1 tp) (fun v news => ∃ a b, TupIn v [a, b] news) (fun m₂ v news => ∃ a b, TupIn v [a, b] news ∧ m₂ x = some a ∧ m₂ y = some b) := by
 refine @dropI _ ?_ ?_
 ·
  intro v news' C I s m' Q E' hI hOk hN hn k
  refine sealG fun pS hS9 => ?_
  obtain ⟨a, b, t, n, rfl, hm⟩ := hOk
  refine hS9 ?_
  clear hS9 pS
  refine wpAny_bind (owned_skip hI ?_)
  have ht : IsTup s.heap t #[a, b] := ⟨_, hN _ hm, rfl, n, rfl⟩
  refine assign_Tuple_tuple hh ht rfl rfl fun h₅ he => ?_
  have he' : ∀ b o, s.heap.get? b = some o → h₅.get? b = some o := fun b o e => he b o (Nat.ne_of_lt (Heap.lt_size e)) e
  refine assignInOrder_cons (wpAny_assign_Name (wpAny_storeName_local (lookup_relabel_local hx) (hn.at' fun o e => he' _ o e) (fun h₆ hn₆ hs₆ => ?_) (by simp [compEnvC, relabel, hkind])))
  refine assignInOrder_cons (wpAny_assign_Name (wpAny_storeName_local (lookup_relabel_local hy) hn₆ (fun h₃ hn₃ hs₃ => ?_) (by simp [compEnvC, relabel, hkind])))
  refine assignInOrder_nil ?_
  exact k h₃ _ _ hn₃ ⟨a, b, ⟨t, n, rfl, hm⟩, by simp [hxy], by simp⟩ fun b o hb e => hs₃.extBut b o hb (hs₆.extBut b o hb (he' b o e))
 · intro T x h; refine dropT ?zB ?zA; simpa only using (h : DropP ?zA x); assumption
theorem binds_three {scope : Scope} {cl : List (Str × Addr)} {x y z : Str} {px py pz tp : Pos} {k1 : Nat} (hh : A.handled = none) (hkind : scope.kind = .function) (hx : scope.names.lookup x = some .local) (hy : scope.names.lookup y = some .local) (hz : scope.names.lookup z = some .local) (hxy : x ≠ y) (hxz : x ≠ z) (hyz : y ≠ z) :
    Binds prog w A env scope cl (.Tuple [.Name x px, .Name y py, .Name z pz] k1 tp) (fun v news => ∃ a b c, TupIn v [a, b, c] news) (fun m₂ v news => ∃ a b c, TupIn v [a, b, c] news ∧ m₂ x = some a ∧ m₂ y = some b ∧ m₂ z = some c) := by
 refine @dropI _ ?_ ?_
 ·
  intro v news' C I s m' Q E' hI hOk hN hn k
  refine sealG fun pS hS9 => ?_
  obtain ⟨a, b, c, t, n, rfl, hm⟩ := hOk
  refine hS9 ?_
  clear hS9 pS
  refine wpAny_bind (owned_skip hI ?_)
  have ht : IsTup s.heap t #[a, b, c] := ⟨_, hN _ hm, rfl, n, rfl⟩
  refine assign_Tuple_tuple hh ht rfl rfl fun h₅ he => ?_
  have he' : ∀ b o, s.heap.get? b = some o → h₅.get? b = some o := fun b o e => he b o (Nat.ne_of_lt (Heap.lt_size e)) e
  refine assignInOrder_cons (wpAny_assign_Name (wpAny_storeName_local (lookup_relabel_local hx) (hn.at' fun o e => he' _ o e) (fun h₆ hn₆ hs₆ => ?_) (by simp [compEnvC, relabel, hkind])))
  refine assignInOrder_cons (wpAny_assign_Name (wpAny_storeName_local (lookup_relabel_local hy) hn₆ (fun h₇ hn₇ hs₇ => ?_) (by simp [compEnvC, relabel, hkind])))
  refine assignInOrder_cons (wpAny_assign_Name (wpAny_storeName_local (lookup_relabel_local hz) hn₇ (fun h₃ hn₃ hs₃ => ?_) (by simp [compEnvC, relabel, hkind])))
  refine assignInOrder_nil ?_
  exact k h₃ _ _ hn₃ ⟨a, b, c, ⟨t, n, rfl, hm⟩, by simp [hxy, hxz], by simp [hyz], by simp⟩ fun b o hb e => hs₃.extBut b o hb (hs₇.extBut b o hb (hs₆.extBut b o hb (he' b o e)))
 · intro T x h; refine dropT ?zB ?zA; simpa only using (h : DropP ?zA x); assumption
abbrev compTests' (prog : Program) (w : World) (ifs : List Expr) (env : Env) : Sem Bool :=
  forIn ifs true fun c r => if r = true then do let ok ← isTrue c env (eval c env); pure (ForInStep.yield ok) else pure (ForInStep.yield r)
def CompIn (prog : Program) (w : World) (A : Around) (h₀ : Heap) (L : Addr) (m : Str → Option Value) (env : Env) (elt : Expr) (ifs : List Expr) (scope : Scope) (cl : List (Str × Addr)) (Ok : Value → Led → Prop) (Bd : (Str → Option Value) → Value → Led → Prop)
    (E₁ : Addr → Value → Shared → Prop) (Fin : Shared → List Value → Led → Addr → Heap → Nat → Prop) (xv : Value) (s₁ : Shared) : Prop :=
  ∃ (ax : Addr) (its : List Value) (k : Nat) (news : Led) (J : Nat → List Value → Led → Prop), xv = .ref ax ∧ A.handled = none ∧ Fr h₀ L s₁.heap m ∧ News h₀ L s₁.heap news ∧
    ((ax, ({ cls := .type "list", data := .seq its.toArray k } : Obj)) ∈ news ∨ (ax, ({ cls := .type "tuple", data := .seq its.toArray k } : Obj)) ∈ news) ∧ its.length ≤ sizeLine ∧
    J 0 [] news ∧ (∀ i ys news', J i ys news' → ys.length ≤ i) ∧ (∀ v ∈ its, ∀ news', (∀ p ∈ news, p ∈ news') → Ok v news') ∧
    (∀ g i v ys news' I oI C oC D m₂ h tk, its[i]? = some v → J i ys news' → (∀ p ∈ news, p ∈ news') → (∀ p ∈ news, @LT.lt Nat _ p.1 D) → NsObj oC m₂ → Bd m₂ v news' → Fr h₀ L h m → News h₀ L h ((I, oI) :: (C, oC) :: (D, lst ys) :: news') → Off3 I C D news' →
      ((@Ne Nat I C) ∧ (@Ne Nat I D) ∧ (@Ne Nat C D)) →
      wpAny (model prog w) A (forIn ifs true fun c r => if r = true then do let ok ← isTrue c (compEnvC scope cl C env) (eval c (compEnvC scope cl C env)); pure (ForInStep.yield ok) else pure (ForInStep.yield r)) (fun ok s₃ =>
        if ok = true then wpAny (model prog w) A (eval elt (compEnvC scope cl C env)) (fun y s₄ => TurnEnd h₀ L m { s₁ with heap := g } I oI C oC D (lst ys) news' (J (i + 1) (ys ++ [y])) s₄) (E₁ C) s₃
        else TurnEnd h₀ L m { s₁ with heap := g } I oI C oC D (lst ys) news' (J (i + 1) ys) s₃) (E₁ C) { s₁ with heap := h, toks := tk }) ∧
    (∀ g D h tk ys news', News h₀ L h ((D, lst ys) :: news') → Off1 D news' → (∀ p ∈ news, p ∈ news') → (∀ p ∈ news, @LT.lt Nat _ p.1 D) → (∀ p ∈ news', p ∈ news ∨ @LT.lt Nat _ D p.1) → J its.length ys news' → Fin { s₁ with heap := g } ys news' D h tk)
def Passes (M : Model) (A : Around) (env : Env) (scope : Scope) (cl : List (Str × Addr)) (E₁ : Addr → Value → Shared → Prop) (E : Value → Shared → Prop) : Prop :=
  ∀ C e s', E₁ C e s' → notedBy M A (compEnvC scope cl C env) (fun e s'' => ∃ m, s''.heap.Ns C m ∧ ∀ h', Heap.SameBut C s''.heap h' → ∀ cenv : Env, cenv.locals = C → wpAny M A (passOn "comprehension.variables-let-go" e cenv : Sem Value) (fun _ _ => False) E { s'' with heap := h' }) e s'
theorem Passes.never {M : Model} {A : Around} {env : Env} {scope : Scope} {cl : List (Str × Addr)} {E : Value → Shared → Prop} : Passes M A env scope cl (fun _ _ _ => False) E := fun _ _ _ h => h.elim
theorem comp_any {elt target iter : Expr} {ifs : List Expr} {scope : Scope} {cl : List (Str × Addr)} {pos : Pos} {Ok : Value → Led → Prop} {Bd : (Str → Option Value) → Value → Led → Prop} {E₁ : Addr → Value → Shared → Prop} {Fin : Shared → List Value → Led → Addr → Heap → Nat → Prop}
    {use : Option (Value → Sem Unit)} {Q : Value → Shared → Prop}
    (hclos : closureFor scope env = pure cl) (hcell : ∀ y ∈ scope.names, y.2 ≠ .cell) (hkind : scope.kind = .function)
    (hnames : ∀ y ∈ scope.names, y.2 = .local → scope.names.lookup y.1 = some .local) (hB : Binds prog w A env scope cl target Ok Bd) (hE : Passes (model prog w) A env scope cl E₁ E)
    (h : wpAny (model prog w) A (eval iter env) (CompIn prog w A h₀ L m env elt ifs scope cl Ok Bd E₁ Fin) E s)
    (hFin : ∀ s₂ D C h tk m' ys news', Fr h₀ L h m → News h₀ L h ((D, lst ys) :: news') → (∀ p ∈ news', p.1 ≠ C) → Fin s₂ ys news' D h tk → h.Ns C m' → h₀.get? C = none → h₀.get? D = none → C ≠ L → D ≠ L → C ≠ D → compPost (model prog w) A E use Q (.ref D) C (.ok .next) { s₂ with heap := h, toks := tk })
    (hs : ∀ x, foldedSetIterable iter env x = pure x) :
    wpAny (model prog w) A (comprehension (.ListComp elt [⟨target, iter, ifs, 0⟩] scope pos) scope env (firstIterPos [⟨target, iter, ifs, 0⟩] pos) (newList []) false (eval iter env) use) Q E s := by
 refine @dropI _ ?_ ?_
 ·
  refine wpAny_comprehension_free (use := use) rfl hs hclos hkind hnames (wpAny_mono h (fun xv s₁ h₁ => ?_) fun _ _ e => e)
  refine sealG fun pS hS9 => ?_
  obtain ⟨ax, its, k, news, J, rfl, hh, F, N, hm, hsz, hJ, hJl, hOk, turn, fin⟩ := h₁
  refine hS9 ?_
  clear hS9 pS
  have hlt : ax < s₁.heap.objs.size := by rcases hm with hm | hm <;> exact Heap.lt_size (N _ hm).1
  have hE' : ∀ D C e s', E₁ C e s' → notedBy (model prog w) A (compEnvC scope cl C env) (fun e s'' => compPost (model prog w) A E use Q (.ref D) C (.error e) s'') e s' := fun D C e s' he => by
    have := hE C e s' he
    unfold notedBy at this ⊢
    refine wpAny_mono this (fun _ s'' q => ?_) fun _ s'' q => ?_
    · cases use <;> exact q
    · cases use <;> exact q
  have hfp : ∀ (o : Obj) (b : Addr), b ∈ [s₁.heap.objs.size, ax] → b < (s₁.heap.push o).objs.size := fun o b hb => by
    rw [Heap.size_push]
    rcases List.mem_cons.mp hb with rfl | hb
    · exact Nat.lt_succ_self _
    · rw [List.mem_singleton.mp hb]; exact Nat.lt_succ_of_lt hlt
  have up : ∀ o b o', s₁.heap.get? b = some o' → (s₁.heap.push o).get? b = some o' := fun o b o' e => Heap.get?_push_of_some _ e
  have offI : ∀ p ∈ news, p.1 ≠ s₁.heap.objs.size := fun p hp => Nat.ne_of_lt (Heap.lt_size (N p hp).1)
  have item : ∀ {i : Nat} {v : Value}, its.toArray[i]? = some v → its[i]? = some v ∧ v ∈ its := fun hp => by
    rw [List.getElem?_toArray] at hp
    exact ⟨hp, List.mem_of_getElem? hp⟩
  rcases hm with hm | hm
  · have hl : s₁.heap.IsList ax its.toArray := ⟨_, (N _ hm).1, rfl, k, rfl⟩
    refine wpAny_pyIter_list hl ?_
    refine comp_core (J := J) (Bd := Bd) (E₁ := E₁) (RR := fun acc C => compPost (model prog w) A E use Q acc C) (Walks.list hh s₁.heap.objs.size ax (Nat.ne_of_lt hlt) its.toArray) (by rw [List.size_toArray]; exact hsz) (fun i h st => by obtain ⟨o, e, _⟩ := st.1; exact ⟨o, e⟩)
      (fun i h h' o st e e' hn => ⟨by obtain ⟨o', q, r⟩ := st.1; rw [e] at q; cases q; exact ⟨o, e', r⟩, ⟨_, hn _ hm, rfl, k, rfl⟩⟩) hcell hkind ⟨⟨_, Heap.get?_push_size _ rfl, rfl, rfl⟩, ⟨_, Heap.get?_push_of_some _ (N _ hm).1, rfl, k, rfl⟩⟩ (fun b hb => hfp _ b hb)
      (F.keeps (up _)) (N.grown (up _)) (Nat.ne_of_lt F.ns.lt) (next_is_new F) offI hJ hJl ?_ ?_ hE' ?_
    · intro i v ys news' C s' m' Q' E' hi hP hSt hJ' hsub hN hn kk
      exact hB v news' C _ s' m' Q' E' (.inl ⟨_, _, hSt.1⟩) (hOk v (item hP).2 news' hsub) hN hn kk
    · intro i v ys news' oI C oC D m₂ h tk hi hP hJ' hsub hlt' hC hBd F' N' off' d'
      exact turn _ i v ys news' _ oI C oC D m₂ h tk (item hP).1 hJ' hsub hlt' hC hBd F' N' off' d'
    · intro D C h tk m' ys news' F' N' o1 hsub hlt' hord hn hC₀ hD₀ hCL hDL hCD offC hJ'
      exact hFin _ D C h tk m' ys news' F' N' offC (fin _ D h tk ys news' N' o1 hsub hlt' hord (by rw [List.size_toArray] at hJ'; exact hJ')) hn hC₀ hD₀ hCL hDL hCD
  · have hl : s₁.heap.IsTuple ax its.toArray := ⟨_, (N _ hm).1, rfl, k, rfl⟩
    refine wpAny_pyIter_tuple hl ?_
    refine comp_core (J := J) (Bd := Bd) (E₁ := E₁) (RR := fun acc C => compPost (model prog w) A E use Q acc C) (Walks.tuple hh s₁.heap.objs.size ax (Nat.ne_of_lt hlt) its.toArray) (by rw [List.size_toArray]; exact hsz) (fun i h st => by obtain ⟨o, e, _⟩ := st.1; exact ⟨o, e⟩)
      (fun i h h' o st e e' hn => ⟨by obtain ⟨o', q, r⟩ := st.1; rw [e] at q; cases q; exact ⟨o, e', r⟩, ⟨_, hn _ hm, rfl, k, rfl⟩⟩) hcell hkind ⟨⟨_, Heap.get?_push_size _ rfl, rfl, rfl⟩, ⟨_, Heap.get?_push_of_some _ (N _ hm).1, rfl, k, rfl⟩⟩ (fun b hb => hfp _ b hb)
      (F.keeps (up _)) (N.grown (up _)) (Nat.ne_of_lt F.ns.lt) (next_is_new F) offI hJ hJl ?_ ?_ hE' ?_
    · intro i v ys news' C s' m' Q' E' hi hP hSt hJ' hsub hN hn kk
      exact hB v news' C _ s' m' Q' E' (.inr ⟨_, _, hSt.1⟩) (hOk v (item hP).2 news' hsub) hN hn kk
    · intro i v ys news' oI C oC D m₂ h tk hi hP hJ' hsub hlt' hC hBd F' N' off' d'
      exact turn _ i v ys news' _ oI C oC D m₂ h tk (item hP).1 hJ' hsub hlt' hC hBd F' N' off' d'
    · intro D C h tk m' ys news' F' N' o1 hsub hlt' hord hn hC₀ hD₀ hCL hDL hCD offC hJ'
      exact hFin _ D C h tk m' ys news' F' N' offC (fin _ D h tk ys news' N' o1 hsub hlt' hord (by rw [List.size_toArray] at hJ'; exact hJ')) hn hC₀ hD₀ hCL hDL hCD
 · intro T x h; refine dropT ?zB ?zA; simpa only using (h : DropP ?zA x); assumption
theorem comp_eval {elt target iter : Expr} {ifs : List Expr} {scope : Scope} {cl : List (Str × Addr)} {pos : Pos} {Q : Value → Shared → Prop} (_F₀ : Fr h₀ L s.heap m) (Ok : Value → Led → Prop) (Bd : (Str → Option Value) → Value → Led → Prop) (E₁ : Addr → Value → Shared → Prop)
    (hclos : closureFor scope env = pure cl) (hcell : ∀ y ∈ scope.names, y.2 ≠ .cell) (hkind : scope.kind = .function)
    (hnames : ∀ y ∈ scope.names, y.2 = .local → scope.names.lookup y.1 = some .local) (hB : Binds prog w A env scope cl target Ok Bd) (hE : Passes (model prog w) A env scope cl E₁ E)
    (h : wpAny (model prog w) A (eval iter env) (CompIn prog w A h₀ L m env elt ifs scope cl Ok Bd E₁ (fun s₂ ys news' D _ _ => ∀ h' tk', Fr h₀ L h' m → News h₀ L h' ((D, lst ys) :: news') → Q (.ref D) { s₂ with heap := h', toks := tk' })) E s)
    (hs : ∀ x, foldedSetIterable iter env x = pure x := by intro _; rfl) :
    wpAny (model prog w) A (eval (.ListComp elt [⟨target, iter, ifs, 0⟩] scope pos) env) Q E s := by
 refine @dropI _ ?_ ?_
 ·
  rw [eval_ListComp]
  refine comp_any (use := none) hclos hcell hkind hnames hB hE h (fun s₂ D C h tk m' ys news' F' N' offC fin hn hC₀ hD₀ hCL hDL hCD => ?_) hs
  refine ⟨m', hn, fun h'' hs'' => fin h'' tk (F'.change hs'' hCL hC₀) fun p hp => ⟨hs''.extBut _ _ ?_ (N' p hp).1, (N' p hp).2⟩⟩
  rcases List.mem_cons.mp hp with rfl | hp
  · exact Ne.symm hCD
  · exact offC p hp
 · intro T x h; refine dropT ?zB ?zA; simpa only using (h : DropP ?zA x); assumption
theorem comp_assign {elt target iter : Expr} {ifs : List Expr} {y : Str} {py : Pos} {scope : Scope} {cl : List (Str × Addr)} {pos spos : Pos} {Q : Flow → Shared → Prop} (_F₀ : Fr h₀ L s.heap m) (Ok : Value → Led → Prop) (Bd : (Str → Option Value) → Value → Led → Prop) (E₁ : Addr → Value → Shared → Prop)
    (hLe : env.locals = L) (hsw : swapsWith (.ListComp elt [⟨target, iter, ifs, 0⟩] scope pos) (some (.Name y py)) spos.line env = pure true)
    (hclos : closureFor scope env = pure cl) (hcell : ∀ y ∈ scope.names, y.2 ≠ .cell) (hkind : scope.kind = .function)
    (hnames : ∀ y ∈ scope.names, y.2 = .local → scope.names.lookup y.1 = some .local)
    (hy : env.kindOf y = some .local) (hp : (env.scope.kind == .class || (env.scope.kind == .module && env.locals != env.globals)) = false)
    (hB : Binds prog w A env scope cl target Ok Bd) (hE : Passes (model prog w) A env scope cl E₁ E)
    (h : wpAny (model prog w) A (eval iter env) (CompIn prog w A h₀ L m env elt ifs scope cl Ok Bd E₁ (fun s₂ ys news' D _ _ => ∀ h' tk', Fr h₀ L h' (fun z => if z = y then some (.ref D) else m z) → News h₀ L h' ((D, lst ys) :: news') → Q .next { s₂ with heap := h', toks := tk' })) E s)
    (hs : ∀ x, foldedSetIterable iter env x = pure x := by intro _; rfl) :
    wpAny (model prog w) A (exec (.Assign [.Name y py] (.ListComp elt [⟨target, iter, ifs, 0⟩] scope pos) spos) env) Q E s := by
 refine @dropI _ ?_ ?_
 ·
  subst hLe
  rw [exec_Assign_Name_used _ _ _ _ hsw]
  refine wpAny_bind (wpAny_standAt (wpAny_bind ?_))
  show wpAny _ A (do let _ ← comprehension (.ListComp elt [⟨target, iter, ifs, 0⟩] scope pos) scope env _ (newList []) false (eval iter env) (some (assign (.Name y py) env))) _ _ s
  refine wpAny_bind (wpAny_mono (comp_any (use := some (assign (.Name y py) env)) (Q := fun _ s' => Q .next s') hclos hcell hkind hnames hB hE h (fun s₂ D C h tk m' ys news' F' N' offC fin hn hC₀ hD₀ hCL hDL hCD => ?_) hs) (fun _ s' hq => wpAny_pure (wpAny_pure hq)) fun _ _ e => e)
  show wpAny _ A (assign (.Name y py) env (.ref D)) _ _ _
  refine wpAny_assign_Name (wpAny_storeName_local hy F'.ns (fun h₂ hn₂ hs₂ => ?_) hp)
  have hL₀ : h₀.get? env.locals = none := Heap.get?_none_of_le F'.above
  have F₂ : Fr h₀ env.locals h₂ (fun z => if z = y then some (.ref D) else m z) := ⟨hn₂, fun b o e => hs₂.extBut b o (fun q => by rw [q, hL₀] at e; cases e) (F'.keep b o e), F'.above⟩
  refine ⟨m', hn.sameBut hs₂ hCL, fun h'' hs'' => fin h'' _ (F₂.change hs'' hCL hC₀) (fun p hp => ?_)⟩
  have z : h₂.get? p.1 = some p.2 := hs₂.extBut _ _ (N' p hp).2.1 (N' p hp).1
  refine ⟨hs''.extBut _ _ ?_ z, (N' p hp).2⟩
  rcases List.mem_cons.mp hp with rfl | hp
  · exact Ne.symm hCD
  · exact offC p hp
 · intro T x h; refine dropT ?zB ?zA; simpa only using (h : DropP ?zA x); assumption
theorem CompIn.intro {elt : Expr} {ifs : List Expr} {scope : Scope} {cl : List (Str × Addr)} {Ok : Value → Led → Prop} {Bd : (Str → Option Value) → Value → Led → Prop} {E₁ : Addr → Value → Shared → Prop} {Fin : Shared → List Value → Led → Addr → Heap → Nat → Prop} {s₁ : Shared}
    {ax : Addr} {its : List Value} {k : Nat} {news : Led} (J : Nat → List Value → Led → Prop) (hh : A.handled = none) (F : Fr h₀ L s₁.heap m) (N : News h₀ L s₁.heap news)
    (hm : (ax, ({ cls := .type "list", data := .seq its.toArray k } : Obj)) ∈ news ∨ (ax, ({ cls := .type "tuple", data := .seq its.toArray k } : Obj)) ∈ news) (hsz : its.length ≤ sizeLine)
    (h0 : J 0 [] news) (hl : ∀ i ys news', J i ys news' → ys.length ≤ i) (hOk : ∀ v ∈ its, ∀ news', (∀ p ∈ news, p ∈ news') → Ok v news')
    (turn : ∀ g i v ys news' I oI C oC D m₂ h tk, its[i]? = some v → J i ys news' → (∀ p ∈ news, p ∈ news') → (∀ p ∈ news, @LT.lt Nat _ p.1 D) → NsObj oC m₂ → Bd m₂ v news' → Fr h₀ L h m → News h₀ L h ((I, oI) :: (C, oC) :: (D, lst ys) :: news') → Off3 I C D news' →
      ((@Ne Nat I C) ∧ (@Ne Nat I D) ∧ (@Ne Nat C D)) →
      wpAny (model prog w) A (forIn ifs true fun c r => if r = true then do let ok ← isTrue c (compEnvC scope cl C env) (eval c (compEnvC scope cl C env)); pure (ForInStep.yield ok) else pure (ForInStep.yield r)) (fun ok s₃ =>
        if ok = true then wpAny (model prog w) A (eval elt (compEnvC scope cl C env)) (fun y s₄ => TurnEnd h₀ L m { s₁ with heap := g } I oI C oC D (lst ys) news' (J (i + 1) (ys ++ [y])) s₄) (E₁ C) s₃
        else TurnEnd h₀ L m { s₁ with heap := g } I oI C oC D (lst ys) news' (J (i + 1) ys) s₃) (E₁ C) { s₁ with heap := h, toks := tk })
    (fin : ∀ g D h tk ys news', News h₀ L h ((D, lst ys) :: news') → Off1 D news' → (∀ p ∈ news, p ∈ news') → (∀ p ∈ news, @LT.lt Nat _ p.1 D) → (∀ p ∈ news', p ∈ news ∨ @LT.lt Nat _ D p.1) → J its.length ys news' → Fin { s₁ with heap := g } ys news' D h tk) :
    CompIn prog w A h₀ L m env elt ifs scope cl Ok Bd E₁ Fin (.ref ax) s₁ := ⟨ax, its, k, news, J, rfl, hh, F, N, hm, hsz, h0, hl, hOk, turn, fin⟩
end
theorem ne_empty {prog : Program} {w : World} {A : Around} {E : Value → Shared → Prop} {s : Shared} {D e : Addr} {vs : List Value} {Q : Value → Shared → Prop} (hD : s.heap.IsList D vs.toArray) (he : s.heap.IsList e #[]) (hu : A.units < cLine) (h : Q (.bool (!vs.isEmpty)) s) :
    wpAny (model prog w) A (compareOp .NotEq (.ref D) (.ref e)) Q E s := by
 refine @dropI _ ?_ ?_
 ·
  cases vs with
  | nil => exact SeqAt.RcNeAt.lists (e := fun _ => true) hD he rfl hu (fun j h1 _ => absurd h1 (by simp)) prog w E Q (by simpa using h)
  | cons v r => exact SeqAt.RcNeAt.lists_lengths hD he (by simp) hu prog w E Q (by simpa using h)
 · intro T x h; refine dropT ?zB ?zA; simpa only using (h : DropP ?zA x); assumption
theorem while_no {prog : Program} {w : World} {A : Around} {E : Value → Shared → Prop} {s : Shared} {env : Env} {test : Expr} {body : List Stmt} {pos : Pos} {Q : Flow → Shared → Prop}
    (h : wpAny (model prog w) A (isTrue test env (eval test env)) (fun b s₂ => b = false ∧ Q .next s₂) (fun _ _ => False) s) : wpAny (model prog w) A (exec (.While test body [] pos) env) Q E s := by
 refine @dropI _ ?_ ?_
 ·
  refine wpAny_While (codeAny_whileLoop (fun _ s' => s' = s) (fun n s' hs => ?_) 0 rfl)
  subst hs
  refine wpAny_mono h (fun b s₂ hb => ?_) fun _ _ f => f.elim
  obtain ⟨rfl, hq⟩ := hb
  simp only [Bool.false_eq_true, if_false]
  exact wpAny_execs_nil hq
 · intro T x h; refine dropT ?zB ?zA; simpa only using (h : DropP ?zA x); assumption
end
section
section
variable {w : World} {p : Program} {loose : List Str} {mean : ExcName → Option Value} {mg mb : Str → Option Value} {prog : Program} {A : Around} {E : Value → Shared → Prop} {s : Shared} {L : Addr} {h₀ : Heap} {m : Str → Option Value} {news : Led}
theorem newList_drop {M : Model} {Q : Value → Shared → Prop} (F : Fr h₀ L s.heap m) (N : News h₀ L s.heap news) (h : ∀ l h', Fr h₀ L h' m → News h₀ L h' news → Q (.ref l) { s with heap := h' }) : wpAny M A (newList []) Q E s :=
  newList_K F N (fun l h' F' N' _ => h l h' F' fun p hp => N' p (.tail _ hp)) (Nat.zero_le _)
theorem newDict_drop {env : Env} {pos : Pos} {Q : Value → Shared → Prop} (F : Fr h₀ L s.heap m) (N : News h₀ L s.heap news) (T : Top p loose mean mg mb h₀) (h : ∀ d h', Fr h₀ L h' m → News h₀ L h' news → Q (.ref d) { s with heap := h' }) : wpAny (model prog w) A (eval (.Dict [] [] pos) env) Q E s :=
  newDict_K F N (Top.nolimit T) fun d h' o F' N' _ _ _ _ _ _ => h d h' F' fun p hp => N' p (.tail _ hp)
end
end
section
section
variable {prog : Program} {w : World} {A : Around} {E : Value → Shared → Prop} {s : Shared} {h₀ : Heap} {L : Addr} {env : Env}
theorem for_loop {R : Result → Shared → Prop} {target it body} {env : Env} (Inv : Nat → Shared → Prop)
    (turn : ∀ n s, Inv n s → wpAny (model prog w) A (pyNext it) (fun r s₁ => match r with
      | none => R (.ok .next) s₁
      | some v => wpAny (model prog w) A (letOwnedTupleGo target it v >>= fun _ => assign target env v) (fun _ s₂ => wpAny (model prog w) A (execs body env) (fun f s₃ => match f with
          | .next | .cont => ∃ k, k < n ∧ Inv k s₃
          | .brk => R (.ok .next) s₃
          | .ret v => R (.ok (.ret v)) s₃) (notedBy (model prog w) A env fun e s' => R (.error e) s') s₂) (notedBy (model prog w) A env fun e s' => R (.error e) s') s₁) (notedBy (model prog w) A env fun e s' => R (.error e) s') s)
    (n : Nat) (h : Inv n s) : codeAny (model prog w) A (.forLoop target it body [] env) R s := by
 refine @dropI _ ?_ ?_
 ·
  refine codeAny_loop' rfl Inv (fun n s hI => ?_) n h
  show wpAny _ _ ((forTurn target it body [] env).onRaise (fun x => do noteFrame x env; theTreesLotGoes x)) _ _ s
  refine wpAny_noted ?_
  simp only [forTurn]
  refine wpAny_bind (wpAny_standAt (wpAny_bind (wpAny_onRaise (wpAny_mono (turn n s hI) (fun r s₁ h₁ => ?_) fun _ _ h' => wpAny_standAt h'))))
  cases r with
  | none => exact wpAny_pure (.inr ⟨rfl, codeAny_block (wpAny_execs_nil h₁)⟩)
  | some v =>
    have h₁' : wpAny (model prog w) A (letOwnedTupleGo target it v >>= fun _ => assign target env v) _ _ s₁ := h₁
    have key : ∀ {f : Unit → Sem Fin} {Q : Fin → Shared → Prop} {E : Value → Shared → Prop}, wpAny (model prog w) A (letOwnedTupleGo target it v >>= fun _ => assign target env v) (fun a s₂ => wpAny (model prog w) A (f a) Q E s₂) E s₁ →
        wpAny (model prog w) A (letOwnedTupleGo target it v >>= fun _ => assign target env v >>= f) Q E s₁ := fun h => by
      have := wpAny_bind (f := _) h
      rwa [bind_assoc] at this
    refine key (wpAny_mono h₁' (fun _ s₂ h₂ => wpAny_bind (wpAny_mono h₂ (fun f s₃ h₃ => ?_) fun _ _ h' => h')) fun _ _ h' => h')
    cases f with
    | next => exact wpAny_pure (.inl ⟨rfl, h₃⟩)
    | cont => exact wpAny_pure (.inl ⟨rfl, h₃⟩)
    | brk => exact wpAny_pure h₃
    | ret v => exact wpAny_pure h₃
 · intro T x h; refine dropT ?zB ?zA; simpa only using (h : DropP ?zA x); assumption
def ForEnd (h₀ : Heap) (L : Addr) (s₁ : Shared) (I : Addr) (oI : Obj) (K : (Str → Option Value) → Led → Prop) (s' : Shared) : Prop :=
  ∃ h' tk m' news'', s' = { s₁ with heap := h', toks := tk } ∧ Fr h₀ L h' m' ∧ News h₀ L h' ((I, oI) :: news'') ∧ (∀ p ∈ news'', p.1 ≠ I) ∧ K m' news''
def ForIn3 (prog : Program) (w : World) (A : Around) (h₀ : Heap) (L : Addr) (env : Env) (x y z : Str) (body : List Stmt) (Q : Flow → Shared → Prop) (E : Value → Shared → Prop) (xv : Value) (s₁ : Shared) : Prop :=
  ∃ (ax : Addr) (its : List Value) (k : Nat) (m : Str → Option Value) (news : Led) (J : Nat → (Str → Option Value) → Led → Prop), xv = .ref ax ∧ A.handled = none ∧ Fr h₀ L s₁.heap m ∧ News h₀ L s₁.heap news ∧ J 0 m news ∧
    (∀ i m' news', J i m' news' → (ax, ({ cls := .type "list", data := .seq its.toArray k } : Obj)) ∈ news') ∧ (∀ v ∈ its, ∀ i m' news', J i m' news' → ∃ a b c, TupIn v [a, b, c] news') ∧
    (∀ i v a b c m₁ news' I oI h tk, its[i]? = some v → J i m₁ news' → TupIn v [a, b, c] news' → Fr h₀ L h (fun n => if n = z then some c else if n = y then some b else if n = x then some a else m₁ n) → News h₀ L h ((I, oI) :: news') → (∀ p ∈ news', p.1 ≠ I) →
      wpAny (model prog w) A (execs body env) (fun f s₃ => match f with
          | .next | .cont => ForEnd h₀ L s₁ I oI (J (i + 1)) s₃
          | .brk => Q .next s₃
          | .ret v => Q (.ret v) s₃) E { s₁ with heap := h, toks := tk }) ∧
    (∀ m₁ news' h tk, J its.length m₁ news' → Fr h₀ L h m₁ → News h₀ L h news' → Q .next { s₁ with heap := h, toks := tk })
theorem ForIn3.intro {x y z : Str} {body : List Stmt} {Q : Flow → Shared → Prop} {ax : Addr} {s₁ : Shared} {its : List Value} {k : Nat} {m : Str → Option Value} {news : Led} (J : Nat → (Str → Option Value) → Led → Prop) (hh : A.handled = none) (F : Fr h₀ L s₁.heap m) (N : News h₀ L s₁.heap news) (hJ : J 0 m news)
    (hsrc : ∀ i m' news', J i m' news' → (ax, ({ cls := .type "list", data := .seq its.toArray k } : Obj)) ∈ news') (hOk : ∀ v ∈ its, ∀ i m' news', J i m' news' → ∃ a b c, TupIn v [a, b, c] news')
    (turn : ∀ i v a b c m₁ news' I oI h tk, its[i]? = some v → J i m₁ news' → TupIn v [a, b, c] news' → Fr h₀ L h (fun n => if n = z then some c else if n = y then some b else if n = x then some a else m₁ n) → News h₀ L h ((I, oI) :: news') → (∀ p ∈ news', p.1 ≠ I) →
      wpAny (model prog w) A (execs body env) (fun f s₃ => match f with
          | .next | .cont => ForEnd h₀ L s₁ I oI (J (i + 1)) s₃
          | .brk => Q .next s₃
          | .ret v => Q (.ret v) s₃) E { s₁ with heap := h, toks := tk })
    (fin : ∀ m₁ news' h tk, J its.length m₁ news' → Fr h₀ L h m₁ → News h₀ L h news' → Q .next { s₁ with heap := h, toks := tk }) :
    ForIn3 prog w A h₀ L env x y z body Q E (.ref ax) s₁ := ⟨ax, its, k, m, news, J, rfl, hh, F, N, hJ, hsrc, hOk, turn, fin⟩
theorem for_three {x y z : Str} {px py pz tp pos : Pos} {k1 : Nat} {iter : Expr} {body : List Stmt} {Q : Flow → Shared → Prop} {m₀ : Str → Option Value} (_F₀ : Fr h₀ L s.heap m₀) (hLe : env.locals = L)
    (hx : env.kindOf x = some .local) (hy : env.kindOf y = some .local) (hz : env.kindOf z = some .local) (hp : (env.scope.kind == .class || (env.scope.kind == .module && env.locals != env.globals)) = false)
    (h : wpAny (model prog w) A (eval iter env) (ForIn3 prog w A h₀ L env x y z body Q E) E s)
    (hs : ∀ x, foldedSetIterable iter env x = pure x := by intro _; rfl)
    (hE : PassesOwn (model prog w) A env E := by passes_own) :
    wpAny (model prog w) A (exec (.For (.Tuple [.Name x px, .Name y py, .Name z pz] k1 tp) iter body [] pos) env) Q E s := by
 refine @dropI _ ?_ ?_
 ·
  subst hLe
  refine wpAny_For (wpAny_mono h (fun xv s₁ h₁ => ?_) fun _ _ e => e) hs
  refine sealG fun pS hS9 => ?_
  obtain ⟨ax, its, k, m, news, J, rfl, hh, F, N, hJ, hsrc, hOk, turn, fin⟩ := h₁
  refine hS9 ?_
  clear hS9 pS
  have hl : s₁.heap.IsList ax its.toArray := ⟨_, (N _ (hsrc _ _ _ hJ)).1, rfl, k, rfl⟩
  have hlt : ax < s₁.heap.objs.size := Heap.lt_size (N _ (hsrc _ _ _ hJ)).1
  have up : ∀ o b o', s₁.heap.get? b = some o' → (s₁.heap.push o).get? b = some o' := fun o b o' e => Heap.get?_push_of_some _ e
  refine wpAny_pyIter_list hl ?_
  have hne : ax ≠ s₁.heap.objs.size := Nat.ne_of_lt hlt
  have W := Walks.list (prog := prog) (w := w) hh s₁.heap.objs.size ax hne its.toArray
  have hsz : its.toArray.size = its.length := by simp
  have hIL : env.locals ≠ s₁.heap.objs.size := Nat.ne_of_lt F.ns.lt
  have hI₀ : h₀.get? s₁.heap.objs.size = none := next_is_new F
  refine for_loop (n := its.length + 1) (R := fun r s' => match r with | .ok f => Q f s' | .error e => cameBackBy (model prog w) A env E e s')
    (fun n s' => ∃ h' tk i m' news', s' = { s₁ with heap := h', toks := tk } ∧ i ≤ its.length ∧ n = its.length + 1 - i ∧ h'.IsListIter s₁.heap.objs.size ax i ∧ Fr h₀ env.locals h' m' ∧ News h₀ env.locals h' news' ∧ (∀ p ∈ news', p.1 ≠ s₁.heap.objs.size) ∧ J i m' news') ?_
    ⟨_, _, 0, m, news, rfl, Nat.zero_le _, rfl, ⟨_, Heap.get?_push_size _ rfl, rfl, rfl⟩, F.keeps (up _), N.grown (up _), fun p hp => Nat.ne_of_lt (Heap.lt_size (N p hp).1), hJ⟩
  intro n s' hR29
  refine sealG fun pS hS9 => ?_
  obtain ⟨h', tk, i, m', news', rfl, hi, rfl, hit, F', N', off', J'⟩ := hR29
  refine hS9 ?_
  clear hS9 pS
  have hl' : h'.IsList ax its.toArray := ⟨_, (N' _ (hsrc _ _ _ J')).1, rfl, k, rfl⟩
  by_cases hlt' : i < its.length
  · refine W.item i _ _ _ (by rw [hsz]; exact hlt') ⟨hit, hl'⟩ fun v h₂ tk₂ hPv hst₂ hk₂ => ?_
    have hv : its[i]? = some v := by simpa using hPv
    have N₂ := LCg.news_but N' hk₂ off'
    have F₂ := LCg.fr_but F' hk₂ hIL hI₀
    refine sealG fun pS hS9 => ?_
    obtain ⟨a, b, c, hT⟩ := hOk v (List.mem_of_getElem? hv) _ _ _ J'
    obtain ⟨t, nt, rfl, hm⟩ := id hT
    refine hS9 ?_
    clear hS9 pS
    refine wpAny_bind (owned_skip (.inl ⟨_, _, hst₂.1⟩) ?_)
    have ht : IsTup h₂ t #[a, b, c] := ⟨_, (N₂ _ hm).1, rfl, nt, rfl⟩
    refine assign_Tuple_tuple hh ht rfl rfl fun h₅ he => ?_
    have he' : ∀ b o, h₂.get? b = some o → h₅.get? b = some o := fun b o e => he b o (Nat.ne_of_lt (Heap.lt_size e)) e
    have F₅ := F₂.keeps he'
    have N₅ := N₂.grown he'
    refine assignInOrder_cons (wpAny_assign_Name (wpAny_storeName_local hx F₅.ns (fun h₆ hn₆ hs₆ => ?_) hp))
    refine assignInOrder_cons (wpAny_assign_Name (wpAny_storeName_local hy hn₆ (fun h₇ hn₇ hs₇ => ?_) hp))
    refine assignInOrder_cons (wpAny_assign_Name (wpAny_storeName_local hz hn₇ (fun h₃ hn₃ hs₃ => ?_) hp))
    refine assignInOrder_nil ?_
    have F₃ := ((F₅.set hn₆ hs₆).set hn₇ hs₇).set hn₃ hs₃
    have N₃ := ((N₅.set hs₆).set hs₇).set hs₃
    have hit₃ : h₃.IsListIter s₁.heap.objs.size ax (i + 1) := hst₂.1.at fun o e => hs₃.extBut _ _ (Ne.symm hIL) (hs₇.extBut _ _ (Ne.symm hIL) (hs₆.extBut _ _ (Ne.symm hIL) (he' _ _ e)))
    refine sealG fun pS hS9 => ?_
    obtain ⟨oI, heI, hcI, hdI⟩ := hit₃
    refine hS9 ?_
    clear hS9 pS
    refine wpAny_passesOwn hE (wpAny_mono (turn i _ a b c m' news' s₁.heap.objs.size oI h₃ _ hv J' hT F₃ (fun p hp => ?_) off') (fun f s₃ h₃ => ?_) fun _ _ e => e)
    · rcases List.mem_cons.mp hp with rfl | hp
      · exact ⟨heI, Ne.symm hIL, hI₀⟩
      · exact N₃ p hp
    · have fin' : ForEnd h₀ env.locals s₁ s₁.heap.objs.size oI (J (i + 1)) s₃ → ∃ k, k < its.length + 1 - i ∧ ∃ h' tk i m' news', s₃ = { s₁ with heap := h', toks := tk } ∧ i ≤ its.length ∧ k = its.length + 1 - i ∧ h'.IsListIter s₁.heap.objs.size ax i ∧ Fr h₀ env.locals h' m' ∧ News h₀ env.locals h' news' ∧ (∀ p ∈ news', p.1 ≠ s₁.heap.objs.size) ∧ J i m' news' := by
        intro hR09
        refine sealG fun pS hS9 => ?_
        obtain ⟨h₄, tk₄, m₄, news₄, rfl, F₄, N₄, off₄, J₄⟩ := hR09
        refine hS9 ?_
        clear hS9 pS
        exact ⟨its.length + 1 - (i + 1), dec_lt (by assumption), h₄, tk₄, i + 1, m₄, news₄, rfl, hlt', rfl, ⟨oI, (N₄ (s₁.heap.objs.size, oI) List.mem_cons_self).1, hcI, hdI⟩, F₄, fun p hp => N₄ p (List.mem_cons_of_mem _ hp), off₄, J₄⟩
      cases f with
      | next => exact fin' h₃
      | cont => exact fin' h₃
      | brk => exact h₃
      | ret v => exact h₃
  · obtain rfl : i = its.length := Nat.le_antisymm hi (Nat.not_lt.mp hlt')
    refine W.done _ _ _ (by rw [hsz]; exact ⟨hit, hl'⟩) fun h₂ tk₂ hk₂ => ?_
    exact fin m' news' h₂ tk₂ J' (LCg.fr_but F' hk₂ hIL hI₀) (LCg.news_but N' hk₂ off')
 · intro T x h; refine dropT ?zB ?zA; simpa only using (h : DropP ?zA x); assumption
end
end
section
open PyProof.Rows.LCg (NsObj Off3 Off1 lst ns_obj fr_but news_but lst_snoc)
def Stopped (P : Prop) : Prop := P
theorem stop_here {P : Prop} (h : Stopped P) : P := h
theorem take_snoc {α : Type} {l : List α} {i : Nat} {a : α} (h : l[i]? = some a) : l.take (i + 1) = l.take i ++ [a] := by rw [List.take_add_one, h]; rfl
section
variable {prog : Program} {w : World} {A : Around} {E : Value → Shared → Prop} {s : Shared} {h₀ : Heap} {L : Addr} {m : Str → Option Value} {env : Env}
abbrev twoE (x y : Str) (py px py2 px2 : Pos) (iter : Expr) (scope : Scope) (pos : Pos) : Expr := .ListComp (.Name y py) [⟨.Name x px, iter, [], 0⟩, ⟨.Name y py2, .Name x px2, [], 0⟩] scope pos
theorem compTurn_two0 (x y : Str) (py px py2 px2 : Pos) (iter : Expr) (scope : Scope) (pos : Pos) (it acc : Value) (env : Env) :
    compTurn (twoE x y py px py2 px2 iter scope pos) 0 it acc env = (standAt iter.pos >>= fun _ => pyNext it >>= fun r => match r with
      | none => pure (.done .next)
      | some v => letOwnedTupleGo (.Name x px) it v >>= fun _ => assign (.Name x px) env v >>= fun _ =>
        eval (.Name x px2) env >>= fun z => standAt px2 >>= fun _ => foldedSetIterable (.Name x px2) env z >>= fun z => holding [z] (pyIter z) >>= fun it2 => runOwn (.compStart (twoE x y py px py2 px2 iter scope pos) 1 it2 acc env) env >>= fun _ =>
          again (.compLoop (twoE x y py px py2 px2 iter scope pos) 0 it acc env)) := by rfl
theorem compTurn_two1 (x y : Str) (py px py2 px2 : Pos) (iter : Expr) (scope : Scope) (pos : Pos) (it acc : Value) (env : Env) :
    compTurn (twoE x y py px py2 px2 iter scope pos) 1 it acc env = (standAt px2 >>= fun _ => pyNext it >>= fun r => match r with
      | none => pure (.done .next)
      | some v => letOwnedTupleGo (.Name y py2) it v >>= fun _ => assign (.Name y py2) env v >>= fun _ =>
        (eval (.Name y py) env >>= fun x => call (.builtin "list.append") [acc, x] >>= fun _ => pure ()) >>= fun _ =>
          again (.compLoop (twoE x y py px py2 px2 iter scope pos) 1 it acc env)) := by rfl
theorem start_two1 {x y : Str} {py px py2 px2 : Pos} {iter : Expr} {scope : Scope} {pos : Pos} {it acc : Value} {R : Result → Shared → Prop}
    (h0 : codeAny (model prog w) A (.compLoop (twoE x y py px py2 px2 iter scope pos) 1 it acc env) R s)
    (h : wpAny (model prog w) A (pyIter it) (fun it' s' => codeAny (model prog w) A (.compLoop (twoE x y py px py2 px2 iter scope pos) 1 it' acc env) R s')
      (notedBy (model prog w) A env fun x s' => R (.error x) s') s) :
    codeAny (model prog w) A (.compStart (twoE x y py px py2 px2 iter scope pos) 1 it acc env) R s := by
 refine @dropI _ ?_ ?_
 ·
  refine codeAny_of_tree ?_
  show wpAny _ _ ((compStart (twoE x y py px py2 px2 iter scope pos) 1 it acc env).onRaise (fun x => do noteFrame x env; standAt theWindowsPlace)) _ _ s
  refine wpAny_notedAt ?_
  unfold compStart
  show wpAny _ _ (ask >>= _) _ _ s
  refine wpAny_bind (wpAny_askSetting (wpAny_ite ?_))
  split
  · first
      | exact wpAny_bind (wpAny_pure (wpAny_pure (And.intro rfl h0)))
      | exact wpAny_pure (And.intro rfl h0)
  · first
      | exact wpAny_bind (wpAny_rule (wpAny_bind (wpAny_standAt (wpAny_bind (wpAny_mono h (fun it' s' h' => wpAny_pure (And.intro rfl h')) fun _ _ x => x)))))
      | (refine wpAny_bind (wpAny_rule ?_); show wpAny _ _ (standAt px2 >>= _) _ _ s; exact wpAny_bind (wpAny_standAt (wpAny_bind (wpAny_mono h (fun it' s' h' => wpAny_pure (And.intro rfl h')) fun _ _ x => x))))
 · intro T x h; refine dropT ?zB ?zA; simpa only using (h : DropP ?zA x); assumption
theorem loop_two1 {x y : Str} {py px py2 px2 : Pos} {iter : Expr} {scope : Scope} {pos : Pos} {it acc : Value} {R : Result → Shared → Prop} (Inv : Nat → Shared → Prop)
    (turn : ∀ n s, Inv n s → wpAny (model prog w) A (pyNext it) (fun r s₁ => match r with
      | none => R (.ok .next) s₁
      | some v => wpAny (model prog w) A (assign (.Name y py2) env v) (fun _ s₂ => wpAny (model prog w) A (eval (.Name y py) env) (fun z s₄ =>
              wpAny (model prog w) A (call (.builtin "list.append") [acc, z]) (fun _ s₅ => ∃ k, k < n ∧ Inv k s₅) (notedBy (model prog w) A env fun e s' => R (.error e) s') s₄) (notedBy (model prog w) A env fun e s' => R (.error e) s') s₂) (notedBy (model prog w) A env fun e s' => R (.error e) s') s₁) (notedBy (model prog w) A env fun e s' => R (.error e) s') s)
    (n : Nat) (h : Inv n s) : codeAny (model prog w) A (.compLoop (twoE x y py px py2 px2 iter scope pos) 1 it acc env) R s := by
 refine @dropI _ ?_ ?_
 ·
  refine codeAny_loop rfl Inv (fun n s hI => ?_) n h
  show wpAny _ A ((compTurn (twoE x y py px py2 px2 iter scope pos) 1 it acc env).onRaise (fun x => do noteFrame x env; theTreesLotGoes x)) _ _ s
  refine wpAny_noted ?_
  rw [compTurn_two1]
  refine wpAny_bind (wpAny_standAt (wpAny_bind (wpAny_mono (turn n s hI) (fun r s₁ h₁ => ?_) fun _ _ h' => h')))
  cases r with
  | none => exact wpAny_pure h₁
  | some v =>
    refine wpAny_bind (wpAny_pure (wpAny_bind (wpAny_mono h₁ (fun _ s₂ h₂ => wpAny_bind (wpAny_bind (wpAny_mono h₂ (fun z s₃ h₃ => wpAny_bind (wpAny_mono h₃ (fun _ s₄ h₄ => wpAny_pure (wpAny_pure ⟨rfl, h₄⟩)) fun _ _ h' => h')) fun _ _ h' => h'))) fun _ _ h' => h')))
 · intro T x h; refine dropT ?zB ?zA; simpa only using (h : DropP ?zA x); assumption
theorem loop_two0 {x y : Str} {py px py2 px2 : Pos} {iter : Expr} {scope : Scope} {pos : Pos} {it acc : Value} {R : Result → Shared → Prop} (hh : A.mark none = A) (Inv : Nat → Shared → Prop)
    (turn : ∀ n s, Inv n s → wpAny (model prog w) A (pyNext it) (fun r s₁ => match r with
      | none => R (.ok .next) s₁
      | some v => wpAny (model prog w) A (assign (.Name x px) env v) (fun _ s₂ => wpAny (model prog w) A (eval (.Name x px2) env) (fun z s₃ => wpAny (model prog w) A (pyIter z) (fun it2 s₄ =>
              codeAny (model prog w) A (.compStart (twoE x y py px py2 px2 iter scope pos) 1 it2 acc env) (fun r s₅ => match r with | .ok _ => ∃ k, k < n ∧ Inv k s₅ | .error _ => False) s₄)
              (notedBy (model prog w) A env fun e s' => R (.error e) s') s₃) (notedBy (model prog w) A env fun e s' => R (.error e) s') s₂) (notedBy (model prog w) A env fun e s' => R (.error e) s') s₁) (notedBy (model prog w) A env fun e s' => R (.error e) s') s)
    (n : Nat) (h : Inv n s) : codeAny (model prog w) A (.compLoop (twoE x y py px py2 px2 iter scope pos) 0 it acc env) R s := by
 refine @dropI _ ?_ ?_
 ·
  refine codeAny_loop rfl Inv (fun n s hI => ?_) n h
  show wpAny _ A ((compTurn (twoE x y py px py2 px2 iter scope pos) 0 it acc env).onRaise (fun x => do noteFrame x env; theTreesLotGoes x)) _ _ s
  refine wpAny_noted ?_
  rw [compTurn_two0]
  refine wpAny_bind (wpAny_standAt (wpAny_bind (wpAny_mono (turn n s hI) (fun r s₁ h₁ => ?_) fun _ _ h' => h')))
  cases r with
  | none => exact wpAny_pure h₁
  | some v =>
    refine wpAny_bind (wpAny_pure (wpAny_bind (wpAny_mono h₁ (fun _ s₂ h₂ => wpAny_bind (wpAny_mono h₂ (fun z s₃ h₃ => ?_) fun _ _ h' => h')) fun _ _ h' => h')))
    refine wpAny_bind (wpAny_standAt (wpAny_bind (wpAny_pure (wpAny_bind (wpAny_holding (wpAny_mono h₃ (fun it2 s₄ h₄ => ?_) fun _ _ h' => h'))))))
    refine wpAny_bind (wpAny_runOwn (h := none) ?_)
    rw [hh]
    refine codeAny_mono h₄ fun r s₅ h₅ => ?_
    cases r with
    | ok f => exact wpAny_pure ⟨rfl, h₅⟩
    | error e => exact h₅.elim
 · intro T x h; refine dropT ?zB ?zA; simpa only using (h : DropP ?zA x); assumption
def TwoIn (h₀ : Heap) (L : Addr) (m : Str → Option Value) (Q : Value → Shared → Prop) (xv : Value) (s₁ : Shared) : Prop :=
  ∃ ax its k vss news, xv = .ref ax ∧ Fr h₀ L s₁.heap m ∧ News h₀ L s₁.heap news ∧ (ax, ({ cls := .type "list", data := .seq its.toArray k } : Obj)) ∈ news ∧ its.length ≤ sizeLine ∧ vss.flatten.length ≤ sizeLine ∧ All2 (fun v vs => TupIn v vs news) its vss ∧
      ∀ D h' tk', Fr h₀ L h' m → News h₀ L h' ((D, lst vss.flatten) :: news) → (∀ p ∈ news, @LT.lt Nat _ p.1 D) → Q (.ref D) { s₁ with heap := h', toks := tk' }
theorem comp_two {x y : Str} {py px py2 px2 : Pos} {iter : Expr} {scope : Scope} {cl : List (Str × Addr)} {pos : Pos} {Q : Value → Shared → Prop} (_F₀ : Fr h₀ L s.heap m)
    (hclos : closureFor scope env = pure cl) (hcell : ∀ y ∈ scope.names, y.2 ≠ .cell) (hkind : scope.kind = .function)
    (hnames : ∀ y ∈ scope.names, y.2 = .local → scope.names.lookup y.1 = some .local) (hx : scope.names.lookup x = some .local) (hy : scope.names.lookup y = some .local) (hmark : A.mark none = A) (hh : A.handled = none)
    (hdx : (x == ("__debug__" : Str)) = false) (hdy : (y == ("__debug__" : Str)) = false)
    (h : wpAny (model prog w) A (eval iter env) (TwoIn h₀ L m Q) E s)
    (hs : ∀ x, foldedSetIterable iter env x = pure x := by intro _; rfl) :
    wpAny (model prog w) A (eval (twoE x y py px py2 px2 iter scope pos) env) Q E s := by
 refine @dropI _ ?_ ?_
 ·
  rw [eval_ListComp]
  refine wpAny_comprehension_free (use := none) rfl hs hclos hkind hnames (wpAny_mono h (fun xv s₁ h₁ => ?_) fun _ _ e => e)
  refine sealG fun pS hS9 => ?_
  obtain ⟨ax, its, k, vss, news, rfl, F, N, hm, hsz, hszf, hall, hQ⟩ := h₁
  refine hS9 ?_
  clear hS9 pS
  have hl : s₁.heap.IsList ax its.toArray := ⟨_, (N _ hm).1, rfl, k, rfl⟩
  have hlt : ax < s₁.heap.objs.size := Heap.lt_size (N _ hm).1
  refine wpAny_pyIter_list hl ?_
  refine wpAny_newObj_type (wpAny_newFunctionEnv hcell (by intro y hy; simp at hy) (fun h₁ hns₁ hsb₁ => ?_) hkind)
  dsimp only at hns₁ hsb₁ ⊢
  generalize hI : s₁.heap.objs.size = I at hlt hns₁ hsb₁ ⊢
  generalize hH1 : s₁.heap.push _ = H1 at hns₁ hsb₁ ⊢
  generalize hH2 : H1.push { cls := .type "list", dict := none, data := .seq ([] : List Value).toArray } = H2 at hns₁ hsb₁ ⊢
  have sD : H1.objs.size = I + 1 := by rw [← hH1, Heap.size_push, hI]
  have sC : H2.objs.size = H1.objs.size + 1 := by rw [← hH2, Heap.size_push]
  generalize hD : H1.objs.size = D at sD sC ⊢
  generalize hC : H2.objs.size = C at sC hns₁ hsb₁ ⊢
  have qID : @LT.lt Nat _ I D := by omega
  have qDC : @LT.lt Nat _ D C := by omega
  have qIC : @LT.lt Nat _ I C := Nat.lt_trans qID qDC
  have up : ∀ b o, s₁.heap.get? b = some o → h₁.get? b = some o := fun b o e => by
    have hb : @LT.lt Nat _ b I := hI ▸ Heap.lt_size e
    exact hsb₁.extBut b o (by show @Ne Nat _ _; first | exact Nat.ne_of_lt (by assumption) | exact Nat.ne_of_gt (by assumption) | exact Nat.ne_of_lt (Nat.lt_trans (by assumption) (by assumption)) | exact Nat.ne_of_gt (Nat.lt_trans (by assumption) (by assumption)) | omega) (Heap.get?_push_of_some _ (hH2 ▸ Heap.get?_push_of_some _ (hH1 ▸ Heap.get?_push_of_some _ e)))
  have gI : h₁.IsListIter I ax 0 := ⟨_, hsb₁.extBut _ _ (by show @Ne Nat _ _; first | exact Nat.ne_of_lt (by assumption) | exact Nat.ne_of_gt (by assumption) | exact Nat.ne_of_lt (Nat.lt_trans (by assumption) (by assumption)) | exact Nat.ne_of_gt (Nat.lt_trans (by assumption) (by assumption)) | omega) (Heap.get?_push_of_some _ (hH2 ▸ Heap.get?_push_of_some _ (hH1 ▸ (hI ▸ Heap.get?_push_size _ rfl)))), rfl, rfl⟩
  have gD : h₁.get? D = some (lst []) := hsb₁.extBut _ _ (by show @Ne Nat _ _; first | exact Nat.ne_of_lt (by assumption) | exact Nat.ne_of_gt (by assumption) | exact Nat.ne_of_lt (Nat.lt_trans (by assumption) (by assumption)) | exact Nat.ne_of_gt (Nat.lt_trans (by assumption) (by assumption)) | omega) (Heap.get?_push_of_some _ (hH2 ▸ (hD ▸ Heap.get?_push_size _ rfl)))
  have low : ∀ b o, s₁.heap.get? b = some o → @LT.lt Nat _ b I := fun b o e => hI ▸ Heap.lt_size e
  have hW := Walks.list (prog := prog) (w := w) (A := A) hh I ax (Nat.ne_of_lt hlt) its.toArray
  have hn : its.toArray.size = its.length := by simp
  -- what is kept throughout
  have fin : ∀ h' tk' m' ys, (∀ b o, s₁.heap.get? b = some o → h'.get? b = some o) → h'.Ns C m' → h'.get? D = some (lst ys) → ys = vss.flatten → compPost (model prog w) A E none Q (.ref D) C (.ok .next) { s₁ with heap := h', toks := tk' } := by
    rintro h' tk' m' ys kp hnC hgD rfl
    refine ⟨m', hnC, fun h'' hs'' => hQ D h'' tk' (F.keeps fun b o e => ?_) (fun p hp => ?_) fun p hp => by have := low _ _ (N p hp).1; omega⟩
    · exact hs''.extBut b o (by have := low b o e; show @Ne Nat _ _; first | exact Nat.ne_of_lt (by assumption) | exact Nat.ne_of_gt (by assumption) | exact Nat.ne_of_lt (Nat.lt_trans (by assumption) (by assumption)) | exact Nat.ne_of_gt (Nat.lt_trans (by assumption) (by assumption)) | omega) (kp b o e)
    · rcases List.mem_cons.mp hp with rfl | hp
      · refine ⟨hs''.extBut _ _ (by show @Ne Nat D C; first | exact Nat.ne_of_lt (by assumption) | exact Nat.ne_of_gt (by assumption) | exact Nat.ne_of_lt (Nat.lt_trans (by assumption) (by assumption)) | exact Nat.ne_of_gt (Nat.lt_trans (by assumption) (by assumption)) | omega) hgD, ?_, ?_⟩
        · have := low _ _ F.ns.choose_spec.choose_spec.choose_spec.1
          show @Ne Nat D L; first | exact Nat.ne_of_lt (by assumption) | exact Nat.ne_of_gt (by assumption) | exact Nat.ne_of_lt (Nat.lt_trans (by assumption) (by assumption)) | exact Nat.ne_of_gt (Nat.lt_trans (by assumption) (by assumption)) | omega
        · cases e : h₀.get? D with
          | none => rfl
          | some o => have := low _ _ (F.keep _ _ e); omega
      · exact ⟨hs''.extBut _ _ (by have := low _ _ (N p hp).1; show @Ne Nat _ _; first | exact Nat.ne_of_lt (by assumption) | exact Nat.ne_of_gt (by assumption) | exact Nat.ne_of_lt (Nat.lt_trans (by assumption) (by assumption)) | exact Nat.ne_of_gt (Nat.lt_trans (by assumption) (by assumption)) | omega) (kp _ _ (N p hp).1), (N p hp).2⟩
  have loop : ∀ s₃ : Shared, s₃ = { s₁ with heap := h₁, toks := s₁.toks + ([] : List (Str × Value)).length } →
      codeAny (model prog w) A (.compLoop (twoE x y py px py2 px2 iter scope pos) 0 (.ref I) (.ref D) (compEnvC scope cl C env)) (compPost (model prog w) A E none Q (.ref D) C) s₃ := by
    rintro s₃ rfl
    refine loop_two0 hmark (fun n s' => ∃ h' tk i m', s' = { s₁ with heap := h', toks := tk } ∧ i ≤ its.length ∧ n = its.length + 1 - i ∧ h'.IsListIter I ax i ∧ h'.Ns C m' ∧ h'.get? D = some (lst (vss.take i).flatten) ∧ (∀ b o, s₁.heap.get? b = some o → h'.get? b = some o)) ?_ (its.length + 1)
      ⟨h₁, _, 0, _, rfl, Nat.zero_le _, rfl, gI, hns₁, gD, up⟩
    intro n s' hR29
    refine sealG fun pS hS9 => ?_
    obtain ⟨h', tk, i, m', rfl, hi, rfl, hit, hnC, hgD, kp⟩ := hR29
    refine hS9 ?_
    clear hS9 pS
    have hl' : h'.IsList ax its.toArray := ⟨_, kp _ _ (N _ hm).1, rfl, k, rfl⟩
    by_cases hlt' : i < its.length
    · refine hW.item i _ _ _ (by rw [hn]; exact hlt') ⟨hit, hl'⟩ fun v h₂ tk₂ hPv hst₂ hk₂ => ?_
      have hv : its[i]? = some v := by simpa using hPv
      refine sealG fun pS hS9 => ?_
      obtain ⟨vs, hvs, t, nt, rfl, hmt⟩ := hall.get hv
      refine hS9 ?_
      clear hS9 pS
      have kI : ∀ b o, b ≠ I → h'.get? b = some o → h₂.get? b = some o := fun b o hb e => hk₂ b o (by simpa using hb) e
      refine wpAny_assign_Name (wpAny_storeName_local (lookup_relabel_local hx) (hnC.at' fun o e => kI _ o (by show @Ne Nat C I; first | exact Nat.ne_of_lt (by assumption) | exact Nat.ne_of_gt (by assumption) | exact Nat.ne_of_lt (Nat.lt_trans (by assumption) (by assumption)) | exact Nat.ne_of_gt (Nat.lt_trans (by assumption) (by assumption)) | omega) e) (fun h₃ hn₃ hs₃ => ?_) (by simp [compEnvC, relabel, hkind]))
      refine wpAny_Name (wpAny_loadName_local (by simp [compEnvC, relabel, hkind]) (lookup_relabel_local hx) hn₃ (if_pos rfl) ?_) hdx
      have kp₃ : ∀ b o, s₁.heap.get? b = some o → h₃.get? b = some o := fun b o e => hs₃.extBut b o (by have := low b o e; show @Ne Nat b C; first | exact Nat.ne_of_lt (by assumption) | exact Nat.ne_of_gt (by assumption) | exact Nat.ne_of_lt (Nat.lt_trans (by assumption) (by assumption)) | exact Nat.ne_of_gt (Nat.lt_trans (by assumption) (by assumption)) | omega) (kI b o (by have := low b o e; show @Ne Nat _ _; first | exact Nat.ne_of_lt (by assumption) | exact Nat.ne_of_gt (by assumption) | exact Nat.ne_of_lt (Nat.lt_trans (by assumption) (by assumption)) | exact Nat.ne_of_gt (Nat.lt_trans (by assumption) (by assumption)) | omega) (kp b o e))
      have ht : h₃.IsTuple t vs.toArray := ⟨_, kp₃ _ _ (N _ hmt).1, rfl, nt, rfl⟩
      have htl : @LT.lt Nat _ t I := low _ _ (N _ hmt).1
      refine wpAny_pyIter_tuple ht ?_
      have hgD₃ : h₃.get? D = some (lst (vss.take i).flatten) := hs₃.extBut _ _ (by show @Ne Nat D C; first | exact Nat.ne_of_lt (by assumption) | exact Nat.ne_of_gt (by assumption) | exact Nat.ne_of_lt (Nat.lt_trans (by assumption) (by assumption)) | exact Nat.ne_of_gt (Nat.lt_trans (by assumption) (by assumption)) | omega) (kI _ _ (by show @Ne Nat _ _; first | exact Nat.ne_of_lt (by assumption) | exact Nat.ne_of_gt (by assumption) | exact Nat.ne_of_lt (Nat.lt_trans (by assumption) (by assumption)) | exact Nat.ne_of_gt (Nat.lt_trans (by assumption) (by assumption)) | omega) hgD)
      have hit₃ : h₃.IsListIter I ax (i + 1) := hst₂.1.at fun o e => hs₃.extBut _ _ (by show @Ne Nat I C; first | exact Nat.ne_of_lt (by assumption) | exact Nat.ne_of_gt (by assumption) | exact Nat.ne_of_lt (Nat.lt_trans (by assumption) (by assumption)) | exact Nat.ne_of_gt (Nat.lt_trans (by assumption) (by assumption)) | omega) e
      have hCl : @LT.lt Nat _ C h₃.objs.size := hn₃.lt
      generalize hI2 : h₃.objs.size = I2 at hCl ⊢
      have qI2 : @LT.lt Nat _ I I2 := Nat.lt_trans qIC hCl
      have qD2 : @LT.lt Nat _ D I2 := Nat.lt_trans qDC hCl
      dsimp only
      have hW2 := Walks.tuple (prog := prog) (w := w) (A := A) hh I2 t (by show @Ne Nat _ _; first | exact Nat.ne_of_lt (by assumption) | exact Nat.ne_of_gt (by assumption) | exact Nat.ne_of_lt (Nat.lt_trans (by assumption) (by assumption)) | exact Nat.ne_of_gt (Nat.lt_trans (by assumption) (by assumption)) | omega) vs.toArray
      have hn2 : vs.toArray.size = vs.length := by simp
      have hflat : (vss.take (i + 1)).flatten = (vss.take i).flatten ++ vs := by rw [List.take_add_one, hvs]; simp
      have hpre : (vss.take i).flatten.length + vs.length ≤ vss.flatten.length := by
        rw [← List.length_append, ← hflat]
        have : vss.flatten = (vss.take (i + 1)).flatten ++ (vss.drop (i + 1)).flatten := by rw [← List.flatten_append, List.take_append_drop]
        rw [this, List.length_append]
        exact Nat.le_add_right _ _
      have loop2 : ∀ s₅ : Shared, s₅ = { s₁ with heap := h₃.push { cls := .type "tuple_iterator", data := .fields #[.ref t, .int 0 0] }, toks := s₅.toks } →
          codeAny (model prog w) A (.compLoop (twoE x y py px py2 px2 iter scope pos) 1 (.ref I2) (.ref D) (compEnvC scope cl C env)) (fun r s₅ => match r with
            | .ok _ => ∃ k, k < its.length + 1 - i ∧ ∃ h' tk i m', s₅ = { s₁ with heap := h', toks := tk } ∧ i ≤ its.length ∧ k = its.length + 1 - i ∧ h'.IsListIter I ax i ∧ h'.Ns C m' ∧ h'.get? D = some (lst (vss.take i).flatten) ∧ (∀ b o, s₁.heap.get? b = some o → h'.get? b = some o)
            | .error _ => False) s₅ := by
        intro s₅ hs₅
        have up5 : ∀ b o, h₃.get? b = some o → (h₃.push { cls := .type "tuple_iterator", data := .fields #[.ref t, .int 0 0] }).get? b = some o := fun b o e => Heap.get?_push_of_some _ e
        refine loop_two1 (fun n s' => ∃ h' tk j m', s' = { s₁ with heap := h', toks := tk } ∧ j ≤ vs.length ∧ n = vs.length + 1 - j ∧ h'.IsTupleIter I2 t j ∧ h'.IsListIter I ax (i + 1) ∧ h'.Ns C m' ∧ h'.get? D = some (lst ((vss.take i).flatten ++ vs.take j)) ∧ (∀ b o, s₁.heap.get? b = some o → h'.get? b = some o)) ?_ (vs.length + 1)
          ⟨_, _, 0, _, hs₅, Nat.zero_le _, rfl, ⟨_, hI2 ▸ Heap.get?_push_size _ rfl, rfl, rfl⟩, hit₃.at fun o e => up5 _ o e, hn₃.at' fun o e => up5 _ o e, by rw [List.take_zero, List.append_nil]; exact up5 _ _ hgD₃, fun b o e => up5 _ _ (kp₃ b o e)⟩
        intro n s' hR29
        refine sealG fun pS hS9 => ?_
        obtain ⟨h₅, tk₅, j, m₅, rfl, hj, rfl, hit2, hitI, hnC₅, hgD₅, kp₅⟩ := hR29
        refine hS9 ?_
        clear hS9 pS
        have ht₅ : h₅.IsTuple t vs.toArray := ⟨_, kp₅ _ _ (N _ hmt).1, rfl, nt, rfl⟩
        by_cases hlt₅ : j < vs.length
        · refine hW2.item j _ _ _ (by rw [hn2]; exact hlt₅) ⟨hit2, ht₅⟩ fun v h₆ tk₆ hPv₆ hst₆ hk₆ => ?_
          have hv₆ : vs[j]? = some v := by simpa using hPv₆
          have kI2 : ∀ b o, b ≠ I2 → h₅.get? b = some o → h₆.get? b = some o := fun b o hb e => hk₆ b o (by simpa using hb) e
          refine wpAny_assign_Name (wpAny_storeName_local (lookup_relabel_local hy) (hnC₅.at' fun o e => kI2 _ o (by show @Ne Nat C I2; first | exact Nat.ne_of_lt (by assumption) | exact Nat.ne_of_gt (by assumption) | exact Nat.ne_of_lt (Nat.lt_trans (by assumption) (by assumption)) | exact Nat.ne_of_gt (Nat.lt_trans (by assumption) (by assumption)) | omega) e) (fun h₇ hn₇ hs₇ => ?_) (by simp [compEnvC, relabel, hkind]))
          refine wpAny_Name (wpAny_loadName_local (by simp [compEnvC, relabel, hkind]) (lookup_relabel_local hy) hn₇ (if_pos rfl) ?_) hdy
          have k7 : ∀ b o, b ≠ I2 → b ≠ C → h₅.get? b = some o → h₇.get? b = some o := fun b o h1 h2 e => hs₇.extBut b o h2 (kI2 b o h1 e)
          refine append_at (hsz := by rw [List.size_toArray, List.length_append, List.length_take]; omega) (k7 _ _ (by show @Ne Nat _ _; first | exact Nat.ne_of_lt (by assumption) | exact Nat.ne_of_gt (by assumption) | exact Nat.ne_of_lt (Nat.lt_trans (by assumption) (by assumption)) | exact Nat.ne_of_gt (Nat.lt_trans (by assumption) (by assumption)) | omega) (by show @Ne Nat _ _; first | exact Nat.ne_of_lt (by assumption) | exact Nat.ne_of_gt (by assumption) | exact Nat.ne_of_lt (Nat.lt_trans (by assumption) (by assumption)) | exact Nat.ne_of_gt (Nat.lt_trans (by assumption) (by assumption)) | omega) hgD₅) fun h₈ hs₈ hD₈ => ?_
          refine ⟨vs.length + 1 - (j + 1), dec_lt (by assumption), h₈, _, j + 1, _, rfl, hlt₅, rfl, (hst₆.1.at fun o e => hs₇.extBut _ _ (by show @Ne Nat I2 C; first | exact Nat.ne_of_lt (by assumption) | exact Nat.ne_of_gt (by assumption) | exact Nat.ne_of_lt (Nat.lt_trans (by assumption) (by assumption)) | exact Nat.ne_of_gt (Nat.lt_trans (by assumption) (by assumption)) | omega) e).at fun o e => hs₈.extBut _ _ (by show @Ne Nat _ _; first | exact Nat.ne_of_lt (by assumption) | exact Nat.ne_of_gt (by assumption) | exact Nat.ne_of_lt (Nat.lt_trans (by assumption) (by assumption)) | exact Nat.ne_of_gt (Nat.lt_trans (by assumption) (by assumption)) | omega) e, hitI.at fun o e => hs₈.extBut _ _ (by show @Ne Nat _ _; first | exact Nat.ne_of_lt (by assumption) | exact Nat.ne_of_gt (by assumption) | exact Nat.ne_of_lt (Nat.lt_trans (by assumption) (by assumption)) | exact Nat.ne_of_gt (Nat.lt_trans (by assumption) (by assumption)) | omega) (k7 _ _ (by show @Ne Nat _ _; first | exact Nat.ne_of_lt (by assumption) | exact Nat.ne_of_gt (by assumption) | exact Nat.ne_of_lt (Nat.lt_trans (by assumption) (by assumption)) | exact Nat.ne_of_gt (Nat.lt_trans (by assumption) (by assumption)) | omega) (by show @Ne Nat _ _; first | exact Nat.ne_of_lt (by assumption) | exact Nat.ne_of_gt (by assumption) | exact Nat.ne_of_lt (Nat.lt_trans (by assumption) (by assumption)) | exact Nat.ne_of_gt (Nat.lt_trans (by assumption) (by assumption)) | omega) e),
            hn₇.sameBut hs₈ (by show @Ne Nat C D; first | exact Nat.ne_of_lt (by assumption) | exact Nat.ne_of_gt (by assumption) | exact Nat.ne_of_lt (Nat.lt_trans (by assumption) (by assumption)) | exact Nat.ne_of_gt (Nat.lt_trans (by assumption) (by assumption)) | omega), ?_, fun b o e => by have hlo := low b o e; exact hs₈.extBut _ _ (by show @Ne Nat _ _; first | exact Nat.ne_of_lt (by assumption) | exact Nat.ne_of_gt (by assumption) | exact Nat.ne_of_lt (Nat.lt_trans (by assumption) (by assumption)) | exact Nat.ne_of_gt (Nat.lt_trans (by assumption) (by assumption)) | omega) (k7 _ _ (by show @Ne Nat _ _; first | exact Nat.ne_of_lt (by assumption) | exact Nat.ne_of_gt (by assumption) | exact Nat.ne_of_lt (Nat.lt_trans (by assumption) (by assumption)) | exact Nat.ne_of_gt (Nat.lt_trans (by assumption) (by assumption)) | omega) (by show @Ne Nat _ _; first | exact Nat.ne_of_lt (by assumption) | exact Nat.ne_of_gt (by assumption) | exact Nat.ne_of_lt (Nat.lt_trans (by assumption) (by assumption)) | exact Nat.ne_of_gt (Nat.lt_trans (by assumption) (by assumption)) | omega) (kp₅ b o e))⟩
          rw [hD₈, List.take_add_one, hv₆, Option.toList_some, ← List.append_assoc]
          exact congrArg some (lst_snoc _ _)
        · obtain rfl : j = vs.length := Nat.le_antisymm hj (Nat.not_lt.mp hlt₅)
          refine hW2.done _ _ _ (by rw [hn2]; exact ⟨hit2, ht₅⟩) fun h₆ tk₆ hk₆ => ?_
          have kI2 : ∀ b o, b ≠ I2 → h₅.get? b = some o → h₆.get? b = some o := fun b o hb e => hk₆ b o (by simpa using hb) e
          refine ⟨its.length + 1 - (i + 1), dec_lt (by assumption), h₆, tk₆, i + 1, m₅, rfl, hlt', rfl, hitI.at fun o e => kI2 _ o (by show @Ne Nat _ _; first | exact Nat.ne_of_lt (by assumption) | exact Nat.ne_of_gt (by assumption) | exact Nat.ne_of_lt (Nat.lt_trans (by assumption) (by assumption)) | exact Nat.ne_of_gt (Nat.lt_trans (by assumption) (by assumption)) | omega) e, hnC₅.at' fun o e => kI2 _ o (by show @Ne Nat _ _; first | exact Nat.ne_of_lt (by assumption) | exact Nat.ne_of_gt (by assumption) | exact Nat.ne_of_lt (Nat.lt_trans (by assumption) (by assumption)) | exact Nat.ne_of_gt (Nat.lt_trans (by assumption) (by assumption)) | omega) e, kI2 _ _ (by show @Ne Nat _ _; first | exact Nat.ne_of_lt (by assumption) | exact Nat.ne_of_gt (by assumption) | exact Nat.ne_of_lt (Nat.lt_trans (by assumption) (by assumption)) | exact Nat.ne_of_gt (Nat.lt_trans (by assumption) (by assumption)) | omega) (by rw [hflat, ← List.take_length (l := vs)]; simpa using hgD₅), fun b o e => by have hlo := low b o e; exact kI2 _ _ (by show @Ne Nat _ _; first | exact Nat.ne_of_lt (by assumption) | exact Nat.ne_of_gt (by assumption) | exact Nat.ne_of_lt (Nat.lt_trans (by assumption) (by assumption)) | exact Nat.ne_of_gt (Nat.lt_trans (by assumption) (by assumption)) | omega) (kp₅ b o e)⟩
      exact start_two1 (loop2 _ rfl) (hW2.self 0 _ _ _ ⟨⟨_, hI2 ▸ Heap.get?_push_size _ rfl, rfl, rfl⟩, ⟨_, Heap.get?_push_of_some _ (kp₃ _ _ (N _ hmt).1), rfl, nt, rfl⟩⟩ (loop2 _ rfl))
    · obtain rfl : i = its.length := Nat.le_antisymm hi (Nat.not_lt.mp hlt')
      refine hW.done _ _ _ (by rw [hn]; exact ⟨hit, hl'⟩) fun h₂ tk₂ hk₂ => ?_
      have kI : ∀ b o, b ≠ I → h'.get? b = some o → h₂.get? b = some o := fun b o hb e => hk₂ b o (by simpa using hb) e
      exact fin h₂ tk₂ m' _ (fun b o e => kI b o (by have := low b o e; show @Ne Nat _ _; first | exact Nat.ne_of_lt (by assumption) | exact Nat.ne_of_gt (by assumption) | exact Nat.ne_of_lt (Nat.lt_trans (by assumption) (by assumption)) | exact Nat.ne_of_gt (Nat.lt_trans (by assumption) (by assumption)) | omega) (kp b o e)) (hnC.at' fun o e => kI _ o (by show @Ne Nat _ _; first | exact Nat.ne_of_lt (by assumption) | exact Nat.ne_of_gt (by assumption) | exact Nat.ne_of_lt (Nat.lt_trans (by assumption) (by assumption)) | exact Nat.ne_of_gt (Nat.lt_trans (by assumption) (by assumption)) | omega) e) (kI _ _ (by show @Ne Nat _ _; first | exact Nat.ne_of_lt (by assumption) | exact Nat.ne_of_gt (by assumption) | exact Nat.ne_of_lt (Nat.lt_trans (by assumption) (by assumption)) | exact Nat.ne_of_gt (Nat.lt_trans (by assumption) (by assumption)) | omega) hgD) (by rw [List.take_of_length_le (by have := hall.length; omega)])
  exact codeAny_compStart_list (loop _ rfl) (hW.self 0 _ _ _ ⟨gI, ⟨_, up _ _ (N _ hm).1, rfl, k, rfl⟩⟩ (loop _ rfl))
 · intro T x h; refine dropT ?zB ?zA; simpa only using (h : DropP ?zA x); assumption
end
theorem filt_no {ys : List Value} {i : Nat} {a b c : Bool} (h : ys.length ≤ i ∧ (ys = [] ↔ a = false)) (e : b = (a || c)) (hc : c = false) : ys.length ≤ i + 1 ∧ (ys = [] ↔ b = false) := by
  subst e hc; exact ⟨Nat.le_succ_of_le h.1, by rw [Bool.or_false]; exact h.2⟩
theorem filt_yes {ys : List Value} {y : Value} {i : Nat} {a b c : Bool} (h : ys.length ≤ i ∧ (ys = [] ↔ a = false)) (e : b = (a || c)) (hc : c = true) : (ys ++ [y]).length ≤ i + 1 ∧ (ys ++ [y] = [] ↔ b = false) := by
  subst e hc; exact ⟨by rw [List.length_append]; exact Nat.succ_le_succ h.1, by simp⟩
def Cov (news FL : Led) : Prop := ∀ p ∈ FL, p ∈ news ∨ ∀ q ∈ news, @LT.lt Nat _ q.1 p.1
theorem Cov.self {news : Led} : Cov news news := fun _ h => .inl h
theorem Cov.cons {news FL : Led} {a : Addr} {o : Obj} (h : ∀ q ∈ news, @LT.lt Nat _ q.1 a) (c : Cov news FL) : Cov news ((a, o) :: FL) := fun p hp => by
  rcases List.mem_cons.mp hp with rfl | hp
  · exact .inr h
  · exact c p hp
theorem Cov.app {news FL tl led : Led} (h : ∀ q ∈ led, ∀ p ∈ tl, @LT.lt Nat _ q.1 p.1) (hs : ∀ q ∈ news, q ∈ led) (c : Cov news FL) : Cov news (tl ++ FL) := fun p hp => by
  rcases List.mem_append.mp hp with hp | hp
  · exact .inr fun q hq => h q (hs q hq) p hp
  · exact c p hp
def LeAll (D : Addr) (led : Led) : Prop := ∀ p ∈ led, @LE.le Nat _ p.1 D
theorem LeAll.cons {D a : Addr} {o : Obj} {led : Led} (h : @LE.le Nat _ a D) (l : LeAll D led) : LeAll D ((a, o) :: led) := fun p hp => by
  rcases List.mem_cons.mp hp with rfl | hp
  · exact h
  · exact l p hp
end
section
section
variable {prog : Program} {w : World} {A : Around} {E : Value → Shared → Prop} {s : Shared}
theorem adjust_part (a c n : Nat) (ha : a ≤ n) : Builtin.Slice.sliceAdjust (some (a : Int)) (some (c : Int)) 1 (n : Int) = ((a : Int), ((min c n : Nat) : Int)) := by
 refine @dropI _ ?_ ?_
 ·
  unfold Builtin.Slice.sliceAdjust
  have h1 : ¬ ((1 : Int) < 0) := by omega
  have h2 : ¬ ((a : Int) < 0) := by omega
  have h3 : ¬ ((c : Int) < 0) := by omega
  simp only [h1, h2, h3, if_false]
  congr 1 <;> omega
 · intro T x h; refine dropT ?zB ?zA; simpa only using (h : DropP ?zA x); assumption
theorem places_part (a c : Nat) : Builtin.Slice.slicePlaces (a : Int) (c : Int) 1 = c - a := by
 refine @dropI _ ?_ ?_
 ·
  unfold Builtin.Slice.slicePlaces
  have h1 : (1 : Int) > 0 := by omega
  simp only [h1, if_true, Int.ediv_one]
  split
  · rw [Int.sub_add_cancel]; exact Int.toNat_sub c a
  · exact (Nat.sub_eq_zero_of_le (Int.ofNat_le.mp (Int.not_lt.mp (by assumption)))).symm
 · intro T x h; refine dropT ?zB ?zA; simpa only using (h : DropP ?zA x); assumption
theorem sliceApplied_part {sl : Addr} {a c n : Nat} {u u' : Tok} {Q : Int × Int × Nat → Shared → Prop} (hs : s.heap.IsSliceOf sl (.int a u) (.int c u') .none) (ha : a ≤ n) (h : Q ((a : Int), 1, min c n - a) s) :
    wpAny (model prog w) A (Builtin.Slice.sliceApplied (.ref sl) (pure (n : Int))) Q E s := by
 refine @dropI _ ?_ ?_
 ·
  refine sealG fun pS hS9 => ?_
  obtain ⟨os, hos, hcs, hds⟩ := id hs
  refine hS9 ?_
  clear hS9 pS
  unfold Builtin.Slice.sliceApplied Builtin.Slice.sliceFields
  refine wpAny_bind (wpAny_bind (wpAny_field hos hds (x := .int a u) rfl (wpAny_bind (wpAny_field hos hds (x := .int c u') rfl (wpAny_bind (wpAny_field hos hds (x := .none) rfl (wpAny_pure ?_)))))))
  refine wpAny_bind (slicePart_none ?_)
  show wpAny _ _ (if ((1 : Int) == 0) = true then _ else _) _ _ s
  rw [if_neg (by decide)]
  refine wpAny_bind (slicePart_int (wpAny_bind (slicePart_int (wpAny_bind (wpAny_pure ?_)))))
  show wpAny _ _ (match Builtin.Slice.sliceAdjust (some (a : Int)) (some (c : Int)) 1 (n : Int) with | (lo, hi) => pure (lo, (1 : Int), Builtin.Slice.slicePlaces lo hi 1)) _ _ s
  rw [adjust_part a c n ha]
  show wpAny _ _ (pure ((a : Int), (1 : Int), Builtin.Slice.slicePlaces (a : Int) ((min c n : Nat) : Int) 1)) _ _ s
  rw [places_part a (min c n)]
  exact wpAny_pure h
 · intro T x h; refine dropT ?zB ?zA; simpa only using (h : DropP ?zA x); assumption
theorem pick_part (xs : Array Value) (a k : Nat) : ((List.range k).filterMap fun (i : Nat) => xs[((a : Int) + (i : Int) * 1).toNat]?).toArray = ((xs.toList.drop a).take k).toArray := by
 refine @dropI _ ?_ ?_
 ·
  have e : (fun (i : Nat) => xs[((a : Int) + (i : Int) * 1).toNat]?) = fun i => xs[a + i]? := by
    funext i
    have : ((a : Int) + (i : Int) * 1).toNat = a + i := by rw [Int.mul_one]; rfl
    rw [this]
  rw [e]
  have := pick_run xs a k
  rw [List.filterMap_map] at this
  have e2 : ((fun x => xs[x]?) ∘ fun x => a + x) = fun k => xs[a + k]? := rfl
  rw [e2] at this
  rw [this]
 · intro T x h; refine dropT ?zB ?zA; simpa only using (h : DropP ?zA x); assumption
theorem getItem_tuple_part {t sl : Addr} {items : Array Value} {a c : Nat} {u u' : Tok} {Q : Value → Shared → Prop} (ht : IsTup s.heap t items) (hs : s.heap.IsSliceOf sl (.int a u) (.int c u') .none) (ha : a ≤ items.size) (hw : min c items.size - a ≠ items.size)
    (h : Q (.ref s.heap.objs.size) { s with heap := s.heap.push { cls := .type "tuple", data := .seq ((items.toList.drop a).take (min c items.size - a)).toArray } })
    (hsz : items.size ≤ sizeLine) : wpAny (model prog w) A (getItem (.ref t) (.ref sl)) Q E s := by
 refine @dropI _ ?_ ?_
 ·
  have hdrop : sizeOk (.seq ((items.toList.drop a).take (min c items.size - a)).toArray) := by
    show ((items.toList.drop a).take (min c items.size - a)).toArray.size ≤ sizeLine
    rw [List.size_toArray, List.length_take, List.length_drop, Array.length_toList]
    exact Nat.le_trans (Nat.min_le_right _ _) (Nat.le_trans (Nat.sub_le _ _) hsz)
  refine sealG fun pS hS9 => ?_
  obtain ⟨os, hos, hcs, hds⟩ := id hs
  refine hS9 ?_
  clear hS9 pS
  have hTs : s.TypeIs (.ref sl) "slice" := ⟨os, hos, hcs⟩
  unfold getItem
  try with_reducible refine wpAny_holding ?_
  first | refine wpAny_bind (wpAny_pure ?_) | skip
  refine wpAny_bind (wpAny_sequenceKey ht.typeIs (by decide) ?_)
  refine wpAny_bind (wpAny_callSpecial?_slot (name := Str.ofString "__getitem__") ht.typeIs slot_tuple_getitem
    (wpAny_call_entry slot_tuple_getitem ht.typeIs entry_tuple_getitem ?_ (args_tuple_getitem _ _)))
  show wpAny _ _ (Builtin.Tuple.tupleItemsOf (.ref t) >>= _) _ _ s
  refine wpAny_bind (tupleItemsOf_ ht ?_)
  refine wpAny_bind (wpAny_typeOf hTs ?_)
  rw [if_pos (by decide)]
  refine wpAny_bind (sliceApplied_part hs ha ?_)
  have hno : ¬ (((a : Int) == 0 && (1 : Int) == 1 && (min c items.size - a) == items.size) = true) := by
    have : ((min c items.size - a) == items.size) = false := by rw [beq_eq_false_iff_ne]; exact hw
    rw [this]; simp
  show wpAny _ _ (if ((a : Int) == 0 && (1 : Int) == 1 && (min c items.size - a) == items.size) = true then _ else _) _ _ s
  rw [if_neg hno, pick_part items a]
  first
    | exact wpAny_bind (m := Builtin.Tuple.tupleExact _) (wpAny_newObj_type (wpAny_pure ⟨_, rfl, wpAny_pure h⟩) hdrop)
    | exact wpAny_bind (m := Builtin.Tuple.tupleExact _) (wpAny_newObj_type (wpAny_bind (wpAny_pure (wpAny_pure ⟨_, rfl, wpAny_pure h⟩))) hdrop)
    | exact wpAny_bind (wpAny_bind (m := Builtin.Tuple.tupleExact _) (wpAny_newObj_type (wpAny_pure (wpAny_pure ⟨_, rfl, wpAny_pure h⟩)) hdrop))
    | exact wpAny_bind (wpAny_bind (m := Builtin.Tuple.tupleExact _) (wpAny_newObj_type (wpAny_pure ⟨_, rfl, wpAny_pure h⟩) hdrop))
 · intro T x h; refine dropT ?zB ?zA; simpa only using (h : DropP ?zA x); assumption
theorem slice_part {h₀ : Heap} {L t : Addr} {m : Str → Option Value} {news : Led} {value slice : Expr} {vs : List Value} {n : Nat} {x y : Int} {u u' : Tok} {Q : Value → Shared → Prop}
    (F : Fr h₀ L s.heap m) (N : News h₀ L s.heap news) (hm : (t, tupO vs n) ∈ news) (h0 : 0 ≤ x) (hx : x ≤ vs.length) (hy : 0 ≤ y) (hw : min y.toNat vs.length - x.toNat ≠ vs.length)
    (h : ∀ D h', Fr h₀ L h' m → News h₀ L h' ((D, tupO ((vs.drop x.toNat).take (min y.toNat vs.length - x.toNat))) :: news) → (∀ p ∈ news, @LT.lt Nat _ p.1 D) → Q (.ref D) { s with heap := h' })
    (hs : subscripted slice false (.ref t) (.ref s.heap.objs.size) = operate [.ref s.heap.objs.size, .ref t] (getItem (.ref t) (.ref s.heap.objs.size)))
    (hg : ∀ r, letTemporaryGo value (.ref t) r = pure ()) (hsz : vs.length ≤ sizeLine) :
    wpAny (model prog w) A (subscriptTail value slice (.ref t) (.ref s.heap.objs.size)) Q E { s with heap := s.heap.push { cls := .type "slice", data := .fields #[.int x u, .int y u', .none] } } := by
 refine @dropI _ ?_ ?_
 ·
  obtain ⟨a, rfl⟩ : ∃ a : Nat, x = (a : Int) := ⟨x.toNat, (Int.toNat_of_nonneg (by assumption)).symm⟩
  obtain ⟨c, rfl⟩ : ∃ c : Nat, y = (c : Int) := ⟨y.toNat, (Int.toNat_of_nonneg (by assumption)).symm⟩
  simp only [Int.toNat_natCast] at hw h
  have ht' : IsTup (s.heap.push { cls := .type "slice", data := .fields #[.int a u, .int c u', .none] }) t vs.toArray := ⟨_, Heap.get?_push_of_some _ (N _ hm).1, rfl, n, rfl⟩
  have N1 := News.push (F.push { cls := .type "slice", data := .fields #[.int a u, .int c u', .none] }) (N.grown fun _ _ e => Heap.get?_push_of_some _ e) { cls := .type "tuple", data := .seq ((vs.drop a).take (min c vs.length - a)).toArray }
  refine subscriptTail_ops (s := { s with heap := s.heap.push { cls := .type "slice", data := .fields #[.int a u, .int c u', .none] } }) ht'.typeIs slot_tuple_getitem.lookup
    (getItem_tuple_part ht' (Heap.IsSliceOf.new ..) (by simpa using hx) (by simpa using hw) ?_ (by simpa using hsz)) hs hg
  rw [Heap.size_push] at N1
  show Q (.ref (s.heap.push _).objs.size) _
  rw [Heap.size_push]
  refine h _ _ ((F.push _).push _) ?_ fun p hp => Nat.lt_succ_of_lt (Heap.lt_size (N p hp).1)
  simpa using N1
 · intro T x h; refine dropT ?zB ?zA; simpa only using (h : DropP ?zA x); assumption
end
end
section
theorem list_no_keys {prog : Program} {w : World} {A : Around} {E : Value → Shared → Prop} {s : Shared} {a : Addr} {xs : Array Value} {k : Nat} {sl : Array (Option Value)} {Q : Option Value → Shared → Prop} (hh : A.handled = none)
    (hx : s.heap.get? a = some { cls := .type "list", dict := none, data := .seq xs k, slots := sl })
    (h : ∀ h' tk, (∀ b o, s.heap.get? b = some o → h'.get? b = some o) → Q none { s with heap := h', toks := tk }) :
    wpAny (model prog w) A (getAttr? (.ref a) "keys") Q E s := by
 refine @dropI _ ?_ ?_
 ·
  refine sealG fun pS hS9 => ?_
  obtain ⟨hp, g, d, tk, os⟩ := s
  refine hS9 ?_
  clear hS9 pS
  have hT : ∀ tk', (⟨hp, g, d, tk', os⟩ : Shared).TypeIs (.ref a) "list" := fun _ => ⟨_, hx, rfl⟩
  have f1 := sub_AttributeError
  have f3 := F.slot_list_getattribute.lookup
  have f4 := F.slot_list_getattribute.bind (.ref a)
  have f5 := am_list_getattr_none
  have hmiss : typeLookup (.type "list") ("keys" : Str) = pure none := am_miss_of_fast (by decide +kernel)
  have hname : (["__module__", "__name__", "__qualname__", "__doc__", "__annotations__"] : List Str).contains ("keys" : Str) = false := by decide
  unfold getAttr? getAttrBy? getAttrBy
  repeat (any_goals (first | assumption | exact hT _ | ((with_reducible show wpAny _ _ (call (Value.builtin "list.__getattribute__") _ _) _ _ _); refine call_meets F.slot_list_getattribute (hT _) am_entry_list_getattribute (F.args_list_getattribute_2 _ _) (meets_getattribute_miss_list a xs k sl _ _ hmiss hname) ⟨hx, hh, fun h' tk' e hx' => ?_⟩) | wp_step))
  obtain ⟨t', u', he⟩ := hx'.there
  show wpAny _ _ (getattributeRaised _ _ _ _ _ _ _) _ _ _
  unfold getattributeRaised
  repeat (any_goals (first | assumption | wp_step))
  exact h _ _ hx'.keeps
 · intro T x h; refine dropT ?zB ?zA; simpa only using (h : DropP ?zA x); assumption
theorem entry_dul : entryFor table "dict.update.loop" = some Builtin.«dict.update.loop» := entryFor_of_tree (by kernel_rfl)
theorem plain_dul : plainId "dict.update.loop" = true := by decide +kernel
section
variable {prog : Program} {w : World} {A : Around} {E : Value → Shared → Prop}
abbrev PairH (h : Heap) (v : Value) (kv : Str × Value) : Prop := ∃ t tk n, v = .ref t ∧ h.get? t = some ({ cls := .type "tuple", data := .seq #[.str kv.1 tk, kv.2] n } : Obj)
theorem pair_items {s : Shared} {v : Value} {kv : Str × Value} {Q : List Value → Shared → Prop} (h : PairH s.heap v kv) (hq : ∀ tk, Q [.str kv.1 tk, kv.2] s) : wpAny (model prog w) A (Builtin.Dict.pairItems v) Q E s := by
 refine @dropI _ ?_ ?_
 ·
  refine sealG fun pS hS9 => ?_
  obtain ⟨t, tk, n, rfl, ht⟩ := h
  obtain ⟨hp, g, d, tk', os⟩ := s
  refine hS9 ?_
  clear hS9 pS
  have hT : (⟨hp, g, d, tk', os⟩ : Shared).TypeIs (.ref t) "tuple" := ⟨_, ht, rfl⟩
  unfold Builtin.Dict.pairItems
  wp_walk using AutoSeq1.wpAny_loadPart' ht
  exact hq _
 · intro T x h; refine dropT ?zB ?zA; simpa only using (h : DropP ?zA x); assumption
theorem dul_loop {I ax D : Addr} {its : List Value} {kvs : List (Str × Value)} {R : Result → Shared → Prop} (hh : A.handled = none) (hn : (kvs.map (·.1)).Nodup) (hlen : its.length = kvs.length) (hsz : kvs.length ≤ 1000) (hDI : D ≠ I) (hDax : D ≠ ax) (hIax : ax ≠ I) :
    ∀ (k i : Nat) (j : Int) (s : Shared), its.length - i = k → i ≤ its.length → s.heap.IsListIter I ax i → s.heap.IsList ax its.toArray → s.heap.DictOf (strKind prog w) D (kvs.take i) →
      (∀ (m : Nat) (v : Value) (kv : Str × Value), its[m]? = some v → kvs[m]? = some kv → ∃ t tk n, v = .ref t ∧ t ≠ D ∧ t ≠ I ∧ s.heap.get? t = some ({ cls := .type "tuple", data := .seq #[.str kv.1 tk, kv.2] n } : Obj)) →
      (∀ h' tk, (∀ b o, b ≠ D → b ≠ I → s.heap.get? b = some o → h'.get? b = some o) → h'.DictOf (strKind prog w) D kvs → R (.ok (.ret .none)) { s with heap := h', toks := tk }) →
      codeAny (model prog w) A (.builtin "dict.update.loop" ⟨[.ref D, .ref I, rawInt j, .none], []⟩) R s := by
 refine @dropI _ ?_ ?_
 ·
  intro k
  induction k with
  | zero =>
    intro i j s hk hi hI hl hD hp hR
    have hin : i = its.length := Nat.le_antisymm hi (Nat.le_of_sub_eq_zero hk)
    refine codeAny_builtin entry_dul ?_
    rw [Around.under_plainId plain_dul]
    unfold Builtin.«dict.update.loop»
    have W := Walks.list (prog := prog) (w := w) (A := A.in1) hh I ax hIax its.toArray
    have hsz' : its.toArray.size = its.length := by simp
    refine wpAny_bind (W.done s _ _ (by rw [hsz', ← hin]; exact ⟨hI, hl⟩) fun h' tk hk' => ?_)
    show wpAny _ _ (Builtin.Dict.addKeywords D [] >>= fun _ => ret .none) _ _ _
    have hD' : kvs.take i = kvs := by rw [hin, hlen, List.take_length]
    rw [hD'] at hD
    exact wpAny_bind (wpAny_pure (wpAny_pure (hR h' tk (fun b o hb hbI e => hk' b o (by simpa using hbI) e) (hD.at fun o e => hk' D o (by simpa using hDI) e))))
  | succ k ih =>
    intro i j s hk hi hI hl hD hp hR
    have hlt : i < its.length := Nat.lt_of_sub_eq_succ hk
    have hsz' : its.toArray.size = its.length := by simp
    refine codeAny_builtin entry_dul ?_
    rw [Around.under_plainId plain_dul]
    unfold Builtin.«dict.update.loop»
    have W := Walks.list (prog := prog) (w := w) (A := A.in1) hh I ax hIax its.toArray
    refine wpAny_bind (W.item i s _ _ (by rw [hsz']; exact hlt) ⟨hI, hl⟩ fun v h₁ tk₁ hv st₁ hk₁ => ?_)
    have hv' : its[i]? = some v := by simpa using hv
    have hlk : i < kvs.length := (by assumption : its.length = kvs.length) ▸ hlt
    have hkv : kvs[i]? = some kvs[i] := List.getElem?_eq_getElem hlk
    refine sealG fun pS hS9 => ?_
    obtain ⟨t, tk, n, rfl, htD, htI, ht⟩ := hp i v _ hv' hkv
    refine hS9 ?_
    clear hS9 pS
    have ht₁ : h₁.get? t = some ({ cls := .type "tuple", data := .seq #[.str kvs[i].1 tk, kvs[i].2] n } : Obj) := hk₁ t _ (by simpa using htI) ht
    dsimp only
    refine wpAny_bind (wpAny_holding (wpAny_bind (wpAny_tryCatch (pair_items ⟨t, tk, n, rfl, ht₁⟩ fun tk' => ?_))))
    dsimp only
    refine wpAny_holding (wpAny_dictSet_pairs (knd := strKind prog w) (k := kvs[i].1) (strKind_is prog w _ _) (hD.at fun o e => hk₁ D o (by simpa using hDI) e) (fun h₂ hD₂ hs₂ => ?_) (by rw [List.length_take]; exact Nat.le_trans (Nat.min_le_right _ _) (Nat.le_trans hsz (Nat.le_of_ble_eq_true rfl))))
    refine wpAny_pure ⟨plainId_quiet plain_dul _, ?_⟩
    have hst : stored (kvs.take i) kvs[i].1 kvs[i].2 = kvs.take (i + 1) := by
      have hnot : ¬ ((kvs.take i).any fun x => decide (x.1 = kvs[i].1)) = true := by
        rw [List.any_eq_true]
        intro hR09
        refine sealG fun pS hS9 => ?_
        obtain ⟨x, hx, he⟩ := hR09
        obtain ⟨m, hm, rfl⟩ := List.mem_take_iff_getElem.mp hx
        refine hS9 ?_
        clear hS9 pS
        have q := (List.pairwise_iff_getElem.mp hn) m i (by rw [List.length_map]; exact Nat.lt_of_lt_of_le hm (Nat.min_le_right _ _)) (by simpa using hlk) (Nat.lt_of_lt_of_le hm (Nat.min_le_left _ _))
        rw [List.getElem_map, List.getElem_map] at q
        exact q (of_decide_eq_true he)
      rw [stored, if_neg hnot, List.take_add_one, hkv]
      rfl
    rw [hst] at hD₂
    refine ih (i + 1) (j + 1) _ (by rw [Nat.sub_succ, hk]; rfl) hlt ?_ ?_ hD₂ ?_ ?_
    · exact st₁.1.at fun o e => hs₂.extBut I o (Ne.symm hDI) e
    · exact st₁.2.at fun o e => hs₂.extBut ax o (Ne.symm hDax) e
    · intro m v kv h1 h2
      refine sealG fun pS hS9 => ?_
      obtain ⟨t', tk', n', e, e1, e2, e3⟩ := hp m v kv h1 h2
      refine hS9 ?_
      clear hS9 pS
      exact ⟨t', tk', n', e, e1, e2, hs₂.extBut _ _ e1 (hk₁ _ _ (by simpa using e2) e3)⟩
    · intro h' tk'' hk' hD'
      exact hR h' tk'' (fun b o hb hbI e => hk' b o hb hbI (hs₂.extBut _ _ hb (hk₁ _ _ (by simpa using hbI) e))) hD'
 · intro T x h; refine dropT ?zB ?zA; simpa only using (h : DropP ?zA x); assumption
theorem dict_pairs {s : Shared} {ax : Addr} {its : List Value} {k : Nat} {kvs : List (Str × Value)} {Q : Value → Shared → Prop} (hh : A.handled = none) (hn : (kvs.map (·.1)).Nodup) (hlen : its.length = kvs.length) (hsz : kvs.length ≤ 1000)
    (hl : s.heap.get? ax = some ({ cls := .type "list", data := .seq its.toArray k } : Obj))
    (hp : ∀ (m : Nat) (v : Value) (kv : Str × Value), its[m]? = some v → kvs[m]? = some kv → ∃ t tk n, v = .ref t ∧ s.heap.get? t = some ({ cls := .type "tuple", data := .seq #[.str kv.1 tk, kv.2] n } : Obj))
    (hQ : ∀ h' tk, (∀ b o, s.heap.get? b = some o → h'.get? b = some o) → h'.DictOf (strKind prog w) s.heap.objs.size kvs → Q (.ref s.heap.objs.size) { s with heap := h', toks := tk }) :
    wpAny (model prog w) A (call (.type "dict") [.ref ax]) Q E s := by
 refine @dropI _ ?_ ?_
 ·
  refine callType_codes (Q₁ := fun obj s₁ => obj = .ref s.heap.objs.size ∧ s₁ = { s with heap := s.heap.push { cls := .type "dict", data := .dict #[] } }) F.kt_called_dict (F.kt_typeCall_dict_1 _) F.entry_dict_init (kt_code_dict_new _ ⟨rfl, rfl⟩) ?_
  intro obj s₁ hR29
  obtain ⟨rfl, rfl⟩ := hR29
  have hnew : (s.heap.push { cls := .type "dict", data := .dict #[] }).DictOf (strKind prog w) s.heap.objs.size [] := Heap.DictOf.new s.heap
  have lt : ∀ {b o}, s.heap.get? b = some o → b < s.heap.objs.size := fun e => Heap.lt_size e
  refine ⟨hnew.typeIs, F.args_dict_init_2 _ _, ?_⟩
  unfold Builtin.«dict.__init__»
  refine wpAny_bind ?_
  unfold Builtin.Dict.selfAndRest
  refine wpAny_bind (wpAny_notOrdered_dict hnew.typeIs ?_)
  show wpAny _ _ (pure (s.heap.objs.size, [Value.ref ax])) _ _ _
  refine wpAny_pure ?_
  show wpAny _ _ (Builtin.Dict.updateFrom "dict.__init__" s.heap.objs.size (.ref ax) [] .none) _ _ _
  unfold Builtin.Dict.updateFrom
  have hl₁ : (s.heap.push { cls := .type "dict", data := .dict #[] }).get? ax = some ({ cls := .type "list", data := .seq its.toArray k } : Obj) := Heap.get?_push_of_some _ hl
  refine wpAny_bind (wpAny_typeOf (T := "list") ⟨_, hl₁, rfl⟩ ?_)
  rw [if_pos (by decide)]
  refine wpAny_bind (list_no_keys (sl := #[]) (xs := its.toArray) (k := k) hh hl₁ fun h₂ tk₂ hk₂ => ?_)
  rw [if_pos (by rfl)]
  refine wpAny_bind (wpAny_rule ?_)
  have hl₂ : h₂.get? ax = some ({ cls := .type "list", data := .seq its.toArray k } : Obj) := hk₂ _ _ hl₁
  refine wpAny_bind (wpAny_pyIter_list (items := its.toArray) ⟨_, hl₂, rfl, _, rfl⟩ (wpAny_pure ⟨plainId_quiet plain_dul _, ?_⟩))
  have hD₂ : h₂.DictOf (strKind prog w) s.heap.objs.size [] := hnew.at fun o e => hk₂ _ o e
  have ltD : s.heap.objs.size < h₂.objs.size := by obtain ⟨o, es, ep, e, _⟩ := hD₂; exact Heap.lt_size e
  have up : ∀ o b o', h₂.get? b = some o' → (h₂.push o).get? b = some o' := fun o b o' e => Heap.get?_push_of_some _ e
  have loop := @dul_loop prog w A.in1 h₂.objs.size ax s.heap.objs.size its kvs (wants (fun r s₂ => r = .none ∧ Q (.ref s.heap.objs.size) s₂) E) hh hn hlen hsz (Nat.ne_of_lt ltD) (Nat.ne_of_gt (lt hl)) (Nat.ne_of_lt (Heap.lt_size hl₂)) its.length 0 0
    { s with heap := h₂.push { cls := .type "list_iterator", data := .fields #[.ref ax, .int 0 0] }, toks := tk₂ } (by omega) (Nat.zero_le _) ⟨_, Heap.get?_push_size _ rfl, rfl, rfl⟩ ⟨_, up _ _ _ hl₂, rfl, _, rfl⟩ (hD₂.push _)
  refine loop ?_ ?_
  · intro m v kv h1 h2
    refine sealG fun pS hS9 => ?_
    obtain ⟨t, tk, n, e, ht⟩ := hp m v kv h1 h2
    refine hS9 ?_
    clear hS9 pS
    have ht₂ := hk₂ _ _ (Heap.get?_push_of_some _ ht)
    exact ⟨t, tk, n, e, Nat.ne_of_lt (lt ht), Nat.ne_of_lt (Heap.lt_size ht₂), up _ _ _ ht₂⟩
  · intro h' tk hk' hD'
    refine ⟨rfl, hQ h' tk (fun b o e => ?_) hD'⟩
    have e₂ := hk₂ _ _ (Heap.get?_push_of_some { cls := .type "dict", data := .dict #[] } e)
    exact hk' b o (Nat.ne_of_lt (lt e)) (Nat.ne_of_lt (Heap.lt_size e₂)) (up _ _ _ e₂)
 · intro T x h; refine dropT ?zB ?zA; simpa only using (h : DropP ?zA x); assumption
end
section
variable {prog : Program} {w : World} {A : Around} {E : Value → Shared → Prop} {s : Shared} {h₀ : Heap} {L : Addr} {m : Str → Option Value} {news : Led}
def KeyVals (news : Led) (vs : List Value) (kvs : List (Str × Value)) : Prop := All2 (fun v kv => ∃ t tk n, v = .ref t ∧ (t, tupO [.str kv.1 tk, kv.2] n) ∈ news) vs kvs
theorem dict_pairs_N {ax : Addr} {its : List Value} {k : Nat} {kvs : List (Str × Value)} {Q : Value → Shared → Prop} (hh : A.handled = none) (F : Fr h₀ L s.heap m) (N : News h₀ L s.heap news) (hbig : sysModules < h₀.objs.size) (hn : (kvs.map (·.1)).Nodup) (hsz : kvs.length ≤ 1000)
    (hl : (ax, lstO its k) ∈ news) (hp : KeyVals news its kvs)
    (hQ : ∀ D o h' tk, Fr h₀ L h' m → News h₀ L h' ((D, o) :: news) → (∀ p ∈ news, p.1 < D) → o.IsDictOf (strKind prog w) kvs → (D == sysModules) = false → Q (.ref D) { s with heap := h', toks := tk }) :
    wpAny (model prog w) A (call (.type "dict") [.ref ax]) Q E s := by
 refine @dropI _ ?_ ?_
 ·
  refine dict_pairs hh hn hp.length hsz (N _ hl).1 (fun i v kv h1 h2 => ?_) fun h' tk hk hD => ?_
  · obtain ⟨kv', h3, t, tk, n, e, ht⟩ := hp.get h1
    rw [h2] at h3
    cases h3
    exact ⟨t, tk, n, e, (N _ ht).1⟩
  · obtain ⟨o, ho, hd⟩ := Heap.dictOf_iff.mp hD
    refine hQ _ o h' tk (F.keeps hk) (fun p hp => ?_) (fun p hp => Heap.lt_size (N p hp).1) hd (F.notModules hbig)
    rcases List.mem_cons.mp hp with rfl | hp
    · exact ⟨ho, Nat.ne_of_gt F.ns.lt, next_is_new F⟩
    · exact ⟨hk _ _ (N p hp).1, (N p hp).2⟩
 · intro T x h; refine dropT ?zB ?zA; simpa only using (h : DropP ?zA x); assumption
theorem in_map {D : Addr} {o : Obj} {x : Str} {t : Tok} {kvs : List (Str × Value)} {Q : Value → Shared → Prop} (N : News h₀ L s.heap news) (hm : (D, o) ∈ news) (hd : o.IsDictOf (strKind prog w) kvs) (lo : (D == sysModules) = false)
    (h : Q (.bool (valueAt kvs x).isSome) { s with toks := s.toks + 1 }) : wpAny (model prog w) A (compareOp .In (.str x t) (.ref D)) Q E s :=
  wpAny_in_of (strKind_is prog w x t) lo (Heap.DictOf.mapOf (Heap.dictOf_iff.mpr ⟨o, (N _ hm).1, hd⟩)) h
theorem item_map {value slice : Expr} {D : Addr} {o : Obj} {x : Str} {t : Tok} {v : Value} {kvs : List (Str × Value)} {Q : Value → Shared → Prop} (N : News h₀ L s.heap news) (hm : (D, o) ∈ news) (hd : o.IsDictOf (strKind prog w) kvs)
    (hv : valueAt kvs x = some v) (h : Q v { s with toks := s.toks + 1 })
    (hs : subscripted slice false (.ref D) (.str x t) = operate [.ref D, .str x t] (getItem (.ref D) (.str x t)) := by with_unfolding_all rfl) :
    wpAny (model prog w) A (subscriptTail value slice (.ref D) (.str x t)) Q E s :=
  have hm' := Heap.DictOf.mapOf (Heap.dictOf_iff.mpr ⟨o, (N _ hm).1, hd⟩)
  tail_any hm'.typeIs slot_dict_getitem.lookup (wpAny_getItem_of (strKind_is prog w x t) hm' hv h) hs
end
theorem valueAt_mem {kvs : List (Str × Value)} (hn : (kvs.map (·.1)).Nodup) : ∀ {i : Nat} {kv : Str × Value}, kvs[i]? = some kv → valueAt kvs kv.1 = some kv.2 := by
 refine @dropI _ ?_ ?_
 ·
  induction kvs with
  | nil => intro i kv h; simp at h
  | cons a r ih =>
    intro i kv h
    rw [List.map_cons, List.nodup_cons] at hn
    cases i with
    | zero => simp at h; subst h; simp [valueAt]
    | succ i =>
      simp at h
      have hne : a.1 ≠ kv.1 := fun e => hn.1 (e ▸ List.mem_map.mpr ⟨kv, List.mem_of_getElem? h, rfl⟩)
      have := ih hn.2 h
      unfold valueAt at this ⊢
      rw [List.find?_cons_of_neg (by simpa using hne)]
      exact this
 · intro T x h; refine dropT ?zB ?zA; simpa only using (h : DropP ?zA x); assumption
end
section
section
variable {prog : Program} {w : World} {A : Around} {E : Value → Shared → Prop} {s : Shared} {h₀ : Heap} {L : Addr} {env : Env}
theorem for_core {x : Str} {px : Pos} {body : List Stmt} {I : Addr} {fp : List Addr} {n : Nat} {P : Nat → Value → Prop} {St : Nat → Heap → Prop} {src news : Led} {m : Str → Option Value} {J : Nat → (Str → Option Value) → Led → Prop} {Q : Flow → Shared → Prop} {s₂ : Shared}
    (W : Walks prog w A I fp [I] n P St) (hIo : ∀ i h, St i h → ∃ o, h.get? I = some o) (hSt : ∀ i h h' o, St i h → h.get? I = some o → h'.get? I = some o → (∀ p ∈ src, h'.get? p.1 = some p.2) → St i h')
    (hLe : env.locals = L) (hx : env.kindOf x = some .local) (hp : (env.scope.kind == .class || (env.scope.kind == .module && env.locals != env.globals)) = false)
    (hst : St 0 s₂.heap) (hfp : ∀ b ∈ fp, b ≠ L) (F : Fr h₀ L s₂.heap m) (N : News h₀ L s₂.heap news) (hI₀ : h₀.get? I = none) (off : ∀ p ∈ news, p.1 ≠ I) (hJ : J 0 m news) (hsrc : ∀ i m' news', J i m' news' → ∀ p ∈ src, p ∈ news')
    (turn : ∀ i v m₁ news' oI h tk, i < n → P i v → J i m₁ news' → Fr h₀ L h (fun y => if y = x then some v else m₁ y) → News h₀ L h ((I, oI) :: news') → (∀ p ∈ news', p.1 ≠ I) →
      wpAny (model prog w) A (execs body env) (fun f s₃ => match f with
          | .next | .cont => ForEnd h₀ L s₂ I oI (J (i + 1)) s₃
          | .brk => Q .next s₃
          | .ret v => Q (.ret v) s₃) E { s₂ with heap := h, toks := tk })
    (fin : ∀ m₁ news' h tk, J n m₁ news' → Fr h₀ L h m₁ → News h₀ L h news' → Q .next { s₂ with heap := h, toks := tk })
    (hE : PassesOwn (model prog w) A env E) :
    codeAny (model prog w) A (.forLoop (.Name x px) (.ref I) body [] env) (fun r s' => match r with | .ok f => Q f s' | .error e => cameBackBy (model prog w) A env E e s') s₂ := by
 refine @dropI _ ?_ ?_
 ·
  subst hLe
  have hIf : I ∈ fp := W.sub I (List.mem_singleton.mpr rfl)
  have hIL : env.locals ≠ I := Ne.symm (hfp I hIf)
  refine for_loop (n := n + 1) (R := fun r s' => match r with | .ok f => Q f s' | .error e => cameBackBy (model prog w) A env E e s')
    (fun k s' => ∃ h' tk i m' news', s' = { s₂ with heap := h', toks := tk } ∧ i ≤ n ∧ k = n + 1 - i ∧ St i h' ∧ Fr h₀ env.locals h' m' ∧ News h₀ env.locals h' news' ∧ (∀ p ∈ news', p.1 ≠ I) ∧ J i m' news') ?_
    ⟨_, _, 0, m, news, rfl, Nat.zero_le _, rfl, hst, F, N, off, hJ⟩
  intro k s' hR29
  refine sealG fun pS hS9 => ?_
  obtain ⟨h', tk, i, m', news', rfl, hi, rfl, hst', F', N', off', J'⟩ := hR29
  refine hS9 ?_
  clear hS9 pS
  by_cases hlt' : i < n
  · refine W.item i _ _ _ hlt' hst' fun v h₂ tk₂ hPv hst₂ hk₂ => ?_
    have N₂ := LCg.news_but N' hk₂ off'
    have F₂ := LCg.fr_but F' hk₂ hIL hI₀
    refine wpAny_bind (wpAny_pure ?_)
    refine wpAny_assign_Name (wpAny_storeName_local hx F₂.ns (fun h₃ hn₃ hs₃ => ?_) hp)
    have F₃ := F₂.set hn₃ hs₃
    have N₃ := N₂.set hs₃
    have hst₃ : St (i + 1) h₃ := W.frame _ _ _ hst₂ fun b hb o e => hs₃.extBut b o (hfp b hb) e
    obtain ⟨oI, heI⟩ := hIo _ _ hst₃
    refine wpAny_passesOwn hE (wpAny_mono (turn i v m' news' oI h₃ _ hlt' hPv J' F₃ (fun p hp => ?_) off') (fun f s₃ h₃ => ?_) fun _ _ e => e)
    · rcases List.mem_cons.mp hp with rfl | hp
      · exact ⟨heI, Ne.symm hIL, hI₀⟩
      · exact N₃ p hp
    · have fin' : ForEnd h₀ env.locals s₂ I oI (J (i + 1)) s₃ → ∃ k, k < n + 1 - i ∧ ∃ h' tk i m' news', s₃ = { s₂ with heap := h', toks := tk } ∧ i ≤ n ∧ k = n + 1 - i ∧ St i h' ∧ Fr h₀ env.locals h' m' ∧ News h₀ env.locals h' news' ∧ (∀ p ∈ news', p.1 ≠ I) ∧ J i m' news' := by
        intro hR09
        refine sealG fun pS hS9 => ?_
        obtain ⟨h₄, tk₄, m₄, news₄, rfl, F₄, N₄, off₄, J₄⟩ := hR09
        refine hS9 ?_
        clear hS9 pS
        exact ⟨n + 1 - (i + 1), dec_lt (by assumption), h₄, tk₄, i + 1, m₄, news₄, rfl, hlt', rfl, hSt _ _ _ _ hst₃ heI (N₄ (I, oI) List.mem_cons_self).1 fun p hp => (N₄ p (List.mem_cons_of_mem _ (hsrc _ _ _ J₄ p hp))).1, F₄, fun p hp => N₄ p (List.mem_cons_of_mem _ hp), off₄, J₄⟩
      cases f with
      | next => exact fin' h₃
      | cont => exact fin' h₃
      | brk => exact h₃
      | ret v => exact h₃
  · obtain rfl : i = n := Nat.le_antisymm hi (Nat.not_lt.mp hlt')
    refine W.done _ _ _ hst' fun h₂ tk₂ hk₂ => ?_
    exact fin m' news' h₂ tk₂ J' (LCg.fr_but F' hk₂ hIL hI₀) (LCg.news_but N' hk₂ off')
 · intro T x h; refine dropT ?zB ?zA; simpa only using (h : DropP ?zA x); assumption
def ForIn1 (prog : Program) (w : World) (A : Around) (h₀ : Heap) (L : Addr) (env : Env) (x : Str) (body : List Stmt) (Q : Flow → Shared → Prop) (E : Value → Shared → Prop) (xv : Value) (s₁ : Shared) : Prop :=
  ∃ (ax : Addr) (its : List Value) (k : Nat) (m : Str → Option Value) (news : Led) (J : Nat → (Str → Option Value) → Led → Prop), xv = .ref ax ∧ A.handled = none ∧ Fr h₀ L s₁.heap m ∧ News h₀ L s₁.heap news ∧ J 0 m news ∧
    (∀ i m' news', J i m' news' → (ax, tupO its k) ∈ news') ∧
    (∀ i v m₁ news' I oI h tk, its[i]? = some v → J i m₁ news' → (∀ p ∈ news, @LT.lt Nat _ p.1 I) → Fr h₀ L h (fun y => if y = x then some v else m₁ y) → News h₀ L h ((I, oI) :: news') → (∀ p ∈ news', p.1 ≠ I) →
      wpAny (model prog w) A (execs body env) (fun f s₃ => match f with
          | .next | .cont => ForEnd h₀ L s₁ I oI (J (i + 1)) s₃
          | .brk => Q .next s₃
          | .ret v => Q (.ret v) s₃) E { s₁ with heap := h, toks := tk }) ∧
    (∀ m₁ news' h tk, J its.length m₁ news' → Fr h₀ L h m₁ → News h₀ L h news' → Q .next { s₁ with heap := h, toks := tk })
theorem for_tuple {x : Str} {px pos : Pos} {iter : Expr} {body : List Stmt} {Q : Flow → Shared → Prop} {m₀ : Str → Option Value} (_F₀ : Fr h₀ L s.heap m₀) (hLe : env.locals = L)
    (hx : env.kindOf x = some .local) (hp : (env.scope.kind == .class || (env.scope.kind == .module && env.locals != env.globals)) = false)
    (h : wpAny (model prog w) A (eval iter env) (ForIn1 prog w A h₀ L env x body Q E) E s)
    (hs : ∀ x, foldedSetIterable iter env x = pure x) (hE : PassesOwn (model prog w) A env E) :
    wpAny (model prog w) A (exec (.For (.Name x px) iter body [] pos) env) Q E s := by
 refine @dropI _ ?_ ?_
 ·
  subst hLe
  refine wpAny_For (wpAny_mono h (fun xv s₁ h₁ => ?_) fun _ _ e => e) hs
  refine sealG fun pS hS9 => ?_
  obtain ⟨ax, its, k, m, news, J, rfl, hh, F, N, hJ, hsrc, turn, fin⟩ := h₁
  refine hS9 ?_
  clear hS9 pS
  have ht : s₁.heap.IsTuple ax its.toArray := ⟨_, (N _ (hsrc _ _ _ hJ)).1, rfl, k, rfl⟩
  have hlt : ax < s₁.heap.objs.size := Heap.lt_size (N _ (hsrc _ _ _ hJ)).1
  have up : ∀ o b o', s₁.heap.get? b = some o' → (s₁.heap.push o).get? b = some o' := fun o b o' e => Heap.get?_push_of_some _ e
  refine wpAny_pyIter_tuple ht ?_
  have hsz : its.toArray.size = its.length := by simp
  refine for_core (src := [(ax, tupO its k)]) (Walks.tuple (prog := prog) (w := w) hh s₁.heap.objs.size ax (Nat.ne_of_lt hlt) its.toArray) (fun i h st => by obtain ⟨o, e, _⟩ := st.1; exact ⟨o, e⟩)
    (fun i h h' o st e e' hn => ⟨by obtain ⟨o', q, r⟩ := st.1; rw [e] at q; cases q; exact ⟨o, e', r⟩, ⟨_, hn _ List.mem_cons_self, rfl, k, rfl⟩⟩) rfl hx hp ⟨⟨_, Heap.get?_push_size _ rfl, rfl, rfl⟩, ⟨_, up _ _ _ (N _ (hsrc _ _ _ hJ)).1, rfl, k, rfl⟩⟩
    (fun b hb q => ?_) (F.keeps (up _)) (N.grown (up _)) (next_is_new F) (fun p hp => Nat.ne_of_lt (Heap.lt_size (N p hp).1)) hJ (fun i m' news' hj p hp => by rw [List.mem_singleton] at hp; subst hp; exact hsrc _ _ _ hj) (fun i v m₁ news' oI h tk hi hP hj F' N' o' => ?_) (fun m₁ news' h tk hj F' N' => ?_) hE
  · rcases List.mem_cons.mp hb with h | hb
    · rw [h] at q; exact absurd F.ns.lt (by rw [← q]; exact Nat.lt_irrefl _)
    · rw [List.mem_singleton.mp hb] at q
      exact absurd q (N _ (hsrc _ _ _ hJ)).2.1
  · exact turn i v m₁ news' _ oI h tk (by simpa using hP) hj (fun p hp => Heap.lt_size (N p hp).1) F' N' o'
  · rw [hsz] at hj
    exact fin m₁ news' h tk hj F' N'
 · intro T x h; refine dropT ?zB ?zA; simpa only using (h : DropP ?zA x); assumption
theorem range_size (n : Nat) : Builtin.Range.rangeSize 0 (n : Int) 1 = (n : Int) := by
  unfold Builtin.Range.rangeSize
  simp
  omega
theorem range_small (n : Nat) (hn : n ≤ 1000) : Builtin.Range.small 0 (n : Int) 1 = true := by
  unfold Builtin.Range.small
  rw [range_size]
  simp [Builtin.Range.rangeFitsLong]
  omega
def ForInR (prog : Program) (w : World) (A : Around) (h₀ : Heap) (L : Addr) (env : Env) (x : Str) (body : List Stmt) (Q : Flow → Shared → Prop) (E : Value → Shared → Prop) (xv : Value) (s₁ : Shared) : Prop :=
  ∃ (ax : Addr) (n : Nat) (t1 t2 t3 : Tok) (m : Str → Option Value) (news : Led) (J : Nat → (Str → Option Value) → Led → Prop), xv = .ref ax ∧ A.handled = none ∧ IsRange s₁.heap ax 0 n 1 t1 t2 t3 ∧ n ≤ 1000 ∧ Fr h₀ L s₁.heap m ∧ News h₀ L s₁.heap news ∧ J 0 m news ∧
    (∀ i t m₁ news' I oI h tk, i < n → J i m₁ news' → (∀ p ∈ news, @LT.lt Nat _ p.1 I) → Fr h₀ L h (fun y => if y = x then some (.int i t) else m₁ y) → News h₀ L h ((I, oI) :: news') → (∀ p ∈ news', p.1 ≠ I) →
      wpAny (model prog w) A (execs body env) (fun f s₃ => match f with
          | .next | .cont => ForEnd h₀ L s₁ I oI (J (i + 1)) s₃
          | .brk => Q .next s₃
          | .ret v => Q (.ret v) s₃) E { s₁ with heap := h, toks := tk }) ∧
    (∀ m₁ news' h tk, J n m₁ news' → Fr h₀ L h m₁ → News h₀ L h news' → Q .next { s₁ with heap := h, toks := tk })
theorem for_range {x : Str} {px pos : Pos} {iter : Expr} {body : List Stmt} {Q : Flow → Shared → Prop} {m₀ : Str → Option Value} (_F₀ : Fr h₀ L s.heap m₀) (hLe : env.locals = L)
    (hx : env.kindOf x = some .local) (hp : (env.scope.kind == .class || (env.scope.kind == .module && env.locals != env.globals)) = false)
    (h : wpAny (model prog w) A (eval iter env) (ForInR prog w A h₀ L env x body Q E) E s)
    (hs : ∀ x, foldedSetIterable iter env x = pure x) (hE : PassesOwn (model prog w) A env E) :
    wpAny (model prog w) A (exec (.For (.Name x px) iter body [] pos) env) Q E s := by
 refine @dropI _ ?_ ?_
 ·
  subst hLe
  refine wpAny_For (wpAny_mono h (fun xv s₁ h₁ => ?_) fun _ _ e => e) hs
  refine sealG fun pS hS9 => ?_
  obtain ⟨ax, n, t1, t2, t3, m, news, J, rfl, hh, hr, hn, F, N, hJ, turn, fin⟩ := h₁
  refine hS9 ?_
  clear hS9 pS
  have up : ∀ o b o', s₁.heap.get? b = some o' → (s₁.heap.push o).get? b = some o' := fun o b o' e => Heap.get?_push_of_some _ e
  refine wpAny_pyIter_range hr (range_small n hn) ?_
  refine for_core (src := []) (Walks.range (prog := prog) (w := w) hh s₁.heap.objs.size 0 1 n) (fun i h st => ?_) (fun i h h' o st e e' hn => ?_) rfl hx hp ?_
    (fun b hb q => ?_) (F.keeps (up _)) (N.grown (up _)) (next_is_new F) (fun p hp => Nat.ne_of_lt (Heap.lt_size (N p hp).1)) hJ (fun i m' news' hj p hp => nomatch hp) (fun i v m₁ news' oI h tk hi hP hj F' N' o' => ?_) (fun m₁ news' h tk hj F' N' => ?_) hE
  · exact ⟨_, st⟩
  · have st' : h.get? s₁.heap.objs.size = _ := st
    rw [st'] at e
    injection e with e
    show h'.get? _ = _
    rw [e', ← e]
  · show IsRangeIter (s₁.heap.push _) _ _ _ _
    have e1 : (0 : Int) + ((0 : Nat) : Int) * 1 = 0 := by simp
    have e2 : (n : Int) - ((0 : Nat) : Int) = Builtin.Range.rangeSize 0 (n : Int) 1 := by rw [range_size]; simp
    rw [e1, e2]
    exact Heap.get?_push_size _ rfl
  · rw [List.mem_singleton.mp hb] at q
    exact absurd F.ns.lt (by rw [← q]; exact Nat.lt_irrefl _)
  · obtain ⟨t, rfl⟩ := hP
    have e1 : (0 : Int) + (i : Int) * 1 = (i : Int) := by simp
    rw [e1] at F'
    exact turn i t m₁ news' _ oI h tk hi hj (fun p hp => Heap.lt_size (N p hp).1) F' N' o'
  · exact fin m₁ news' h tk hj F' N'
 · intro T x h; refine dropT ?zB ?zA; simpa only using (h : DropP ?zA x); assumption
end
end
section
section
variable {prog : Program} {w : World} {A : Around} {E : Value → Shared → Prop} {s : Shared} {h₀ : Heap} {L : Addr} {env : Env}
def ForInL (prog : Program) (w : World) (A : Around) (h₀ : Heap) (L : Addr) (env : Env) (x : Str) (body : List Stmt) (Q : Flow → Shared → Prop) (E : Value → Shared → Prop) (xv : Value) (s₁ : Shared) : Prop :=
  ∃ (ax : Addr) (its : List Value) (k : Nat) (m : Str → Option Value) (news : Led) (J : Nat → (Str → Option Value) → Led → Prop), xv = .ref ax ∧ A.handled = none ∧ Fr h₀ L s₁.heap m ∧ News h₀ L s₁.heap news ∧ J 0 m news ∧
    (∀ i m' news', J i m' news' → (ax, lstO its k) ∈ news') ∧
    (∀ i v m₁ news' I oI h tk, its[i]? = some v → J i m₁ news' → (∀ p ∈ news, @LT.lt Nat _ p.1 I) → Fr h₀ L h (fun y => if y = x then some v else m₁ y) → News h₀ L h ((I, oI) :: news') → (∀ p ∈ news', p.1 ≠ I) →
      wpAny (model prog w) A (execs body env) (fun f s₃ => match f with
          | .next | .cont => ForEnd h₀ L s₁ I oI (J (i + 1)) s₃
          | .brk => Q .next s₃
          | .ret v => Q (.ret v) s₃) E { s₁ with heap := h, toks := tk }) ∧
    (∀ m₁ news' h tk, J its.length m₁ news' → Fr h₀ L h m₁ → News h₀ L h news' → Q .next { s₁ with heap := h, toks := tk })
theorem for_list {x : Str} {px pos : Pos} {iter : Expr} {body : List Stmt} {Q : Flow → Shared → Prop} {m₀ : Str → Option Value} (_F₀ : Fr h₀ L s.heap m₀) (hLe : env.locals = L)
    (hx : env.kindOf x = some .local) (hp : (env.scope.kind == .class || (env.scope.kind == .module && env.locals != env.globals)) = false)
    (h : wpAny (model prog w) A (eval iter env) (ForInL prog w A h₀ L env x body Q E) E s)
    (hs : ∀ x, foldedSetIterable iter env x = pure x) (hE : PassesOwn (model prog w) A env E) :
    wpAny (model prog w) A (exec (.For (.Name x px) iter body [] pos) env) Q E s := by
 refine @dropI _ ?_ ?_
 ·
  subst hLe
  refine wpAny_For (wpAny_mono h (fun xv s₁ h₁ => ?_) fun _ _ e => e) hs
  refine sealG fun pS hS9 => ?_
  obtain ⟨ax, its, k, m, news, J, rfl, hh, F, N, hJ, hsrc, turn, fin⟩ := h₁
  refine hS9 ?_
  clear hS9 pS
  have ht : s₁.heap.IsList ax its.toArray := ⟨_, (N _ (hsrc _ _ _ hJ)).1, rfl, k, rfl⟩
  have hlt : ax < s₁.heap.objs.size := Heap.lt_size (N _ (hsrc _ _ _ hJ)).1
  have up : ∀ o b o', s₁.heap.get? b = some o' → (s₁.heap.push o).get? b = some o' := fun o b o' e => Heap.get?_push_of_some _ e
  refine wpAny_pyIter_list ht ?_
  have hsz : its.toArray.size = its.length := by simp
  refine for_core (src := [(ax, lstO its k)]) (Walks.list (prog := prog) (w := w) hh s₁.heap.objs.size ax (Nat.ne_of_lt hlt) its.toArray) (fun i h st => by obtain ⟨o, e, _⟩ := st.1; exact ⟨o, e⟩)
    (fun i h h' o st e e' hn => ⟨by obtain ⟨o', q, r⟩ := st.1; rw [e] at q; cases q; exact ⟨o, e', r⟩, ⟨_, hn _ List.mem_cons_self, rfl, k, rfl⟩⟩) rfl hx hp ⟨⟨_, Heap.get?_push_size _ rfl, rfl, rfl⟩, ⟨_, up _ _ _ (N _ (hsrc _ _ _ hJ)).1, rfl, k, rfl⟩⟩
    (fun b hb q => ?_) (F.keeps (up _)) (N.grown (up _)) (next_is_new F) (fun p hp => Nat.ne_of_lt (Heap.lt_size (N p hp).1)) hJ (fun i m' news' hj p hp => by rw [List.mem_singleton] at hp; subst hp; exact hsrc _ _ _ hj) (fun i v m₁ news' oI h tk hi hP hj F' N' o' => ?_) (fun m₁ news' h tk hj F' N' => ?_) hE
  · rcases List.mem_cons.mp hb with h | hb
    · rw [h] at q; exact absurd F.ns.lt (by rw [← q]; exact Nat.lt_irrefl _)
    · rw [List.mem_singleton.mp hb] at q
      exact absurd q (N _ (hsrc _ _ _ hJ)).2.1
  · exact turn i v m₁ news' _ oI h tk (by simpa using hP) hj (fun p hp => Heap.lt_size (N p hp).1) F' N' o'
  · rw [hsz] at hj
    exact fin m₁ news' h tk hj F' N'
 · intro T x h; refine dropT ?zB ?zA; simpa only using (h : DropP ?zA x); assumption
end
end
section
theorem execs_app_wp {M : Model} {Γ : PySem.Ctx} {env : Env} {b : List Stmt} {Q : Flow → Pos → Shared → Prop} {E : Value → Pos → Shared → Prop} : ∀ {a : List Stmt} {p : Pos} {s : Shared},
    Sem.wp M Γ (execs a env) (fun f p' s' => match f with | .next => Sem.wp M Γ (execs b env) Q E p' s' | f => Q f p' s') E p s → Sem.wp M Γ (execs (a ++ b) env) Q E p s
  | [], p, s, h => by
    rw [execs_nil] at h
    exact h
  | st :: a, p, s, h => by
    show Sem.wp M Γ (execs (st :: (a ++ b)) env) Q E p s
    rw [execs_cons] at h ⊢
    simp only [Sem.wp_bind'] at h ⊢
    refine Sem.wp_mono M Γ _ (fun f p' s' h' => ?_) (fun _ _ _ h' => h') p s h
    cases f with
    | next => exact execs_app_wp h'
    | cont => exact h'
    | brk => exact h'
    | ret v => exact h'
theorem execs_app {M : Model} {A : Around} {env : Env} {a b : List Stmt} {Q : Flow → Shared → Prop} {E : Value → Shared → Prop} {s : Shared}
    (h : wpAny M A (execs a env) (fun f s' => match f with | .next => wpAny M A (execs b env) Q E s' | f => Q f s') E s) : wpAny M A (execs (a ++ b) env) Q E s := fun Γ p hΓ =>
  execs_app_wp (Q := fun f _ s' => Q f s') (E := fun e _ s' => E e s') (Sem.wp_mono M Γ _ (fun f p' s' h' => by
    cases f with
    | next => exact h' Γ p' hΓ
    | cont => exact h'
    | brk => exact h'
    | ret v => exact h') (fun _ _ _ h' => h') p s (h Γ p hΓ))
end
section
open PySem.SeqAt
theorem eq_tup {A : Around} {s : Shared} {a b : Addr} {xs ys : List Value} {n k : Nat} (ha : s.heap.get? a = some (tupO xs n)) (hb : s.heap.get? b = some (tupO ys k)) (hl : xs.length = ys.length) (hu : A.units < cLine)
    (he : ∀ (j : Nat) (x y : Value), xs[j]? = some x → ys[j]? = some y → EqAt A.in1 s x y true) : EqAt A s (.ref a) (.ref b) true := by
 refine @dropI _ ?_ ?_
 ·
  by_cases hab : a = b
  · subst hab; exact EqAt.same _
  · have h := RcAt.tuples (A := A) (s := s) (l := a) (b := b) (items := xs.toArray) (items2 := ys.toArray) (e := fun _ => true) ⟨_, ha, rfl, n, rfl⟩ ⟨_, hb, rfl, k, rfl⟩ hu
    have h2 := h (fun j h1 h2 => he j _ _ (by simp) (by simp))
    rw [show ((List.range (min xs.toArray.size ys.toArray.size)).all (fun _ => true) && xs.toArray.size == ys.toArray.size) = true from by simp [hl]] at h2
    exact EqAt.of_refs hab h2
 · intro T x h; refine dropT ?zB ?zA; simpa only using (h : DropP ?zA x); assumption
theorem eq_lst {A : Around} {s : Shared} {a b : Addr} {xs ys : List Value} {n k : Nat} (ha : s.heap.get? a = some (lstO xs n)) (hb : s.heap.get? b = some (lstO ys k)) (hl : xs.length = ys.length) (hu : A.units < cLine)
    (he : ∀ (j : Nat) (x y : Value), xs[j]? = some x → ys[j]? = some y → EqAt A.in1 s x y true) : EqAt A s (.ref a) (.ref b) true := by
 refine @dropI _ ?_ ?_
 ·
  by_cases hab : a = b
  · subst hab; exact EqAt.same _
  · have h := RcAt.lists (A := A) (s := s) (l := a) (b := b) (items := xs.toArray) (items2 := ys.toArray) (e := fun _ => true) ⟨_, ha, rfl, n, rfl⟩ ⟨_, hb, rfl, k, rfl⟩ (by simpa using hl) hu
    have h2 := h (fun j h1 h2 => he j _ _ (by simp) (by simp))
    rw [show ((List.range xs.toArray.size).all (fun _ => true)) = true from by simp] at h2
    exact EqAt.of_refs hab h2
 · intro T x h; refine dropT ?zB ?zA; simpa only using (h : DropP ?zA x); assumption
theorem eq_part {A : Around} {s : Shared} {W : Addr} {led : Led} (hN : ∀ p ∈ led, s.heap.get? p.1 = some p.2) {v u : Value} (hu : A.units < cLine) : ∀ {x : Part}, PartAt W led v x → PartAt W led u x → EqAt A s v u true
  | .num i, h, h' => by obtain ⟨t, e⟩ := h; obtain ⟨t', e'⟩ := h'; subst e e'; have h := EqAt.int_int (A := A) (s := s) i t i t'; rwa [beq_self_eq_true] at h
  | .obj, h, h' => by
    refine sealG fun pS hS9 => ?_
    obtain ⟨a, n, t1, t2, t3, e, h⟩ := h
    obtain ⟨b, k, u1, u2, u3, e', h'⟩ := h'
    refine hS9 ?_
    clear hS9 pS
    subst e e'
    refine eq_tup (hN _ h) (hN _ h') rfl hu fun j x y hx hy => ?_
    rcases j with _ | _ | _ | _ | j <;> simp at hx hy <;> subst hx hy
    · have h := EqAt.str_str (A := A.in1) (s := s) "obj" t1 "obj" u1; rwa [beq_self_eq_true] at h
    · exact EqAt.same _
    · have h := EqAt.int_int (A := A.in1) (s := s) 0 t3 0 u3; rwa [beq_self_eq_true] at h
    · have h := EqAt.str_str (A := A.in1) (s := s) "n" t2 "n" u2; rwa [beq_self_eq_true] at h
  | .disc, h, h' => by
    refine sealG fun pS hS9 => ?_
    obtain ⟨a, n, t1, t2, e, h⟩ := h
    obtain ⟨b, k, u1, u2, e', h'⟩ := h'
    refine hS9 ?_
    clear hS9 pS
    subst e e'
    refine eq_tup (hN _ h) (hN _ h') rfl hu fun j x y hx hy => ?_
    rcases j with _ | _ | _ | j <;> simp at hx hy <;> subst hx hy
    · have h := EqAt.str_str (A := A.in1) (s := s) "disc" t1 "disc" u1; rwa [beq_self_eq_true] at h
    · exact EqAt.same _
    · have h := EqAt.str_str (A := A.in1) (s := s) "e" t2 "e" u2; rwa [beq_self_eq_true] at h
theorem eq_pair {A : Around} {s : Shared} {W : Addr} {led : Led} (hN : ∀ p ∈ led, s.heap.get? p.1 = some p.2) {v u : Value} (hu : A.units < cLine) (hu1 : A.in1.units < cLine) {q : Str × Part} (h : PairAt W led v q) (h' : PairAt W led u q) : EqAt A s v u true := by
 refine @dropI _ ?_ ?_
 ·
  refine sealG fun pS hS9 => ?_
  obtain ⟨a, n, t, pv, rfl, m, hp⟩ := h
  obtain ⟨b, k, t', pu, rfl, m', hp'⟩ := h'
  refine hS9 ?_
  clear hS9 pS
  refine eq_tup (hN _ m) (hN _ m') rfl hu fun j x y hx hy => ?_
  rcases j with _ | _ | j <;> simp at hx hy <;> subst hx hy
  · have h := EqAt.str_str (A := A.in1) (s := s) q.1 t q.1 t'; rwa [beq_self_eq_true] at h
  · exact eq_part hN hu1 hp hp'
 · intro T x h; refine dropT ?zB ?zA; simpa only using (h : DropP ?zA x); assumption
theorem eq_pairs {A : Around} {s : Shared} {W : Addr} {led : Led} (hN : ∀ p ∈ led, s.heap.get? p.1 = some p.2) {v u : Value} (hu : A.units < cLine) (hu1 : A.in1.units < cLine) (hu2 : A.in1.in1.units < cLine) {ps : List (Str × Part)} (h : PairsAt W led v ps) (h' : PairsAt W led u ps) : EqAt A s v u true := by
 refine @dropI _ ?_ ?_
 ·
  refine sealG fun pS hS9 => ?_
  obtain ⟨l, n, vs, rfl, m, hp⟩ := h
  obtain ⟨l', n', us, rfl, m', hp'⟩ := h'
  refine hS9 ?_
  clear hS9 pS
  refine eq_lst (hN _ m) (hN _ m') (hp.length.trans hp'.length.symm) hu fun j x y hx hy => ?_
  refine sealG fun pS hS9 => ?_
  obtain ⟨q, hq, h1⟩ := hp.get hx
  obtain ⟨q', hq', h2⟩ := hp'.get hy
  refine hS9 ?_
  clear hS9 pS
  rw [hq] at hq'
  cases hq'
  exact eq_pair hN hu1 hu2 h1 h2
 · intro T x h; refine dropT ?zB ?zA; simpa only using (h : DropP ?zA x); assumption
theorem eq_rows {A : Around} {s : Shared} {W : Addr} {led : Led} (hN : ∀ p ∈ led, s.heap.get? p.1 = some p.2) {a b : Addr} {xs ys : List Value} {n k : Nat} (hu : A.units < cLine) (hu1 : A.in1.units < cLine) (hu2 : A.in1.in1.units < cLine) (hu3 : A.in1.in1.in1.units < cLine) {qs : List (List (Str × Part))} (ma : (a, lstO xs n) ∈ led) (mb : (b, lstO ys k) ∈ led) (h : All2 (PairsAt W led) xs qs) (h' : All2 (PairsAt W led) ys qs) : EqAt A s (.ref a) (.ref b) true := by
 refine @dropI _ ?_ ?_
 ·
  refine eq_lst (hN _ ma) (hN _ mb) (h.length.trans h'.length.symm) hu fun j x y hx hy => ?_
  refine sealG fun pS hS9 => ?_
  obtain ⟨q, hq, h1⟩ := h.get hx
  obtain ⟨q', hq', h2⟩ := h'.get hy
  refine hS9 ?_
  clear hS9 pS
  rw [hq] at hq'
  cases hq'
  exact eq_pairs hN hu1 hu2 hu3 h1 h2
 · intro T x h; refine dropT ?zB ?zA; simpa only using (h : DropP ?zA x); assumption
end
example : (fun (_ : OpenLaw) (_ : Params → Frag) => True) PySem.Challenge.rw_rg0028_01 Mine.hd.heap_1_39 := by
  k_fill
  trivial
local macro_rules | `(tactic| k_mem) => `(tactic| k_extra "k_mem")
local macro_rules | `(tactic| k_get) => `(tactic| k_extra "k_get")
local macro_rules | `(tactic| k_handed) => `(tactic| k_extra "k_handed")
local macro_rules | `(tactic| omega) => `(tactic| k_extra "omega")
local macro_rules | `(tactic| ktr_room) => `(tactic| k_extra "ktr_room")
local macro_rules | `(tactic| ktr_units) => `(tactic| k_extra "ktr_units")
local macro_rules | `(tactic| k_ne) => `(tactic| k_extra "k_ne")
local macro_rules | `(tactic| tbn_find) => `(tactic| k_extra "tbn_find")
local macro_rules | `(tactic| k_all) => `(tactic| k_extra "k_all")
local macro_rules | `(tactic| k_updF) => `(tactic| k_extra "k_updF")
local macro_rules | `(tactic| k_lt $h9:ident) => `(tactic| replace $h9 := allLt_of $h9)
local macro_rules | `(tactic| k_room) => `(tactic| ktr_room)
local macro_rules | `(tactic| walk_at $k9:str) => `(tactic| k_extra $k9)
example : True := by
  k_with_none
  w_top off
  k_with "execs cons" => (k_here; first | k_gentoks | ((with_reducible refine wpAny_execs_cons ?_); (try dsimp only); k_fold))
  k_with "k_mem" => first | with_reducible assumption | k_extra "m" | assumption | exact List.Mem.head _ | (refine List.mem_cons_of_mem _ ?_; k_extra "k_mem") | (refine List.mem_append_right _ ?_; k_extra "k_mem") | (refine List.mem_append_left _ ?_; k_extra "k_mem")
  k_with "k_get" => first | with_reducible assumption | (refine' IsMap.at (by with_reducible assumption) (by first | ((repeat' (first | with_reducible exact upm_hit | (refine' upm_miss (by exact rfl) ?_) | exact upm_hit)); done) | fail "by")) | fail "k"
  k_with "k_handed" => with_reducible assumption
  k_with "omega" => first | ((with_reducible refine And.intro ?_ ?_) <;> omega) | ((with_reducible show @Ne Nat _ _); first | k_extra "e" | (refine Nat.ne_of_gt ?_; k_extra "o") | (refine Nat.ne_of_lt ?_; k_extra "o")) | ((with_reducible show @LT.lt Nat _ _ _); first | k_extra "o" | k_extra "f") | ((fail_if_success guard_target =~ _ ≤ sizeLine); k_extra "z") | omega +splitDisjunctions | ((fail_if_success guard_target =~ _ ≤ sizeLine); simp only [AllLt, and_true] at *; omega +splitDisjunctions)
  k_with "ktr_room" => first | exact rmc (by exact rfl) | exact rm1k (by assumption) (by exact rfl) | exact rm00 (by assumption) | exact rmk (by assumption) (by exact rfl) | fail "k"
  k_with "ktr_units" => first | exact utc (by exact rfl) | exact ut9 (by assumption) (by exact rfl) | exact ut6 (by assumption) (by exact rfl) | exact ut3 (by assumption) (by exact rfl) | exact ut00 (by assumption) | exact utk (by assumption) (by exact rfl) | fail "k"
  k_with "k_ne" => first | (refine neF ?_; omega) | (refine neN ?_; (try dsimp only); omega) | fail "k"
  k_with "tbn_find" => (refine allLt_of (fun q9ₖ hq9ₖ => ?_); k_extra "q")
  k_with "k_all" => first | with_reducible assumption | (refine ne_all (fun q9ₖ hq9ₖ => ?_); k_extra "q") | fail "k"
  k_with "m" => first | (with_reducible first | exact mm0 | exact mm1 | exact mm2 | exact mm3 | exact mm4 | exact mm5 | exact mm6 | exact mm7 | exact mm8 | exact mm9 | exact mm10 | exact mm11 | exact mm12 | exact mm13 | exact mn1 (by assumption) | exact mn2 (by assumption) | exact mn3 (by assumption) | exact mn4 (by assumption) | exact mn5 (by assumption) | exact mn6 (by assumption) | exact mn7 (by assumption) | exact mn8 (by assumption) | exact mn9 (by assumption) | exact mn10 (by assumption) | exact mn11 (by assumption) | exact mn12 (by assumption) | exact mn13 (by assumption) | exact mn14 (by assumption)) | fail "k"
  k_with "i" => first | (first | exact ink0 | exact ink1 | exact ink2 | exact ink3 | exact ink4 | exact ink5 | exact ink6 | exact ink7 | exact ink8 | exact ink9 | exact ink10 | exact ink11 | exact ink12 | exact ink13 | exact ink14) | fail "k"
  k_with "l" => first | (((with_reducible show @LT.lt Nat _ _ _); with_reducible first | assumption | exact lo1 (by assumption) | exact lo2 (by assumption) | (refine ltm (by assumption) ?_; k_extra "i") | exact lo5 (by assumption) (by assumption))) | fail "k"
  k_with "o" => first | (((try dsimp only); first | k_extra "l" | ((with_reducible refine Nat.lt_trans ?_ (by assumption)); k_extra "o"))) | fail "k"
  k_with "e" => first | ((with_reducible first | (refine nem (by assumption) ?_; k_extra "i") | (refine enm (by assumption) ?_; k_extra "i"))) | fail "k"
  k_with "z" => first | ((first | exact Nat.le_of_ble_eq_true rfl | (refine Nat.le_of_lt ?_; k_extra "o") | exact le_c1 (by assumption) (by exact rfl) | exact le_c2 (by assumption) (by assumption) (by exact rfl) | (refine Nat.ne_of_gt ?_; k_extra "f") | (refine Nat.ne_of_lt ?_; k_extra "f"))) | fail "k"
  k_with "f" => first | (((try dsimp only); (with_reducible refine Nat.lt_trans (by assumption) ?_); first | k_extra "o" | k_extra "f")) | fail "k"
  k_with "q" => first | (((try dsimp only); (with_reducible show @LT.lt Nat _ _ _); with_reducible first | assumption | exact asm_all (by assumption) (by assumption) | (refine lnm (by assumption) ?_; first | assumption | exact mn1 (by assumption) | exact mn2 (by assumption) | exact mn3 (by assumption) | exact mn4 (by assumption) | exact mn5 (by assumption) | exact mn6 (by assumption) | exact mn7 (by assumption) | exact mn8 (by assumption) | exact mn9 (by assumption) | exact mn10 (by assumption) | exact mn11 (by assumption) | exact mn12 (by assumption) | exact mn13 (by assumption) | exact mn14 (by assumption)) | (refine Nat.lt_trans ?_ (by assumption); k_extra "q"))) | fail "k"
  trivial
section
example : True := by
  w_top off
  trivial
theorem sTy.hTy : True := trivial
open sTy
variable {w : World} {p : Program} {loose : List Str} {mean : ExcName → Option Value} {mg mb : Str → Option Value}
example : True := by
  k_with "callWith ref" =>
    (guard_expr hTy = hTy)
    (k_here; first
      | ((with_reducible refine' callWith_K (by first | (k_dflt k_asm; done) | fail "by") (by first | (k_dflt k_is; done) | fail "by") ?_ (by first | (k_dflt rfl; done) | fail "by") (by first | (k_dflt rfl; done) | fail "by")); k_whole)
      | ((with_reducible refine' callWith_K0 (by first | (k_dflt k_in; done) | fail "by") (by first | (k_dflt k_is; done) | fail "by") ?_); k_whole)
      | (k_dflt (first
      | refine' callWith_K (by first | (k_asm; done) | fail "by") (by first | (k_is; done) | fail "by") ?_; k_whole
      | refine' callWith_K0 (by first | (k_in; done) | fail "by") (by first | (k_is; done) | fail "by") ?_; k_whole)))
  trivial
example : True := by
  k_with "setAttr ref" =>
    (guard_expr hTy = hTy)
    (k_here; k_dflt (refine' set_map (by first | (k_asm; done) | fail "by") (by first | (k_asm; done) | fail "by") (by first | (k_asm; done) | fail "by") (by first | (k_mem; done) | fail "by") (by first | (k_mem; done) | fail "by") (by first | (with_reducible assumption; done) | fail "by") (by first | (kernel_rfl; done) | fail "by") (by first | (k_updF; done) | fail "by") (by first | (exact rfl; done) | fail "by") ?_; k_whole; intro esₖ nₖ h'ₖ tk'ₖ M'ₖ F'ₖ N'ₖ; (try dsimp only at N'ₖ); (try k_sweep)))
  trivial
example : True := by
  k_with "call ref" =>
    (guard_expr hTy = hTy)
    (k_here; k_dflt (first
      | (refine' call_cls0 (by first | ((k_asm); done) | fail "by") (by first | ((k_asm); done) | fail "by") (by first | ((k_asm); done) | fail "by") (by first | ((k_is); done) | fail "by") (by first | ((k_is); done) | fail "by") ?_; k_whole; intro x'ₖ d'ₖ h'ₖ F'ₖ N'ₖ l1ₖ l2ₖ; (try k_lt l1ₖ); (try k_lt2 l2ₖ); (try k_sweep))
      | (refine' call_clsM (by first | ((k_asm); done) | fail "by") (by first | ((k_asm); done) | fail "by") (by first | ((k_asm); done) | fail "by") (by first | ((k_is); done) | fail "by") (by first | ((k_is); done) | fail "by") (by first | ((k_is); done) | fail "by") ?_; k_whole; intro x'ₖ d'ₖ es'ₖ n'ₖ h'ₖ M'ₖ F'ₖ N'ₖ l1ₖ l2ₖ; have hneₖ := ne_all l1ₖ; (try k_lt l1ₖ); (try k_lt2 l2ₖ); (try k_sweep); k_enter)
      | (refine wpAny_call ?_; k_enter)))
  trivial
def TypeD (kd nm lL tS : Value) (t1 t2 : Tok) (lX lD lC dO : Addr) : Str → Option Value :=
  upm "operations" (.ref dO) (upm "is_late" (.bool false) (upm "is_constant" (.bool false) (upm "is_abstract" (.bool false) (upm "is_private" (.bool false) (upm "is_limited" (.bool false) (upm "wide" .none (upm "is_tagged" (.bool false)
    (upm "designated" .none (upm "variant" .none (upm "components" (.ref lC) (upm "discriminants" (.ref lD) (upm "is_constrained" (.bool true) (upm "component" .none (upm "index" (.ref lX) (upm "small" tS (upm "modulus" (.int 0 t2) (upm "literals" lL
    (upm "high" .none (upm "low" .none (upm "parent" .none (upm "number" (.int 0 t1) (upm "name" nm (upm "kind" kd emm)))))))))))))))))))))))
theorem type_new {kd nm : Value} {dp un : Nat} {gd : Option (List Code)} {cn : Str} {cs : Scope} {a : Addr} {ccd : Value} {cl : List (Str × Addr)} {outer : List Env} {A₀ : Around} {base h₀ : Heap} {L : Addr} {m : Str → Option Value} {news : Led} {s : Shared}
    {Q E : Value → Shared → Prop}
    (B : Below A₀ base outer h₀) (F : Fr h₀ L s.heap m) (X : (hd.heap_1_39 w.params).In h₀) (N : News h₀ L s.heap news) (T : Top p loose mean mg mb h₀) (hk : cs.kind = .function) (hd : dp + 3 < recursionLimit) (hu : un + 8 * 3 < cLine)
    (hret : ∀ T dT lX lD lC dO es n oO lL tS t1 t2 h' tk', Fr h₀ L h' m → News h₀ L h' ((dO, oO) :: (lC, lstO []) :: (lD, lstO []) :: (lX, lstO []) :: (T, instObj 201 dT) :: (dT, dictOf es n) :: news) → (∀ p ∈ news, @LT.lt Nat _ p.1 dT) → @LT.lt Nat _ dT T → @LT.lt Nat _ T lX → @LT.lt Nat _ lX lD → @LT.lt Nat _ lD lC → @LT.lt Nat _ lC dO →
      IsMap es (TypeD kd nm (.ref lL) (.ref tS) t1 t2 lX lD lC dO) 24 → (dO == sysModules) = false → oO.IsDictOf (strKind PR w) [] → Q (.ref T) { s with heap := h', toks := tk' }) :
    wpAny (model PR w) (ktrTop dp un gd cn cs L a ccd cl outer) (call (.ref 201) [kd, nm]) Q E s := by
 refine @dropI _ ?_ ?_
 ·
  k_dflt (refine' call_clsM ?k1 ?k2 ?k3 ?k4 ?k5 ?k6 ?_; (case k1 => k_asm); (case k2 => k_asm); (case k3 => k_asm); (case k4 => k_is); (case k5 => k_is); (case k6 => k_is); k_whole; intro x' d' es' n' h' M' F' N' l1 l2; have hneₖ := ne_all l1; (try k_lt l1); (try k_lt2 l2); (try k_sweep))
  k_dflt ktr_enter
  k_steps
  rename News h₀ L _ _ => N10
  refine' hret _ _ _ _ _ _ _ _ _ _ _ _ _ _ _ (by k_asm) (news_sub N10 ?sb) (tb_ltOf l1) l2 ?o1 ?o2 ?o3 ?o4 (by assumption) (by assumption) (by assumption)
  case sb =>
    intro p hp
    rcases List.mem_cons.mp hp with rfl | hp
    · k_mem
    rcases List.mem_cons.mp hp with rfl | hp
    · k_mem
    rcases List.mem_cons.mp hp with rfl | hp
    · k_mem
    rcases List.mem_cons.mp hp with rfl | hp
    · k_mem
    rcases List.mem_cons.mp hp with rfl | hp
    · k_mem
    rcases List.mem_cons.mp hp with rfl | hp
    · k_mem
    k_mem
  case o1 => omega
  case o2 => omega
  case o3 => omega
  case o4 => omega
 · intro T x h; refine dropT ?zB ?zA; simpa only using (h : DropP ?zA x); assumption
theorem sub_new {tv cv : Value} {dp un : Nat} {gd : Option (List Code)} {cn : Str} {cs : Scope} {a : Addr} {ccd : Value} {cl : List (Str × Addr)} {outer : List Env} {A₀ : Around} {base h₀ : Heap} {L : Addr} {m : Str → Option Value} {news : Led} {s : Shared}
    {Q E : Value → Shared → Prop}
    (B : Below A₀ base outer h₀) (F : Fr h₀ L s.heap m) (X : (hd.heap_1_39 w.params).In h₀) (N : News h₀ L s.heap news) (T : Top p loose mean mg mb h₀) (hk : cs.kind = .function) (hd : dp + 2 < recursionLimit) (hu : un + 8 * 2 < cLine)
    (hret : ∀ x dx es n h' tk', Fr h₀ L h' m → News h₀ L h' ((x, instObj 222 dx) :: (dx, dictOf es n) :: news) → (∀ p ∈ news, @LT.lt Nat _ p.1 dx) → @LT.lt Nat _ dx x → IsMap es (upm "constraint" cv (upm "type" tv emm)) 2 → Q (.ref x) { s with heap := h', toks := tk' }) :
    wpAny (model PR w) (ktrTop dp un gd cn cs L a ccd cl outer) (call (.ref 222) [tv, cv]) Q E s := by
 refine @dropI _ ?_ ?_
 ·
  k_dflt (refine' call_clsM ?k1 ?k2 ?k3 ?k4 ?k5 ?k6 ?_; (case k1 => k_asm); (case k2 => k_asm); (case k3 => k_asm); (case k4 => k_is); (case k5 => k_is); (case k6 => k_is); k_whole; intro x' d' es' n' h' M' F' N' l1 l2; have hneₖ := ne_all l1; (try k_lt l1); (try k_lt2 l2); (try k_sweep))
  k_dflt ktr_enter
  k_steps
  exact hret _ _ _ _ _ _ (by k_asm) (by k_asm) (tb_ltOf l1) l2 (by assumption)
 · intro T x h; refine dropT ?zB ?zA; simpa only using (h : DropP ?zA x); assumption
end
section
example : True := by
  w_top off
  trivial
variable {w : World} {p : Program} {loose : List Str} {mean : ExcName → Option Value} {mg mb : Str → Option Value}
inductive RowS (sf : Str) (m : Str → Option Value) (kind : Str → Option NameKind) : Stmt → Str → Prop
  | none {xp pa p pos : Pos} {k : Nat} {ak : Str} : RowS sf m kind (.Assign [.Attribute (.Name sf xp) ak pa] (.Constant .none k p) pos) ak
  | bool {xp pa p pos : Pos} {k : Nat} {ak : Str} {b : Bool} : RowS sf m kind (.Assign [.Attribute (.Name sf xp) ak pa] (.Constant (.bool b) k p) pos) ak
  | int {xp pa p pos : Pos} {k : Nat} {ak : Str} {i : Int} : RowS sf m kind (.Assign [.Attribute (.Name sf xp) ak pa] (.Constant (.int i) k p) pos) ak
  | str {xp pa p pos : Pos} {k : Nat} {ak c : Str} : RowS sf m kind (.Assign [.Attribute (.Name sf xp) ak pa] (.Constant (.str c) k p) pos) ak
  | name {xp pa p pos : Pos} {ak z : Str} (hz : (m z).isSome = true) (hk : kind z = some .local) (hd : (z == ("__debug__" : Str)) = false) : RowS sf m kind (.Assign [.Attribute (.Name sf xp) ak pa] (.Name z p) pos) ak
  | list {xp pa p pos : Pos} {ak : Str} : RowS sf m kind (.Assign [.Attribute (.Name sf xp) ak pa] (.List [] p) pos) ak
  | dict {xp pa p pos : Pos} {ak : Str} : RowS sf m kind (.Assign [.Attribute (.Name sf xp) ak pa] (.Dict [] [] p) pos) ak
inductive RowsS (sf : Str) (m : Str → Option Value) (kind : Str → Option NameKind) : List Stmt → List Str → List Stmt → Prop
  | nil {l} : RowsS sf m kind l [] l
  | cons {st ak l ks r} (h : RowS sf m kind st ak) (t : RowsS sf m kind l ks r) : RowsS sf m kind (st :: l) (ak :: ks) r
theorem upd_keep {d : Addr} {o o' : Obj} {l l' : Led} (u : Upd d o o' l l') : ∀ x ∈ l, x.1 ≠ d → x ∈ l' := by
 refine @dropI _ ?_ ?_
 ·
  induction u with
  | head _ =>
    intro x hx hn
    rcases List.mem_cons.mp hx with rfl | hx
    · exact absurd rfl hn
    · exact List.mem_cons_of_mem _ hx
  | tail _ _ ih =>
    intro x hx hn
    rcases List.mem_cons.mp hx with rfl | hx
    · exact List.mem_cons_self
    · exact List.mem_cons_of_mem _ (ih x hx hn)
 · intro T x h; refine dropT ?zB ?zA; simpa only using (h : DropP ?zA x); assumption
theorem upd_new {d : Addr} {o o' : Obj} {l l' : Led} (u : Upd d o o' l l') : (d, o') ∈ l' := by
  induction u with
  | head _ => exact List.mem_cons_self
  | tail _ _ ih => exact List.mem_cons_of_mem _ ih
theorem updF_again {d : Addr} {o o' : Obj} {l : Led} {g : Obj → Led} (u : UpdF d o l g) : UpdF d o' (g o') g := by
  induction u with
  | head h => exact .head h
  | tail h _ ih => exact .tail h ih
theorem updF_self {d : Addr} {o : Obj} {l : Led} {g : Obj → Led} (u : UpdF d o l g) : g o = l := by
  induction u with
  | head _ => rfl
  | tail _ _ ih => exact congrArg _ ih
def okB (K : Frag) (C : Addr) (name : Str) : Bool := findIn K (.ref C) "__setattr__" == some (some (.builtin "object.__setattr__")) && plainOver K C && takerIn K C name == some none && hasDictIn K C
section
variable {prog : Program} {A : Around} {E : Value → Shared → Prop} {s : Shared} {K : Frag} {x C dx L : Addr} {h₀ : Heap} {m : Str → Option Value} {news : Led} {g : Obj → Led} {es : List DictEntry} {n k : Nat} {D : Str → Option Value}
  {cn sf : Str} {cs : Scope} {a : Addr} {ccd : Value} {cl : List (Str × Addr)}
theorem row_one {st : Stmt} {ak : Str} {Q : Flow → Shared → Prop} (hr : RowS sf m (cs.names.lookup ·) st ak) (F : Fr h₀ L s.heap m) (X₀ : K.In h₀) (N : News h₀ L s.heap news) (T : Top p loose mean mg mb h₀) (hx : (x, instObj C dx) ∈ news) (hdx : (dx, dictOf es n) ∈ news) (hM : IsMap es D k)
    (hs : okB K C ak = true) (U : UpdF dx (dictOf es n) news g) (hz : k ≤ 900) (hsf : m sf = some (.ref x)) (hk : cs.kind = .function) (hsk : cs.names.lookup sf = some .local) (hsd : (sf == ("__debug__" : Str)) = false)
    (h : ∀ v es' n' h' tk', IsMap es' (upm ak v D) (k + 1) → Fr h₀ L h' m → News h₀ L h' (g (dictOf es' n')) → Q .next { s with heap := h', toks := tk' }) :
    wpAny (model prog w) A (exec st (envX cn cs L a ccd cl)) Q E s := by
 refine @dropI _ ?_ ?_
 ·
  have hz' : k.ble 900 = true := Nat.ble_eq_true_of_le hz
  cases hr with
  | none => exact plainObj_wpAny_Assign_Attribute (wpAny_Constant_none (nameX_L F hsf (set_map F X₀ N hx hdx hM hs U hz' fun es' n' h' tk' M' F' N' => h _ es' n' h' tk' M' F' N') hk hsk hsd))
  | bool => exact plainObj_wpAny_Assign_Attribute (wpAny_Constant_bool (nameX_L F hsf (set_map F X₀ N hx hdx hM hs U hz' fun es' n' h' tk' M' F' N' => h _ es' n' h' tk' M' F' N') hk hsk hsd))
  | int => exact plainObj_wpAny_Assign_Attribute (wpAny_Constant_int (nameX_L F hsf (set_map F X₀ N hx hdx hM hs U hz' fun es' n' h' tk' M' F' N' => h _ es' n' h' tk' M' F' N') hk hsk hsd))
  | str => exact plainObj_wpAny_Assign_Attribute (wpAny_Constant_str (nameX_L F hsf (set_map F X₀ N hx hdx hM hs U hz' fun es' n' h' tk' M' F' N' => h _ es' n' h' tk' M' F' N') hk hsk hsd))
  | name hq hk' hd' =>
    obtain ⟨v, hq⟩ := Option.isSome_iff_exists.mp hq
    exact plainObj_wpAny_Assign_Attribute (nameX_L F hq (nameX_L F hsf (set_map F X₀ N hx hdx hM hs U hz' fun es' n' h' tk' M' F' N' => h _ es' n' h' tk' M' F' N') hk hsk hsd) hk hk' hd')
  | list => exact plainObj_wpAny_Assign_Attribute (List_ (args_nil (newList_drop F N fun l h1 F1 N1 => nameX_L (s := { s with heap := h1 }) F1 hsf (set_map F1 X₀ N1 hx hdx hM hs U hz' fun es' n' h' tk' M' F' N' => h _ es' n' h' tk' M' F' N') hk hsk hsd)))
  | dict => exact plainObj_wpAny_Assign_Attribute (newDict_drop F N T fun l h1 F1 N1 => nameX_L (s := { s with heap := h1 }) F1 hsf (set_map F1 X₀ N1 hx hdx hM hs U hz' fun es' n' h' tk' M' F' N' => h _ es' n' h' tk' M' F' N') hk hsk hsd)
 · intro T x h; refine dropT ?zB ?zA; simpa only using (h : DropP ?zA x); assumption
theorem rows_run {body ks rest} {Q : Flow → Shared → Prop} (hr : RowsS sf m (cs.names.lookup ·) body ks rest) : ∀ {s : Shared} {news : Led} {es : List DictEntry} {n k : Nat} {D : Str → Option Value} (_ : Fr h₀ L s.heap m) (_ : K.In h₀) (_ : News h₀ L s.heap news) (_ : Top p loose mean mg mb h₀) (_ : (x, instObj C dx) ∈ news) (_ : (dx, dictOf es n) ∈ news) (_ : IsMap es D k)
    (_ : ks.all (okB K C) = true) (_ : UpdF dx (dictOf es n) news g) (_ : (k + ks.length).ble 900 = true) (_ : m sf = some (.ref x)) (_ : cs.kind = .function) (_ : cs.names.lookup sf = some .local) (_ : (sf == ("__debug__" : Str)) = false)
    (_ : ∀ D' es' n' h' tk', (∀ y v, D y = some v → ∃ v', D' y = some v') → (∀ y ∈ ks, ∃ v', D' y = some v') → IsMap es' D' (k + ks.length) → Fr h₀ L h' m → News h₀ L h' (g (dictOf es' n')) → wpAny (model prog w) A (execs rest (envX cn cs L a ccd cl)) Q E { s with heap := h', toks := tk' }),
    wpAny (model prog w) A (execs body (envX cn cs L a ccd cl)) Q E s := by
 refine @dropI _ ?_ ?_
 ·
  induction hr with
  | nil =>
    intro s news es n k D F X N T hx hdx hM _ U _ _ _ _ _ h
    have h1 := h D es n s.heap s.toks (fun y v e => ⟨v, e⟩) (fun _ hy => nomatch hy) hM F (updF_self U ▸ N)
    exact h1
  | @cons st ak l ks r hr _ ih =>
    intro s news es n k D F X N T hx hdx hM hok U hz hsf hk hsk hsd h
    rw [List.all_cons, Bool.and_eq_true] at hok
    have hz2 := Nat.le_of_ble_eq_true hz
    rw [List.length_cons] at hz2
    have hne : x ≠ dx := by
      intro e
      have h1 := (N _ hx).1
      have h2 := (N _ hdx).1
      dsimp only at h1 h2
      rw [e, h2] at h1
      injection h1 with h1
      injection h1 with _ h3 h4
      exact nomatch h4
    refine wpAny_execs_cons (row_one hr F X N T hx hdx hM hok.1 U (by omega) hsf hk hsk hsd fun v es' n' h' tk' M' F' N' => ?_)
    refine ih (s := { s with heap := h', toks := tk' }) F' X N' T (upd_keep (UpdF.to U) _ hx hne) (upd_new (UpdF.to U)) M' hok.2 (updF_again U) (Nat.ble_eq_true_of_le (by omega)) hsf hk hsk hsd fun D' es2 n2 h2 tk2 q1 q2 M2 F2 N2 => ?_
    refine h D' es2 n2 h2 tk2 (fun y v e => ?_) (fun y hy => ?_) (by have e9 : k + (ks.length + 1) = k + 1 + ks.length := (by omega); exact e9 ▸ M2) F2 N2
    · cases e9 : y == ak with
      | true => exact q1 y _ (by unfold upm; rw [e9]; rfl)
      | false => exact q1 y v (by unfold upm; rw [e9]; exact e)
    · rcases List.mem_cons.mp hy with rfl | hy
      · exact q1 y v (by unfold upm; rw [beq_self_eq_true]; rfl)
      · exact q2 y hy
 · intro T x h; refine dropT ?zB ?zA; simpa only using (h : DropP ?zA x); assumption
theorem rows_go {body ks rest} {Q : Flow → Shared → Prop} (F : Fr h₀ L s.heap m) (X₀ : K.In h₀) (N : News h₀ L s.heap news) (T : Top p loose mean mg mb h₀) (hr : RowsS sf m (cs.names.lookup ·) body ks rest) (hsf : m sf = some (.ref x)) (hx : (x, instObj C dx) ∈ news) (hdx : (dx, dictOf es n) ∈ news) (hM : IsMap es D k)
    (hok : ks.all (okB K C) = true) (U : UpdF dx (dictOf es n) news g) (hz : (k + ks.length).ble 900 = true) (hk : cs.kind = .function) (hsk : cs.names.lookup sf = some .local) (hsd : (sf == ("__debug__" : Str)) = false)
    (h : ∀ D' es' n' h' tk', (∀ y v, D y = some v → ∃ v', D' y = some v') → (∀ y ∈ ks, ∃ v', D' y = some v') → IsMap es' D' (k + ks.length) → Fr h₀ L h' m → News h₀ L h' (g (dictOf es' n')) → wpAny (model prog w) A (execs rest (envX cn cs L a ccd cl)) Q E { s with heap := h', toks := tk' }) :
    wpAny (model prog w) A (execs body (envX cn cs L a ccd cl)) Q E s := rows_run hr F X₀ N T hx hdx hM hok U hz hsf hk hsk hsd h
end
theorem isMap_ex {es : List DictEntry} {D : Str → Option Value} {k : Nat} {y : Str} (h : IsMap es D k) (e : ∃ v, D y = some v) : ∃ v, getL y es = some (some v) := e.imp fun _ e => h.at e
theorem ex_miss {a y : Str} {v : Value} {D D' : Str → Option Value} (q : ∀ y v', upm a v D y = some v' → ∃ v', D' y = some v') (h : (y == a) = false) (e : ∃ v, D y = some v) : ∃ v, D' y = some v := by
  obtain ⟨u, e⟩ := e
  exact q y u (upm_miss h e)
end
section
example : True := by
  w_top off
  trivial
theorem sH1.hH1 : True := trivial
open sH1
variable {w : World} {p : Program} {loose : List Str} {mean : ExcName → Option Value} {mg mb : Str → Option Value}
theorem hangs_int (i : Int) (t : Tok) : SpecV w p loose mean mg mb 402 [.int i t] 2 (8 * 2) (fun news => True) (fun r => r = .bool false) := by
 refine @dropI _ ?_ ?_
 ·
  unfold SpecV
  intro dp un gd cn cs a ccd cl outer A₀ base h₀ L m news s Q E B F X N T hk hPre hd hu hret
  refine wpAny_call ?_
  k_dflt ktr_enter
  k_steps
  all_goals (first | (refine hret _ _ _ (by k_asm) (news_sub (by k_asm) (by intro p9 h9; k_mem)) ?_; first | rfl | exact ⟨_, rfl⟩))
 · intro T x h; refine dropT ?zB ?zA; simpa only using (h : DropP ?zA x); assumption
theorem hangs_str (i : Str) (t : Tok) : SpecV w p loose mean mg mb 402 [.str i t] 2 (8 * 2) (fun news => True) (fun r => r = .bool false) := by
 refine @dropI _ ?_ ?_
 ·
  unfold SpecV
  intro dp un gd cn cs a ccd cl outer A₀ base h₀ L m news s Q E B F X N T hk hPre hd hu hret
  refine wpAny_call ?_
  k_dflt ktr_enter
  k_steps
  all_goals (first | (refine hret _ _ _ (by k_asm) (news_sub (by k_asm) (by intro p9 h9; k_mem)) ?_; first | rfl | exact ⟨_, rfl⟩))
 · intro T x h; refine dropT ?zB ?zA; simpa only using (h : DropP ?zA x); assumption
theorem hangs_inst (W d : Addr) (es : List DictEntry) (n : Nat) : SpecV w p loose mean mg mb 402 [.ref W] 2 (8 * 2) (fun news => (W, instObj 201 d) ∈ news ∧ (d, dictOf es n) ∈ news) (fun r => r = .bool false) := by
 refine @dropI _ ?_ ?_
 ·
  unfold SpecV
  intro dp un gd cn cs a ccd cl outer A₀ base h₀ L m news s Q E B F X N T hk hPre hd hu hret
  obtain ⟨hW, hd⟩ := hPre
  refine wpAny_call ?_
  k_dflt ktr_enter
  k_steps
  all_goals (first | (refine hret _ _ _ (by k_asm) (news_sub (by k_asm) (by intro p9 h9; k_mem)) ?_; first | rfl | exact ⟨_, rfl⟩))
 · intro T x h; refine dropT ?zB ?zA; simpa only using (h : DropP ?zA x); assumption
theorem hangs_disc (W a : Addr) (n : Nat) (t t' : Tok) : SpecV w p loose mean mg mb 402 [.ref a] 2 (8 * 2) (fun news => (a, tupO [.str "disc" t, .ref W, .str "e" t'] n) ∈ news) (fun r => r = .bool true) := by
 refine @dropI _ ?_ ?_
 ·
  unfold SpecV
  intro dp un gd cn cs a ccd cl outer A₀ base h₀ L m news s Q E B F X N T hk hPre hd hu hret
  refine wpAny_call ?_
  k_dflt ktr_enter
  k_steps
  all_goals (first | (refine hret _ _ _ (by k_asm) (news_sub (by k_asm) (by intro p9 h9; k_mem)) ?_; first | rfl | exact ⟨_, rfl⟩))
 · intro T x h; refine dropT ?zB ?zA; simpa only using (h : DropP ?zA x); assumption
example : True := by
  k_with "eval ListComp" =>
    (guard_expr hH1 = hH1)
    (k_here; k_dflt (refine comp_eval (by k_asm) _ _ (fun _ _ _ => False) (by with_unfolding_all rfl) (by decide) (by rfl) (by decide) (binds_name (by rfl) (by rfl)) Passes.never ?_))
  trivial
theorem eq_int_ne {prog : Program} {A : Around} {E : Value → Shared → Prop} {s : Shared} {a b : Int} {t u : Tok} {Q : Value → Shared → Prop} (hne : a ≠ b) (h : Q (.bool false) s) : wpAny (model prog w) A (compareOp .Eq (.int a t) (.int b u)) Q E s :=
  eq_int (by rw [show (a == b) = false from by simpa using hne]; exact h)
example : True := by
  k_with "compareOp Eq int int" =>
    (guard_expr hH1 = hH1)
    (refine eq_int_ne (by assumption) ?_)
  trivial
theorem any_snoc (rs : List Bool) (i : Nat) : (rs.take (i + 1)).any id = ((rs.take i).any id || rs.getD i false) := by
  rw [List.take_add_one, List.any_append]
  cases h : rs[i]? with
  | none => simp [List.getD, h]
  | some b => simp [List.getD, h]
example : True := by
  k_with "call ref" =>
    (guard_expr hH1 = hH1)
    (k_here; k_dflt ((refine' specV_useE (by assumption : SpecV _ _ _ _ _ _ 402 _ _ _ _ _) (by first | ((k_asm); done) | fail "by") (by first | ((k_asm); done) | fail "by") (by first | ((k_asm); done) | fail "by") (by first | ((k_asm); done) | fail "by") (by first | ((k_asm); done) | fail "by") (by first | ((first | exact rfl | assumption); done) | fail "by") (by first | (((repeat' (first | exact trivial | k_mem | assumption | exact rfl | k_dflt k_get | refine And.intro ?_ ?_ | omega))); done) | fail "by") (by first | ((ktr_room); done) | fail "by") (by first | ((ktr_units); done) | fail "by") ?_; k_whole; intro h9ₖ tk9ₖ F9ₖ N9ₖ; (try dsimp only); (try k_fold))))
  trivial
example : True := by
  k_with "compareOp NotEq ref ref" =>
    (guard_expr hH1 = hH1)
    (k_here; k_dflt (refine' ne_empty (by first | ((exact ⟨_, (News.get (by k_asm) (by k_mem)), rfl, _, rfl⟩); done) | fail "by") (by first | ((exact ⟨_, (News.get (by k_asm) (by k_mem)), rfl, _, rfl⟩); done) | fail "by") (by first | ((ktr_units); done) | fail "by") ?_))
  trivial
theorem hangs_tup (a : Addr) (its : List Value) (n : Nat) (rs : List Bool) (du : Nat) (Pre : Led → Prop) (hmono : ∀ {l l' : Led}, (∀ q ∈ l, q ∈ l') → Pre l → Pre l') (hsz : its.length ≤ 100) (hl3 : (its.length : Int) ≠ 3) (hrs : rs.length = its.length)
    (hit : ∀ i v, its[i]? = some v → SpecV w p loose mean mg mb 402 [v] du (8 * du) Pre (fun r => r = .bool (rs.getD i false))) :
    SpecV w p loose mean mg mb 402 [.ref a] (du + 1) (8 * (du + 1)) (fun news => (a, tupO its n) ∈ news ∧ Pre news) (fun r => r = .bool (rs.any id)) := by
 refine @dropI _ ?_ ?_
 ·
  unfold SpecV
  intro dp un gd cn cs a ccd cl outer A₀ base h₀ L m news s Q E B F X N T hk hPre hd hu hret
  obtain ⟨ha, hp⟩ := hPre
  refine wpAny_call ?_
  k_dflt ktr_enter
  k_steps
  refine len_tuple ⟨_, News.get (by k_asm) (by k_mem), rfl, _, rfl⟩ (by rw [List.size_toArray]; omega) ?_
  rw [List.size_toArray]
  k_steps
  refine CompIn.intro (fun i ys _ => ys.length ≤ i ∧ (ys = [] ↔ (rs.take i).any id = false)) (by rfl) (by k_asm) (by k_asm) (.inr (by k_mem)) (Nat.le_trans hsz (Nat.le_of_ble_eq_true rfl)) ⟨Nat.le_refl _, by simp⟩ (fun i ys _ h => h.1) (fun _ _ _ _ => trivial) ?_ ?_
  · intro g i v ys news' I oI C oC D m₂ h tk hi hJ hsub hlt hC hB F8 N8 o8 d8
    have hp' : Pre ((I, oI) :: (C, oC) :: (D, LCg.lst ys) :: news') := hmono (fun q hq => List.mem_cons_of_mem _ (List.mem_cons_of_mem _ (List.mem_cons_of_mem _ (hsub q (List.mem_cons_of_mem _ hq))))) hp
    have hcall := hit i v hi
    refine wpAny_tests_one ?_
    k_steps
    all_goals (rename_i hb)
    all_goals (first | (exact ⟨_, _, _, rfl, by k_asm, news_sub (by k_asm) (by intro p9 h9; first | k_mem | (simp only [List.mem_cons] at h9 ⊢; simp only [h9, or_true])), by assumption, fun _ h => h, fun _ h => .inl h, (by dsimp only; rw [any_snoc]; first | (refine ⟨Nat.le_succ_of_le hJ.1, ?_⟩; simp_all; done) | (refine ⟨by simpa using hJ.1, ?_⟩; simp_all; done))⟩))
  · intro g D h tk ys news' N8 o8 hsub hlt hord hJ
    intro h' tk' F9 N9
    have hq := hJ.2
    rw [← hrs, List.take_length] at hq
    k_steps
    refine hret _ _ _ (by k_asm) (news_sub (by k_asm) (fun p9 h9 => List.mem_cons_of_mem _ (List.mem_cons_of_mem _ (hsub _ (List.mem_cons_of_mem _ h9))))) ?_
    dsimp only
    congr 1
    cases ys <;> simp_all
 · intro T x h; refine dropT ?zB ?zA; simpa only using (h : DropP ?zA x); assumption
theorem hangs_lst (a : Addr) (its : List Value) (n : Nat) (rs : List Bool) (du : Nat) (Pre : Led → Prop) (hmono : ∀ {l l' : Led}, (∀ q ∈ l, q ∈ l') → Pre l → Pre l') (hsz : its.length ≤ 100) (hl3 : (its.length : Int) ≠ 3) (hrs : rs.length = its.length)
    (hit : ∀ i v, its[i]? = some v → SpecV w p loose mean mg mb 402 [v] du (8 * du) Pre (fun r => r = .bool (rs.getD i false))) :
    SpecV w p loose mean mg mb 402 [.ref a] (du + 1) (8 * (du + 1)) (fun news => (a, lstO its n) ∈ news ∧ Pre news) (fun r => r = .bool (rs.any id)) := by
 refine @dropI _ ?_ ?_
 ·
  unfold SpecV
  intro dp un gd cn cs a ccd cl outer A₀ base h₀ L m news s Q E B F X N T hk hPre hd hu hret
  obtain ⟨ha, hp⟩ := hPre
  refine wpAny_call ?_
  k_dflt ktr_enter
  k_steps
  refine len_list ⟨_, News.get (by k_asm) (by k_mem), rfl, _, rfl⟩ (by rw [List.size_toArray]; omega) ?_
  rw [List.size_toArray]
  k_steps
  refine CompIn.intro (fun i ys _ => ys.length ≤ i ∧ (ys = [] ↔ (rs.take i).any id = false)) (by rfl) (by k_asm) (by k_asm) (.inl (by k_mem)) (Nat.le_trans hsz (Nat.le_of_ble_eq_true rfl)) ⟨Nat.le_refl _, by simp⟩ (fun i ys _ h => h.1) (fun _ _ _ _ => trivial) ?_ ?_
  · intro g i v ys news' I oI C oC D m₂ h tk hi hJ hsub hlt hC hB F8 N8 o8 d8
    have hp' : Pre ((I, oI) :: (C, oC) :: (D, LCg.lst ys) :: news') := hmono (fun q hq => List.mem_cons_of_mem _ (List.mem_cons_of_mem _ (List.mem_cons_of_mem _ (hsub q (List.mem_cons_of_mem _ hq))))) hp
    have hcall := hit i v hi
    refine wpAny_tests_one ?_
    k_steps
    all_goals (rename_i hb)
    all_goals (first | (exact ⟨_, _, _, rfl, by k_asm, news_sub (by k_asm) (by intro p9 h9; first | k_mem | (simp only [List.mem_cons] at h9 ⊢; simp only [h9, or_true])), by assumption, fun _ h => h, fun _ h => .inl h, (by dsimp only; rw [any_snoc]; first | (refine ⟨Nat.le_succ_of_le hJ.1, ?_⟩; simp_all; done) | (refine ⟨by simpa using hJ.1, ?_⟩; simp_all; done))⟩))
  · intro g D h tk ys news' N8 o8 hsub hlt hord hJ
    intro h' tk' F9 N9
    have hq := hJ.2
    rw [← hrs, List.take_length] at hq
    k_steps
    refine hret _ _ _ (by k_asm) (news_sub (by k_asm) (fun p9 h9 => List.mem_cons_of_mem _ (List.mem_cons_of_mem _ (hsub _ (List.mem_cons_of_mem _ h9))))) ?_
    dsimp only
    congr 1
    cases ys <;> simp_all
 · intro T x h; refine dropT ?zB ?zA; simpa only using (h : DropP ?zA x); assumption
end
section
example : True := by
  w_top off
  trivial
variable {w : World} {p : Program} {loose : List Str} {mean : ExcName → Option Value} {mg mb : Str → Option Value}
abbrev WholeIn (W d : Addr) (es : List DictEntry) (k : Nat) (news : Led) : Prop := Inst news W 201 d es k
section
variable (W d : Addr) (es : List DictEntry) (k : Nat)
theorem hangs_part (v : Value) (x : Part) : SpecV w p loose mean mg mb 402 [v] 4 32 (fun news => PartAt W news v x ∧ WholeIn W d es k news) (fun r => r = .bool x.isDisc) := by
 refine @dropI _ ?_ ?_
 ·
  refine specV_cases fun news hP => ?_
  obtain ⟨hx, hW⟩ := hP
  cases x with
  | num i => obtain ⟨t, rfl⟩ := hx; exact ⟨_, _, _, trivial, by decide, by decide, hangs_int i t⟩
  | disc => obtain ⟨a, n, t, t', rfl, h⟩ := hx; exact ⟨_, _, _, h, by decide, by decide, hangs_disc W a n t t'⟩
  | obj =>
    refine sealG fun pS hS9 => ?_
    obtain ⟨a, n, t, t', t2, rfl, h⟩ := hx
    refine hS9 ?_
    clear hS9 pS
    refine ⟨_, _, _, ⟨h, hW⟩, ?_, ?_, hangs_tup a [.str "obj" t, .ref W, .int 0 t2, .str "n" t'] n [false, false, false, false] 2 (WholeIn W d es k) (fun hs h => ⟨hs _ h.1, hs _ h.2⟩) (Nat.le_of_ble_eq_true rfl) (by simp) rfl fun i v hi => ?_⟩
    · decide
    · decide
    · refine specV_cases fun news hW => ?_
      rcases i with _ | _ | _ | _ | i
      · simp at hi; subst hi; exact ⟨_, _, _, trivial, Nat.le_refl _, Nat.le_refl _, hangs_str _ _⟩
      · simp at hi; subst hi; exact ⟨_, _, _, hW, Nat.le_refl _, Nat.le_refl _, hangs_inst W d es k⟩
      · simp at hi; subst hi; exact ⟨_, _, _, trivial, Nat.le_refl _, Nat.le_refl _, hangs_int _ _⟩
      · simp at hi; subst hi; exact ⟨_, _, _, trivial, Nat.le_refl _, Nat.le_refl _, hangs_str _ _⟩
      · simp at hi
 · intro T x h; refine dropT ?zB ?zA; simpa only using (h : DropP ?zA x); assumption
theorem hangs_pair (v : Value) (q : Str × Part) : SpecV w p loose mean mg mb 402 [v] 5 40 (fun news => PairAt W news v q ∧ WholeIn W d es k news) (fun r => r = .bool q.2.isDisc) := by
 refine @dropI _ ?_ ?_
 ·
  refine specV_cases fun news hP => ?_
  refine sealG fun pS hS9 => ?_
  obtain ⟨⟨a, n, t, pv, rfl, h, hx⟩, hW⟩ := hP
  refine hS9 ?_
  clear hS9 pS
  have S := hangs_tup (w := w) (p := p) (loose := loose) (mean := mean) (mg := mg) (mb := mb) a [.str q.1 t, pv] n [false, q.2.isDisc] 4 (fun news => PartAt W news pv q.2 ∧ WholeIn W d es k news) (fun hs h => ⟨h.1.mono hs, hs _ h.2.1, hs _ h.2.2⟩) (Nat.le_of_ble_eq_true rfl) (by simp) rfl (fun i v hi => by
    refine specV_cases fun news hW => ?_
    rcases i with _ | _ | i
    · simp at hi; subst hi; exact ⟨_, _, _, trivial, by decide, by decide, hangs_str _ _⟩
    · simp at hi; subst hi; exact ⟨_, _, _, hW, by decide, by decide, hangs_part W d es k pv q.2⟩
    · simp at hi)
  refine ⟨_, _, _, ?_, ?_, ?_, specV_post S fun r hr => by simpa using hr⟩
  · exact ⟨h, hx, hW⟩
  · decide
  · decide
 · intro T x h; refine dropT ?zB ?zA; simpa only using (h : DropP ?zA x); assumption
theorem hangs_pairs (v : Value) (ps : List (Str × Part)) (hps : ps.length ≤ 2) : SpecV w p loose mean mg mb 402 [v] 6 48 (fun news => PairsAt W news v ps ∧ WholeIn W d es k news) (fun r => r = .bool (ps.any fun q => q.2.isDisc)) := by
 refine @dropI _ ?_ ?_
 ·
  refine specV_cases fun news hP => ?_
  refine sealG fun pS hS9 => ?_
  obtain ⟨⟨l, n, vs, rfl, h, hx⟩, hW⟩ := hP
  refine hS9 ?_
  clear hS9 pS
  have hlen := hx.length
  have S := hangs_lst (w := w) (p := p) (loose := loose) (mean := mean) (mg := mg) (mb := mb) l vs n (ps.map fun q => q.2.isDisc) 5 (fun news => All2 (PairAt W news) vs ps ∧ WholeIn W d es k news) (fun hs h => ⟨h.1.imp fun _ _ x => x.mono hs, hs _ h.2.1, hs _ h.2.2⟩) (by omega) (by omega) (by simp [hlen]) (fun i v hi => by
    refine specV_cases fun news hW => ?_
    obtain ⟨q, hq, hr⟩ := hW.1.get hi
    refine ⟨_, _, _, ?_, ?_, ?_, specV_post (hangs_pair W d es k v q) fun r h => by simpa [List.getD, hq] using h⟩
    · exact ⟨hr, hW.2⟩
    · decide
    · decide)
  refine ⟨_, _, _, ?_, ?_, ?_, specV_post S fun r hr => by simpa [List.any_map, Function.comp_def] using hr⟩
  · exact ⟨h, hx, hW⟩
  · decide
  · decide
 · intro T x h; refine dropT ?zB ?zA; simpa only using (h : DropP ?zA x); assumption
theorem hangs_con (v : Value) (ps : List (Str × Part)) (hps : ps.length ≤ 2) : SpecV w p loose mean mg mb 402 [v] 7 56 (fun news => ConAt W news v ps ∧ WholeIn W d es k news) (fun r => r = .bool (ps.any fun q => q.2.isDisc)) := by
 refine @dropI _ ?_ ?_
 ·
  refine specV_cases fun news hP => ?_
  refine sealG fun pS hS9 => ?_
  obtain ⟨⟨a, n, t, lv, rfl, h, hx⟩, hW⟩ := hP
  refine hS9 ?_
  clear hS9 pS
  have S := hangs_tup (w := w) (p := p) (loose := loose) (mean := mean) (mg := mg) (mb := mb) a [.str "discs" t, lv] n [false, ps.any fun q => q.2.isDisc] 6 (fun news => PairsAt W news lv ps ∧ WholeIn W d es k news) (fun hs h => ⟨h.1.mono hs, hs _ h.2.1, hs _ h.2.2⟩) (Nat.le_of_ble_eq_true rfl) (by simp) rfl (fun i v hi => by
    refine specV_cases fun news hW => ?_
    rcases i with _ | _ | i
    · simp at hi; subst hi; exact ⟨_, _, _, trivial, by decide, by decide, hangs_str _ _⟩
    · simp at hi; subst hi; exact ⟨_, _, _, hW, by decide, by decide, hangs_pairs W d es k lv ps hps⟩
    · simp at hi)
  refine ⟨_, _, _, ?_, ?_, ?_, specV_post S fun r hr => by simpa using hr⟩
  · exact ⟨h, hx, hW⟩
  · decide
  · decide
 · intro T x h; refine dropT ?zB ?zA; simpa only using (h : DropP ?zA x); assumption
end
end
section
example : True := by
  w_top off
  trivial
theorem sH3.hH3 : True := trivial
open sH3
variable {w : World} {p : Program} {loose : List Str} {mean : ExcName → Option Value} {mg mb : Str → Option Value}
example : True := by
  k_with "call ref" =>
    (guard_expr hH3 = hH3)
    (k_here; k_dflt ((refine' specV_useE (by assumption : SpecV _ _ _ _ _ _ 402 _ _ _ _ _) (by first | ((k_asm); done) | fail "by") (by first | ((k_asm); done) | fail "by") (by first | ((k_asm); done) | fail "by") (by first | ((k_asm); done) | fail "by") (by first | ((k_asm); done) | fail "by") (by first | ((first | exact rfl | assumption); done) | fail "by") (by first | (((repeat' (first | exact trivial | k_mem | assumption | exact rfl | k_dflt k_get | refine And.intro ?_ ?_ | omega))); done) | fail "by") (by first | ((ktr_room); done) | fail "by") (by first | ((ktr_units); done) | fail "by") ?_; k_whole; intro h9ₖ tk9ₖ F9ₖ N9ₖ; (try dsimp only); (try k_fold))))
  trivial
example : True := by
  k_with "eval ListComp" =>
    (guard_expr hH3 = hH3)
    (k_here; k_dflt (refine comp_eval (by k_asm) _ _ (fun _ _ _ => False) (by with_unfolding_all rfl) (by decide) (by rfl) (by decide) (binds_name (by rfl) (by rfl)) Passes.never ?_))
  trivial
example : True := by
  k_with "compareOp NotEq ref ref" =>
    (guard_expr hH3 = hH3)
    (k_here; k_dflt (refine' ne_empty (by first | ((exact ⟨_, (News.get (by k_asm) (by k_mem)), rfl, _, rfl⟩); done) | fail "by") (by first | ((exact ⟨_, (News.get (by k_asm) (by k_mem)), rfl, _, rfl⟩); done) | fail "by") (by first | ((ktr_units); done) | fail "by") ?_))
  trivial
theorem hangs_range (a : Addr) (n : Nat) (t1 t2 t3 : Tok) (lo hi : Int) : SpecV w p loose mean mg mb 402 [.ref a] 5 (8 * 5) (fun news => (a, tupO [.str "range" t1, .int lo t2, .int hi t3] n) ∈ news) (fun r => r = .bool false) := by
 refine @dropI _ ?_ ?_
 ·
  have hit : ∀ (i : Nat) (v : Value), [Value.str "range" t1, .int lo t2, .int hi t3][i]? = some v → SpecV w p loose mean mg mb 402 [v] 2 16 (fun _ => True) (fun r => r = .bool false) := by
    intro i v hi
    refine specV_cases fun news _ => ?_
    rcases i with _ | _ | _ | i
    · simp at hi; subst hi; exact ⟨_, _, _, trivial, by decide, by decide, hangs_str _ _⟩
    · simp at hi; subst hi; exact ⟨_, _, _, trivial, by decide, by decide, hangs_int _ _⟩
    · simp at hi; subst hi; exact ⟨_, _, _, trivial, by decide, by decide, hangs_int _ _⟩
    · simp at hi
  unfold SpecV
  intro dp un gd cn cs a ccd cl outer A₀ base h₀ L m news s Q E B F X N T hk hPre hd hu hret
  refine wpAny_call ?_
  k_dflt ktr_enter
  have ha := hPre
  k_steps
  refine CompIn.intro (fun i ys _ => ys = []) (by rfl) (by k_asm) (by k_asm) (.inr (by k_mem)) (Nat.le_of_ble_eq_true rfl) rfl (fun i ys _ h => by rw [h]; exact Nat.zero_le _) (fun _ _ _ _ => trivial) ?_ ?_
  · intro g i v ys news' I oI C oC D m₂ h tk hi hJ hsub hlt hC hB F8 N8 o8 d8
    have hcall := hit i v hi
    refine wpAny_tests_one ?_
    k_steps
    k_steps
    all_goals (first | (exact ⟨_, _, _, rfl, by k_asm, news_sub (by k_asm) (by intro p9 h9; first | k_mem | (simp only [List.mem_cons] at h9 ⊢; simp only [h9, or_true])), by assumption, fun _ h => h, fun _ h => .inl h, hJ⟩))
  · intro g D h tk ys news' N8 o8 hsub hlt hord hJ
    intro h' tk' F9 N9
    subst hJ
    k_steps
    refine hret _ _ _ (by k_asm) (news_sub (by k_asm) (fun p9 h9 => List.mem_cons_of_mem _ (List.mem_cons_of_mem _ (hsub _ (List.mem_cons_of_mem _ h9))))) rfl
 · intro T x h; refine dropT ?zB ?zA; simpa only using (h : DropP ?zA x); assumption
end
section
example : True := by
  w_top off
  trivial
theorem sF1.hF1 : True := trivial
open sF1
variable {w : World} {p : Program} {loose : List Str} {mean : ExcName → Option Value} {mg mb : Str → Option Value}
theorem eq_str_ne {prog : Program} {A : Around} {E : Value → Shared → Prop} {s : Shared} {a b : Str} {t u : Tok} {Q : Value → Shared → Prop} (hne : a ≠ b) (h : Q (.bool false) s) : wpAny (model prog w) A (compareOp .Eq (.str a t) (.str b u)) Q E s :=
  eq_str (by rw [show (a == b) = false from by simpa using hne]; exact h)
theorem ne_str_ne {prog : Program} {A : Around} {E : Value → Shared → Prop} {s : Shared} {a b : Str} {t u : Tok} {Q : Value → Shared → Prop} (hne : a ≠ b) (h : Q (.bool true) s) : wpAny (model prog w) A (compareOp .NotEq (.str a t) (.str b u)) Q E s :=
  ne_str (by rw [show (a != b) = true from by simpa using hne]; exact h)
example : True := by
  k_with "compareOp Eq str str" =>
    (guard_expr hF1 = hF1)
    (refine eq_str_ne (by with_reducible assumption) ?_)
  trivial
example : True := by
  k_with "compareOp NotEq str str" =>
    (guard_expr hF1 = hF1)
    (refine ne_str_ne (by with_reducible assumption) ?_)
  trivial
example : True := by
  k_with "exec While" =>
    (guard_expr hF1 = hF1)
    (k_here; refine while_no ?_)
  trivial
example : True := by
  k_with "exec While BoolOp" =>
    (guard_expr hF1 = hF1)
    (k_here; refine while_no ?_)
  trivial
theorem full_sub (S dS T dT : Addr) (esS esT : List DictEntry) (nS nT : Nat) (kd : Str) (tk : Tok) :
    SpecV w p loose mean mg mb 296 [.ref S] 2 (8 * 2) (fun news => Inst news S 222 dS esS nS ∧ getL "type" esS = some (some (.ref T)) ∧ Inst news T 201 dT esT nT ∧ getL "kind" esT = some (some (.str kd tk)) ∧ kd ≠ ("private" : Str)) (fun r => r = .ref S) := by
 refine @dropI _ ?_ ?_
 ·
  unfold SpecV
  intro dp un gd cn cs a ccd cl outer A₀ base h₀ L m news s Q E B F X N T hk hPre hd hu hret
  refine sealG fun pS hS9 => ?_
  first | (refine and5 hPre ?_; clear hPre; intro hc19 h1 hc29 h2 hkd) | (obtain ⟨hc19, h1, hc29, h2, hkd⟩ := hPre)
  refine sealG fun pS hS9 => ?_
  obtain ⟨a1, a2⟩ := hc19
  obtain ⟨a3, a4⟩ := hc29
  refine hS9 ?_
  clear hS9 pS
  refine hS9 ?_
  clear hS9 pS
  refine wpAny_call ?_
  k_dflt ktr_enter
  k_steps
  all_goals (first | (refine hret _ _ _ (by k_asm) (news_sub (by k_asm) (by intro p9 h9; k_mem)) ?_; first | rfl | exact ⟨_, rfl⟩))
 · intro T x h; refine dropT ?zB ?zA; simpa only using (h : DropP ?zA x); assumption
theorem full_ty (T dT : Addr) (esT : List DictEntry) (nT : Nat) (kd : Str) (tk : Tok) :
    SpecV w p loose mean mg mb 303 [.ref T] 2 (8 * 2) (fun news => Inst news T 201 dT esT nT ∧ getL "kind" esT = some (some (.str kd tk)) ∧ kd ≠ ("private" : Str)) (fun r => r = .ref T) := by
 refine @dropI _ ?_ ?_
 ·
  unfold SpecV
  intro dp un gd cn cs a ccd cl outer A₀ base h₀ L m news s Q E B F X N T hk hPre hd hu hret
  refine sealG fun pS hS9 => ?_
  first | (refine and3 hPre ?_; clear hPre; intro hc39 h2 hkd) | (obtain ⟨hc39, h2, hkd⟩ := hPre)
  obtain ⟨a3, a4⟩ := hc39
  refine hS9 ?_
  clear hS9 pS
  refine wpAny_call ?_
  k_dflt ktr_enter
  k_steps
  all_goals (first | (refine hret _ _ _ (by k_asm) (news_sub (by k_asm) (by intro p9 h9; k_mem)) ?_; first | rfl | exact ⟨_, rfl⟩))
 · intro T x h; refine dropT ?zB ?zA; simpa only using (h : DropP ?zA x); assumption
example : True := by
  k_with "call ref" =>
    (guard_expr hF1 = hF1)
    (k_here; k_dflt (first
      | (guard_target =~ wpAny _ _ (call (Value.ref 296) _) _ _ _; (refine' specV_useE (full_sub _ _ _ _ _ _ _ _ _ _) (by first | ((k_asm); done) | fail "by") (by first | ((k_asm); done) | fail "by") (by first | ((k_asm); done) | fail "by") (by first | ((k_asm); done) | fail "by") (by first | ((k_asm); done) | fail "by") (by first | ((first | exact rfl | assumption); done) | fail "by") (by first | (((repeat' (first | exact trivial | k_mem | assumption | exact rfl | k_dflt k_get | refine And.intro ?_ ?_ | omega))); done) | fail "by") (by first | ((ktr_room); done) | fail "by") (by first | ((ktr_units); done) | fail "by") ?_; k_whole; intro h9ₖ tk9ₖ F9ₖ N9ₖ; (try dsimp only); (try k_fold)))
      | (guard_target =~ wpAny _ _ (call (Value.ref 303) _) _ _ _; (refine' specV_useE (full_ty _ _ _ _ _ _) (by first | ((k_asm); done) | fail "by") (by first | ((k_asm); done) | fail "by") (by first | ((k_asm); done) | fail "by") (by first | ((k_asm); done) | fail "by") (by first | ((k_asm); done) | fail "by") (by first | ((first | exact rfl | assumption); done) | fail "by") (by first | (((repeat' (first | exact trivial | k_mem | assumption | exact rfl | k_dflt k_get | refine And.intro ?_ ?_ | omega))); done) | fail "by") (by first | ((ktr_room); done) | fail "by") (by first | ((ktr_units); done) | fail "by") ?_; k_whole; intro h9ₖ tk9ₖ F9ₖ N9ₖ; (try dsimp only); (try k_fold)))))
  trivial
theorem laid_sub (rv : Value) (S dS T dT : Addr) (esS esT : List DictEntry) (nS nT : Nat) (kd : Str) (tk : Tok) :
    SpecV w p loose mean mg mb 371 [rv, .ref S] 3 (8 * 3) (fun news => Inst news S 222 dS esS nS ∧ getL "type" esS = some (some (.ref T)) ∧ Inst news T 201 dT esT nT ∧ getL "kind" esT = some (some (.str kd tk)) ∧ kd ≠ ("private" : Str) ∧ getL "is_late" esT = some (some (.bool false))) (fun r => r = .ref S) := by
 refine @dropI _ ?_ ?_
 ·
  unfold SpecV
  intro dp un gd cn cs a ccd cl outer A₀ base h₀ L m news s Q E B F X N T hk hPre hd hu hret
  refine sealG fun pS hS9 => ?_
  first | (refine and6 hPre ?_; clear hPre; intro hc49 h1 hc59 h2 hkd h3) | (obtain ⟨hc49, h1, hc59, h2, hkd, h3⟩ := hPre)
  refine sealG fun pS hS9 => ?_
  obtain ⟨a1, a2⟩ := hc49
  obtain ⟨a3, a4⟩ := hc59
  refine hS9 ?_
  clear hS9 pS
  refine hS9 ?_
  clear hS9 pS
  refine wpAny_call ?_
  k_dflt ktr_enter
  k_steps
  all_goals (first | (refine hret _ _ _ (by k_asm) (news_sub (by k_asm) (by intro p9 h9; k_mem)) ?_; first | rfl | exact ⟨_, rfl⟩))
 · intro T x h; refine dropT ?zB ?zA; simpa only using (h : DropP ?zA x); assumption
theorem check_in (S dS c : Addr) (esS : List DictEntry) (nS nc : Nat) (t1 t2 t3 tv : Tok) (v lo hi : Int) :
    SpecV w p loose mean mg mb 338 [.ref S, .int v tv] 6 (8 * 6) (fun news => Inst news S 222 dS esS nS ∧ getL "constraint" esS = some (some (.ref c)) ∧ (c, tupO [.str "range" t1, .int lo t2, .int hi t3] nc) ∈ news ∧ lo ≤ v ∧ v ≤ hi) (fun r => r = .int v tv) := by
 refine @dropI _ ?_ ?_
 ·
  unfold SpecV
  intro dp un gd cn cs a ccd cl outer A₀ base h₀ L m news s Q E B F X N T hk hPre hd hu hret
  refine sealG fun pS hS9 => ?_
  first | (refine and5 hPre ?_; clear hPre; intro hc69 h1 h2 hlo hhi) | (obtain ⟨hc69, h1, h2, hlo, hhi⟩ := hPre)
  obtain ⟨a1, a2⟩ := hc69
  refine hS9 ?_
  clear hS9 pS
  refine wpAny_call ?_
  k_dflt ktr_enter
  k_steps
  all_goals (first | (refine hret _ _ _ (by k_asm) (news_sub (by k_asm) (by intro p9 h9; k_mem)) ?_; first | rfl | exact ⟨_, rfl⟩))
 · intro T x h; refine dropT ?zB ?zA; simpa only using (h : DropP ?zA x); assumption
theorem check_whole (S dS T dT : Addr) (esS esT : List DictEntry) (nS nT : Nat) (t2 t3 tv : Tok) (v lo hi : Int) :
    SpecV w p loose mean mg mb 338 [.ref S, .int v tv] 6 (8 * 6) (fun news => Inst news S 222 dS esS nS ∧ getL "constraint" esS = some (some .none) ∧ getL "type" esS = some (some (.ref T)) ∧ Inst news T 201 dT esT nT ∧ getL "low" esT = some (some (.int lo t2)) ∧ getL "high" esT = some (some (.int hi t3)) ∧ lo ≤ v ∧ v ≤ hi) (fun r => r = .int v tv) := by
 refine @dropI _ ?_ ?_
 ·
  unfold SpecV
  intro dp un gd cn cs a ccd cl outer A₀ base h₀ L m news s Q E B F X N T hk hPre hd hu hret
  refine sealG fun pS hS9 => ?_
  first | (refine and8 hPre ?_; clear hPre; intro hc79 h1 h2 hc89 h3 h4 hlo hhi) | (obtain ⟨hc79, h1, h2, hc89, h3, h4, hlo, hhi⟩ := hPre)
  refine sealG fun pS hS9 => ?_
  obtain ⟨a1, a2⟩ := hc79
  obtain ⟨a3, a4⟩ := hc89
  refine hS9 ?_
  clear hS9 pS
  refine hS9 ?_
  clear hS9 pS
  refine wpAny_call ?_
  k_dflt ktr_enter
  k_steps
  all_goals (first | (refine hret _ _ _ (by k_asm) (news_sub (by k_asm) (by intro p9 h9; k_mem)) ?_; first | rfl | exact ⟨_, rfl⟩))
 · intro T x h; refine dropT ?zB ?zA; simpa only using (h : DropP ?zA x); assumption
end
section
example : True := by
  w_top off
  trivial
theorem sF2.hF2 : True := trivial
open sF2
variable {w : World} {p : Program} {loose : List Str} {mean : ExcName → Option Value} {mg mb : Str → Option Value}
example : True := by
  k_with "callWith ref" =>
    (guard_expr hF2 = hF2)
    (k_here; first
      | ((with_reducible refine' callWith_K (by first | (k_dflt k_asm; done) | fail "by") (by first | (k_dflt k_is; done) | fail "by") ?_ (by first | (k_dflt rfl; done) | fail "by") (by first | (k_dflt rfl; done) | fail "by")); k_whole)
      | ((with_reducible refine' callWith_K0 (by first | (k_dflt k_in; done) | fail "by") (by first | (k_dflt k_is; done) | fail "by") ?_); k_whole)
      | (k_dflt (first
      | refine' callWith_K (by first | (k_asm; done) | fail "by") (by first | (k_is; done) | fail "by") ?_; k_whole
      | refine' callWith_K0 (by first | (k_in; done) | fail "by") (by first | (k_is; done) | fail "by") ?_; k_whole)))
  trivial
example : True := by
  k_with "setAttr ref" =>
    (guard_expr hF2 = hF2)
    (k_here; k_dflt (refine' set_map (by first | (k_asm; done) | fail "by") (by first | (k_asm; done) | fail "by") (by first | (k_asm; done) | fail "by") (by first | (k_mem; done) | fail "by") (by first | (k_mem; done) | fail "by") (by first | (with_reducible assumption; done) | fail "by") (by first | (kernel_rfl; done) | fail "by") (by first | (k_updF; done) | fail "by") (by first | (exact rfl; done) | fail "by") ?_; k_whole; intro esₖ nₖ h'ₖ tk'ₖ M'ₖ F'ₖ N'ₖ; (try dsimp only at N'ₖ); (try k_sweep)))
  trivial
example : True := by
  k_with "call ref" =>
    (guard_expr hF2 = hF2)
    (k_here; k_dflt (first
    | (guard_target =~ wpAny _ _ (call (Value.ref 222) _) _ _ _; refine' sub_new (by first | ((k_asm); done) | fail "by") (by first | ((k_asm); done) | fail "by") (by first | ((k_asm); done) | fail "by") (by first | ((k_asm); done) | fail "by") (by first | ((k_asm); done) | fail "by") (by first | ((first | exact rfl | assumption); done) | fail "by") (by first | ((ktr_room); done) | fail "by") (by first | ((ktr_units); done) | fail "by") ?_; k_whole; intro x'ₖ d'ₖ es'ₖ n'ₖ h'ₖ tk'ₖ F'ₖ N'ₖ l1ₖ l2ₖ M'ₖ; have hneₖ := ne_all l1ₖ; (try k_lt l1ₖ); (try k_lt2 l2ₖ); (try dsimp only); (try k_sweep); (try k_fold))
      | (guard_target =~ wpAny _ _ (call (Value.ref 296) _) _ _ _; (refine' specV_useE (full_sub _ _ _ _ _ _ _ _ _ _) (by first | ((k_asm); done) | fail "by") (by first | ((k_asm); done) | fail "by") (by first | ((k_asm); done) | fail "by") (by first | ((k_asm); done) | fail "by") (by first | ((k_asm); done) | fail "by") (by first | ((first | exact rfl | assumption); done) | fail "by") (by first | (((repeat' (first | exact trivial | k_mem | assumption | exact rfl | k_dflt k_get | refine And.intro ?_ ?_ | omega))); done) | fail "by") (by first | ((ktr_room); done) | fail "by") (by first | ((ktr_units); done) | fail "by") ?_; k_whole; intro h9ₖ tk9ₖ F9ₖ N9ₖ; (try dsimp only); (try k_fold)))
      | (guard_target =~ wpAny _ _ (call (Value.ref 303) _) _ _ _; (refine' specV_useE (full_ty _ _ _ _ _ _) (by first | ((k_asm); done) | fail "by") (by first | ((k_asm); done) | fail "by") (by first | ((k_asm); done) | fail "by") (by first | ((k_asm); done) | fail "by") (by first | ((k_asm); done) | fail "by") (by first | ((first | exact rfl | assumption); done) | fail "by") (by first | (((repeat' (first | exact trivial | k_mem | assumption | exact rfl | k_dflt k_get | refine And.intro ?_ ?_ | omega))); done) | fail "by") (by first | ((ktr_room); done) | fail "by") (by first | ((ktr_units); done) | fail "by") ?_; k_whole; intro h9ₖ tk9ₖ F9ₖ N9ₖ; (try dsimp only); (try k_fold)))
      | (guard_target =~ wpAny _ _ (call (Value.ref 371) _) _ _ _; (refine' specV_useE (laid_sub _ _ _ _ _ _ _ _ _ _ _) (by first | ((k_asm); done) | fail "by") (by first | ((k_asm); done) | fail "by") (by first | ((k_asm); done) | fail "by") (by first | ((k_asm); done) | fail "by") (by first | ((k_asm); done) | fail "by") (by first | ((first | exact rfl | assumption); done) | fail "by") (by first | (((repeat' (first | exact trivial | k_mem | assumption | exact rfl | k_dflt k_get | refine And.intro ?_ ?_ | omega))); done) | fail "by") (by first | ((ktr_room); done) | fail "by") (by first | ((ktr_units); done) | fail "by") ?_; k_whole; intro h9ₖ tk9ₖ F9ₖ N9ₖ; (try dsimp only); (try k_fold)))
      | (guard_target =~ wpAny _ _ (call (Value.ref 338) _) _ _ _; (refine' specV_useE (check_in _ _ _ _ _ _ _ _ _ _ _ _ _) (by first | ((k_asm); done) | fail "by") (by first | ((k_asm); done) | fail "by") (by first | ((k_asm); done) | fail "by") (by first | ((k_asm); done) | fail "by") (by first | ((k_asm); done) | fail "by") (by first | ((first | exact rfl | assumption); done) | fail "by") (by first | (((repeat' (first | exact trivial | k_mem | assumption | exact rfl | k_dflt k_get | refine And.intro ?_ ?_ | omega))); done) | fail "by") (by first | ((ktr_room); done) | fail "by") (by first | ((ktr_units); done) | fail "by") ?_; k_whole; intro h9ₖ tk9ₖ F9ₖ N9ₖ; (try dsimp only); (try k_fold)))
      | (guard_target =~ wpAny _ _ (call (Value.ref 338) _) _ _ _; (refine' specV_useE (check_whole _ _ _ _ _ _ _ _ _ _ _ _ _ _) (by first | ((k_asm); done) | fail "by") (by first | ((k_asm); done) | fail "by") (by first | ((k_asm); done) | fail "by") (by first | ((k_asm); done) | fail "by") (by first | ((k_asm); done) | fail "by") (by first | ((first | exact rfl | assumption); done) | fail "by") (by first | (((repeat' (first | exact trivial | k_mem | assumption | exact rfl | k_dflt k_get | refine And.intro ?_ ?_ | omega))); done) | fail "by") (by first | ((ktr_room); done) | fail "by") (by first | ((ktr_units); done) | fail "by") ?_; k_whole; intro h9ₖ tk9ₖ F9ₖ N9ₖ; (try dsimp only); (try k_fold)))
      | (refine' call_cls0 (by first | ((k_asm); done) | fail "by") (by first | ((k_asm); done) | fail "by") (by first | ((k_asm); done) | fail "by") (by first | ((k_is); done) | fail "by") (by first | ((k_is); done) | fail "by") ?_; k_whole; intro x'ₖ d'ₖ h'ₖ F'ₖ N'ₖ l1ₖ l2ₖ; (try k_lt l1ₖ); (try k_lt2 l2ₖ); (try k_sweep))
      | (refine' call_clsM (by first | ((k_asm); done) | fail "by") (by first | ((k_asm); done) | fail "by") (by first | ((k_asm); done) | fail "by") (by first | ((k_is); done) | fail "by") (by first | ((k_is); done) | fail "by") (by first | ((k_is); done) | fail "by") ?_; k_whole; intro x'ₖ d'ₖ es'ₖ n'ₖ h'ₖ M'ₖ F'ₖ N'ₖ l1ₖ l2ₖ; have hneₖ := ne_all l1ₖ; (try k_lt l1ₖ); (try k_lt2 l2ₖ); (try k_sweep); k_enter)
      | (refine wpAny_call ?_; k_enter)))
  trivial
inductive RangeAt (news : Led) (v : Value) (T : Addr) (lo hi : Int) : Prop
  | mk (S dS es nS c nc t1 t2 t3 : _) (c09 : v = .ref S) (c19 : Inst news S 222 dS es nS) (c29 : getL "type" es = some (some (.ref T))) (c39 : getL "constraint" es = some (some (.ref c))) (c49 : (c, tupO [.str "range" t1, .int lo t2, .int hi t3] nc) ∈ news)
theorem elab_few (rv : Value) (S dS T dT c : Addr) (esS esT : List DictEntry) (nS nT nc : Nat) (t1 t2 t3 t4 t5 t6 : Tok) (lo hi a b : Int) :
    SpecO w p loose mean mg mb 397 [rv, .ref S] 12 (8 * 12) (fun news => Inst news S 222 dS esS nS ∧ getL "type" esS = some (some (.ref T)) ∧ getL "constraint" esS = some (some (.ref c)) ∧ (c, tupO [.str "range" t1, .int a t2, .int b t3] nc) ∈ news ∧ Inst news T 201 dT esT nT ∧ getL "kind" esT = some (some (.str "int" t4)) ∧ getL "is_late" esT = some (some (.bool false)) ∧ getL "low" esT = some (some (.int lo t5)) ∧ getL "high" esT = some (some (.int hi t6)) ∧ lo ≤ a ∧ a ≤ b ∧ b ≤ hi) (fun news r => RangeAt news r T a b) := by
 refine @dropI _ ?_ ?_
 ·
  unfold SpecO
  intro dp un gd cn cs a ccd cl outer A₀ base h₀ L m news s Q E B F X N T hk hPre hd hu hret
  refine sealG fun pS hS9 => ?_
  first | (refine and12 hPre ?_; clear hPre; intro hc19 h1 h2 h3 hc29 h4 h5 h6 h7 hlo hab hhi) | (obtain ⟨hc19, h1, h2, h3, hc29, h4, h5, h6, h7, hlo, hab, hhi⟩ := hPre)
  refine sealG fun pS hS9 => ?_
  obtain ⟨a1, a2⟩ := hc19
  obtain ⟨a3, a4⟩ := hc29
  refine hS9 ?_
  clear hS9 pS
  refine hS9 ?_
  clear hS9 pS
  refine wpAny_call ?_
  k_dflt ktr_enter
  have hpv : ("int" : Str) ≠ ("private" : Str) := by decide
  k_steps
  first
    | (refine hret _ [] _ _ (by k_asm) (by k_asm) ?_ ?_)
    | (refine hret _ [_] _ _ (by k_asm) (by k_asm) ?_ ?_)
    | (refine hret _ [_, _] _ _ (by k_asm) (by k_asm) ?_ ?_)
    | (refine hret _ [_, _, _] _ _ (by k_asm) (by k_asm) ?_ ?_)
    | (refine hret _ [_, _, _, _] _ _ (by k_asm) (by k_asm) ?_ ?_)
    | (refine hret _ [_, _, _, _, _] _ _ (by k_asm) (by k_asm) ?_ ?_)
    | (refine hret _ [_, _, _, _, _, _] _ _ (by k_asm) (by k_asm) ?_ ?_)
    | (refine hret _ [_, _, _, _, _, _, _] _ _ (by k_asm) (by k_asm) ?_ ?_)
    | (refine hret _ [_, _, _, _, _, _, _, _] _ _ (by k_asm) (by k_asm) ?_ ?_)
    | (refine hret _ [_, _, _, _, _, _, _, _, _] _ _ (by k_asm) (by k_asm) ?_ ?_)
    | (refine hret _ [_, _, _, _, _, _, _, _, _, _] _ _ (by k_asm) (by k_asm) ?_ ?_)
    | (refine hret _ [_, _, _, _, _, _, _, _, _, _, _] _ _ (by k_asm) (by k_asm) ?_ ?_)
    | (refine hret _ [_, _, _, _, _, _, _, _, _, _, _, _] _ _ (by k_asm) (by k_asm) ?_ ?_)
    | (refine hret _ [_, _, _, _, _, _, _, _, _, _, _, _, _] _ _ (by k_asm) (by k_asm) ?_ ?_)
    | (refine hret _ [_, _, _, _, _, _, _, _, _, _, _, _, _, _] _ _ (by k_asm) (by k_asm) ?_ ?_)
    | (refine hret _ [_, _, _, _, _, _, _, _, _, _, _, _, _, _, _] _ _ (by k_asm) (by k_asm) ?_ ?_)
    | (refine hret _ [_, _, _, _, _, _, _, _, _, _, _, _, _, _, _, _] _ _ (by k_asm) (by k_asm) ?_ ?_)
    | (refine hret _ [_, _, _, _, _, _, _, _, _, _, _, _, _, _, _, _, _] _ _ (by k_asm) (by k_asm) ?_ ?_)
    | (refine hret _ [_, _, _, _, _, _, _, _, _, _, _, _, _, _, _, _, _, _] _ _ (by k_asm) (by k_asm) ?_ ?_)
    | (refine hret _ [_, _, _, _, _, _, _, _, _, _, _, _, _, _, _, _, _, _, _] _ _ (by k_asm) (by k_asm) ?_ ?_)
    | (refine hret _ [_, _, _, _, _, _, _, _, _, _, _, _, _, _, _, _, _, _, _, _] _ _ (by k_asm) (by k_asm) ?_ ?_)
    | (refine hret _ [_, _, _, _, _, _, _, _, _, _, _, _, _, _, _, _, _, _, _, _, _] _ _ (by k_asm) (by k_asm) ?_ ?_)
    | (refine hret _ [_, _, _, _, _, _, _, _, _, _, _, _, _, _, _, _, _, _, _, _, _, _] _ _ (by k_asm) (by k_asm) ?_ ?_)
    | (refine hret _ [_, _, _, _, _, _, _, _, _, _, _, _, _, _, _, _, _, _, _, _, _, _, _] _ _ (by k_asm) (by k_asm) ?_ ?_)
  · ((repeat' (first | exact ord_nil | refine ord_cons (fun q9 hq9 => ?_) ?_)); all_goals first | k_extra "q" | exact tb_ltOf (by tbn_find) q9 hq9 | k_extra "o")
  · exact ⟨_, _, _, _, _, _, _, _, _, rfl, ⟨by k_mem, by k_mem⟩, by k_dflt k_get, by k_dflt k_get, by k_mem⟩
 · intro T x h; refine dropT ?zB ?zA; simpa only using (h : DropP ?zA x); assumption
end
section
example : True := by
  w_top off
  trivial
variable {w : World} {p : Program} {loose : List Str} {mean : ExcName → Option Value} {mg mb : Str → Option Value}
open Builtin in
def makesE (K : Frag) (C : Addr) : Bool := match K.lookup C with
  | some ⟨oc, _, .cls cd, sl⟩ => oc == .type "type" && !cd.abstract && !cd.hasDel && cd.hasDict && (sl.toList[4]?).join == some (.builtin "Exception.__new__") && !cd.mro.isEmpty && cd.mro.contains (.ref C) && cd.mro.contains (.type "Exception") && cd.mro.contains (.type "BaseException") &&
      !cd.mro.contains (.type "AttributeError") && !cd.mro.contains (.type "NameError") && specialIn K (.ref C) "__call__" == some (some (.builtin "type.__call__")) && instIn K (.ref C) (.type "type") == some true
  | _ => false
structure MakesE (M : Model) (h : Heap) (C : Addr) : Prop where
  obj : ∃ oc od cd sl, h.get? C = some ⟨oc, od, .cls cd, sl⟩ ∧ cd.abstract = false ∧ cd.hasDel = false ∧ cd.mro.isEmpty = false ∧ cd.hasDict = true ∧ oc = .type "type"
  made : Looks M h (Bind.madeBy (.ref C)) (some "Exception.__new__")
  base : Looks M h (Bind.staticBase (.ref C)) (.ref C)
  self : Looks M h (isSubtype (.ref C) (.ref C)) true
  exc : Looks M h (isSubtype (.ref C) (.type "Exception")) true
  bexc : Looks M h (isSubtype (.ref C) (.type "BaseException")) true
  att : Looks M h (isSubtype (.ref C) (.type "AttributeError")) false
  nam : Looks M h (isSubtype (.ref C) (.type "NameError")) false
  call : Looks M h (specialOf (.ref C) "__call__") (some (.builtin "type.__call__"))
  typ : Looks M h (isInstance (.ref C) (.type "type")) true
theorem makesE_of {K : Frag} {M : Model} {h : Heap} (X : K.In h) {C : Addr} (e : makesE K C = true) : MakesE M h C := by
 refine @dropI _ ?_ ?_
 ·
  unfold makesE at e
  split at e
  · rename_i oc od cd sl ho
    simp only [Bool.and_eq_true, Bool.not_eq_true', beq_iff_eq] at e
    refine sealG fun pS hS9 => ?_
    obtain ⟨⟨⟨⟨⟨⟨⟨⟨⟨⟨⟨⟨e0, e1⟩, e2⟩, eh⟩, e3⟩, e4⟩, e5⟩, e6⟩, e7⟩, e8⟩, e9⟩, e10⟩, e11⟩ := e
    refine hS9 ?_
    clear hS9 pS
    have hc : clsIn K C = some cd := by unfold clsIn; rw [ho]
    have hm : Looks M h (mroOf (.ref C)) cd.mro := (looks_clsIn X hc).andThen .now
    obtain ⟨c, l, hl⟩ : ∃ c l, cd.mro = c :: l := by cases q : cd.mro with | nil => rw [q] at e4; cases e4 | cons c l => exact ⟨c, l, rfl⟩
    have made : Looks M h (Bind.madeBy (.ref C)) (some "Exception.__new__") := by
      intro A Q E s k q
      unfold Bind.madeBy
      refine wpAny_bind (hm A _ E s k ?_)
      rw [hl, List.forIn_cons]
      refine wpAny_bind (wpAny_bind (wpAny_bind (wpAny_bind (wpAny_loadPart (k _ _ (X _ _ ho)) (wpAny_pure ?_)))))
      dsimp only
      rw [← Array.getElem?_toList, e3]
      exact wpAny_pure (wpAny_pure (wpAny_pure q))
    have sub : ∀ b r, cd.mro.contains b = r → Looks M h (isSubtype (.ref C) b) r := fun b r hb => looks_mroIn X (by unfold mroIn; rw [hc, Option.bind_some, if_neg (by rw [e4]; decide), hb])
    refine ⟨⟨oc, od, cd, sl, X _ _ ho, e1, e2, e4, eh, e0⟩, made, ?_, sub _ _ e5, sub _ _ e6, sub _ _ e7, sub _ _ e8, sub _ _ e9, looks_specialIn X e10, looks_instIn X e11⟩
    intro A Q E s k q
    unfold Bind.staticBase
    refine wpAny_bind (hm A _ E s k ?_)
    rw [hl, List.forIn_cons]
    exact wpAny_bind (wpAny_bind (wpAny_bind (made A _ E s k (wpAny_pure (wpAny_pure (wpAny_pure q))))))
  · cases e
 · intro T x h; refine dropT ?zB ?zA; simpa only using (h : DropP ?zA x); assumption
abbrev excO (C : Addr) (d : Option Addr) (t : Addr) : Obj := { cls := .ref C, dict := d, data := .fields #[.ref t, .none, .none, .none, .bool false, .none] }
section
variable {prog : Program} {w : World} {A : Around} {K : Frag} {C : Addr} {R : Result → Shared → Prop} {h : Heap} {g : Array GenState} {d : Drawn} {t : Nat} {os : OsState}
theorem newE {rest : List Value} (Y : MakesE (model prog w) h C) (hrest : rest.length ≤ sizeLine)
    (hq : R (.ok (.ret (.ref (h.objs.size + 1)))) ⟨(h.push (tupO rest)).push (excO C none h.objs.size), g, d, t, os⟩) :
    codeAny (model prog w) A (.call (.builtin "Exception.__new__") ⟨.ref C :: rest, []⟩) R ⟨h, g, d, t, os⟩ := by
 refine @dropI _ ?_ ?_
 ·
  refine sealG fun pS hS9 => ?_
  obtain ⟨⟨oc, od, cd, sl, hC, e1, e2, e4, eh⟩, made, base, self, exc, bexc, att, nam, call, typ⟩ := Y
  refine hS9 ?_
  clear hS9 pS
  have F := PySem.F.excBase_Exception
  have hends := F.ends
  refine codeAny_call_builtin_code (Code.quiet_builtin _ F.quiet) ?_
  have here : Looks (model prog w) h (Bind.madeHere "Exception.__new__" (.ref C)) () := base.andThen (made.andThen (Looks.of_pure (by simp only [Option.map_some, bne_self_eq_false, Bool.false_eq_true, if_false])))
  have here' : Looks (model prog w) h (Bind.madeHere "BaseException.__new__" (.ref C)) () := base.andThen (made.andThen (Looks.of_pure (by simp only [Option.map_some, F.canon, bne_self_eq_false, Bool.false_eq_true, if_false])))
  simp only [checkBuiltinCall, F.newKind, F.newSplit, F.newRow]
  repeat (first | simp only [bne_self_eq_false, Bool.false_eq_true, if_false] | lk)
  refine codeAny_builtinAt F.entry ?_
  unfold Builtin.«BaseException.__new__»
  refine PySem.wpAt_bind ?_
  show PySem.wpAt _ _ _ (stack >>= _) _ _ _
  refine PySem.wpAt_bind (PySem.wpAt_stack fun p below => PySem.wpAt_of_wpAny ?_)
  wp_walk
  refine PySem.wpAt_of_wpAny ?_
  rw [F.owner]
  have hC₁ := Heap.get?_push_of_some (tupO rest) hC
  have hC₂ := Heap.get?_push_of_some (excO C none h.objs.size) hC₁
  have k₁ : ∀ b o, h.get? b = some o → (h.push (tupO rest)).get? b = some o := fun b o e => Heap.get?_push_of_some _ e
  have k₂ : ∀ b o, h.get? b = some o → ((h.push (tupO rest)).push (excO C none h.objs.size)).get? b = some o := fun b o e => Heap.get?_push_of_some _ (Heap.get?_push_of_some _ e)
  have att₁ := att.keeps k₁
  have nam₁ := nam.keeps k₁
  have att₂ := att.keeps k₂
  have nam₂ := nam.keeps k₂
  repeat (first | simp only [bne_self_eq_false, Bool.false_eq_true, if_false] | lk)
  rw [if_neg (by rw [List.size_toArray]; omega)]
  repeat (first | simp only [bne_self_eq_false, Bool.false_eq_true, if_false] | lk | with_reducible refine wpAny_loadPart_at hC₁ ?_ | with_reducible refine wpAny_loadPart_at hC₂ ?_ | wp_step)
  show R _ _
  rw [Heap.size_push]
  exact hq
 · intro T x h; refine dropT ?zB ?zA; simpa only using (h : DropP ?zA x); assumption
theorem make_coreE {rest : List Value} {init : Value} (Y : MakesE (model prog w) h C) (hrest : rest.length ≤ sizeLine) (hi : Looks (model prog w) h (typeLookup (.ref C) "__init__") (some init))
    (hb : ∀ self, Looks (model prog w) h (bindSpecial init self) (init, [self]))
    (hq : codeAny (model prog w) (A.under (.builtin "type.__call__" ⟨.ref C :: rest, []⟩)) (.call init ⟨.ref (h.objs.size + 1) :: rest, []⟩) (InitBack (h.objs.size + 1) R) ⟨(h.push (tupO rest)).push (excO C none h.objs.size), g, d, t, os⟩) :
    codeAny (model prog w) A (.call (.ref C) ⟨rest, []⟩) R ⟨h, g, d, t, os⟩ := by
 refine @dropI _ ?_ ?_
 ·
  have Y' := Y
  refine sealG fun pS hS9 => ?_
  obtain ⟨⟨oc, od, cd, sl, hC, e1, e2, e4, eh⟩, made, base, self, exc, bexc, att, nam, call, typ⟩ := Y
  refine hS9 ?_
  clear hS9 pS
  refine codeAny_of_tree ?_
  show wpAny _ _ (callAny (.ref C) _) _ _ _
  refine nd_load hC ?_
  show wpAny _ _ (callAny.viaDunder (.ref C) _) _ _ _
  unfold callAny.viaDunder
  refine wpAny_bind (call.at ?_)
  dsimp only
  rw [tc_bind]
  refine wpAny_bind (wpAny_pure (wpAny_bind (wpAny_pure ?_)))
  refine wpAny_pure (a := Fin.again (.call (.builtin "type.__call__") ⟨.ref C :: rest, []⟩)) (And.intro rfl ?_)
  refine codeAny_call_builtin_at (Code.quiet_builtin _ (by decide +kernel)) entry_typeCall (check_slot tc_kind tc_split typ (tc_args _ _ _) ?_)
  unfold Builtin.«type.__call__»
  have hm : Looks (model prog w) h (mroOf (.ref C)) cd.mro := ((Looks.ld (part := none) hC).andThen .now).andThen .now
  repeat (first | simp only [e4, Bool.false_eq_true, if_false] | with_reducible refine wpAny_call ?_ | lk)
  refine newE Y' hrest ?_
  have k : ∀ b o, h.get? b = some o → ((h.push (tupO rest)).push (excO C none h.objs.size)).get? b = some o := fun b o e => Heap.get?_push_of_some _ (Heap.get?_push_of_some _ e)
  have hx : ((h.push (tupO rest)).push (excO C none h.objs.size)).get? (h.objs.size + 1) = some (excO C none h.objs.size) := by heap_get
  have t1 : Looks (model prog w) ((h.push (tupO rest)).push (excO C none h.objs.size)) (typeOf (.ref (h.objs.size + 1))) (.ref C) := (Looks.ld hx).andThen .now
  have s1 := self.keeps k
  have i1 := hi.keeps k
  have b1 := (hb (.ref (h.objs.size + 1))).keeps k
  unfold isInstance callSpecial? specialOf
  repeat (first | with_reducible refine wpAny_call ?_ | lk)
  refine codeAny_mono hq fun r s' z => ?_
  rcases r with e | (v | _ | _ | _) <;> first | exact z | exact z.elim | skip
  obtain ⟨rfl, z⟩ := z
  exact wpAny_pure (wpAny_pure z)
 · intro T x h; refine dropT ?zB ?zA; simpa only using (h : DropP ?zA x); assumption
end
section
variable {prog : Program} {w : World} {A : Around} {E : Value → Shared → Prop} {s : Shared} {K : Frag} {C L : Addr} {h₀ : Heap} {m : Str → Option Value} {news : Led} {Q : Value → Shared → Prop}
theorem call_exc {pos : List Value} {fI : Addr} (F : Fr h₀ L s.heap m) (X₀ : K.In h₀) (N : News h₀ L s.heap news) (hm : makesE K C = true) (hi : findIn K (.ref C) "__init__" = some (some (.ref fI))) (hf : isFn K (.ref fI) = true) (hsz : pos.length ≤ sizeLine)
    (h : ∀ x t h', Fr h₀ L h' m → News h₀ L h' ((x, excO C none t) :: (t, tupO pos) :: news) → (∀ p ∈ news, p.1 < t) → (∀ p ∈ news, p.1 < x) → t < x →
      codeAny (model prog w) (A.under (.builtin "type.__call__" ⟨.ref C :: pos, []⟩)) (.call (.ref fI) ⟨.ref x :: pos, []⟩) (InitBack x fun r s' => match r with | .ok (.ret v) => Q v s' | .ok _ => False | .error e => E e s') { s with heap := h' }) :
    wpAny (model prog w) A (call (.ref C) pos) Q E s := by
 refine @dropI _ ?_ ?_
 ·
  refine wpAny_call ?_
  have X := X₀.keeps F.keep
  refine sealG fun pS hS9 => ?_
  obtain ⟨hh, g, d, t, os⟩ := s
  refine hS9 ?_
  clear hS9 pS
  refine make_coreE (makesE_of X hm) hsz (looks_findIn X hi) (fun self => bind_fn X self (beq_iff_eq.mp hf)) (h _ hh.objs.size _ ((F.push _).push _) ?_ (fun p hp => Heap.lt_size (N p hp).1) (fun p hp => Nat.lt_succ_of_lt (Heap.lt_size (N p hp).1)) (Nat.lt_succ_self _))
  have := (N.push F (tupO pos)).push (F.push _) (excO C none hh.objs.size)
  rwa [Heap.size_push] at this
 · intro T x h; refine dropT ?zB ?zA; simpa only using (h : DropP ?zA x); assumption
end
theorem raise_makes : makesE (hd.heap_1_39 w.params) 77 = true := by kernel_rfl
def isRefV (v : Value) : Bool := match v with
  | .ref _ => true
  | _ => false
def passesE : List Value → Bool
  | [] => false
  | v :: r => (isRefV v && passesE r) || (v :: r == [.type "Exception", .type "BaseException", .type "object"])
theorem isRefV_of {v : Value} (h : isRefV v = true) : ∃ c, v = .ref c := by
  cases v <;> first | exact Bool.noConfusion (show false = true from h) | exact ⟨_, rfl⟩
theorem passesE_cons {v : Value} {r : List Value} (e : passesE (v :: r) = true) : (∃ c, v = .ref c ∧ passesE r = true) ∨ v :: r = [.type "Exception", .type "BaseException", .type "object"] := by
  simp only [passesE, Bool.or_eq_true, Bool.and_eq_true, beq_iff_eq] at e
  refine e.imp (fun h => ?_) id
  obtain ⟨c, h1⟩ := isRefV_of h.1
  exact ⟨c, h1, h.2⟩
theorem passesE_refuse (self : Value) {l : List Value} (e : passesE l = true) : refuseLoop self "__setattr__" l = pure () := by
 refine @dropI _ ?_ ?_
 ·
  induction l with
  | nil => exact Bool.noConfusion (show false = true from e)
  | cons v r ih =>
    rcases passesE_cons e with ⟨c, h, h'⟩ | h
    · rw [h, refuseLoop_ref]; exact ih h'
    · rw [h]; exact PySem.F.store_Exception.passes self
 · intro T x h; refine dropT ?zB ?zA; simpa only using (h : DropP ?zA x); assumption
theorem passesE_has {l : List Value} (e : passesE l = true) : l.contains (.type "object") = true := by
 refine @dropI _ ?_ ?_
 ·
  induction l with
  | nil => exact Bool.noConfusion (show false = true from e)
  | cons v r ih =>
    rcases passesE_cons e with ⟨c, h, h'⟩ | h
    · rw [List.contains_cons, ih h', Bool.or_true]
    · rw [h]; decide
 · intro T x h; refine dropT ?zB ?zA; simpa only using (h : DropP ?zA x); assumption
def excOver (K : Frag) (C : Addr) : Bool := (clsIn K C).any fun cd => passesE cd.mro && cd.hasDict
section
open Builtin Builtin.ObjectAttr Builtin.Getset_descriptor
variable {prog : Program} {w : World} {A : Around} {E : Value → Shared → Prop} {s : Shared} {K : Frag} {C L x : Addr} {h₀ : Heap} {m : Str → Option Value} {news : Led} {Q : Unit → Shared → Prop} {R : Result → Shared → Prop}
theorem osa_openE {ox : Obj} {od : Option Obj} {name : Str} {tk : Tok} {v : Value} (X : K.In s.heap) (I : InstAt s.heap x ox C od) (hp : excOver K C = true) (ht : takerIn K C name = some none)
    (h : ∀ b, wpAny (model prog w) A.in1 (storeInOwnDict (.ref x) (.ref C) (.str name tk) name v b)
      (fun fin s' => match fin with | .done f => R (.ok f) s' | .again c' => c'.quiet = true ∧ codeAny (model prog w) A c' R s') (fun e s' => R (.error e) s') s) :
    codeAny (model prog w) A (.call (.builtin "object.__setattr__") ⟨[.ref x, .str name tk, v], []⟩) R s := by
 refine @dropI _ ?_ ?_
 ·
  have SF := PySem.F.store_object
  obtain ⟨cd, hc, ho⟩ := any_some hp
  rw [Bool.and_eq_true] at ho
  have ne : cd.mro.isEmpty = false := by cases q : cd.mro with | nil => rw [q] at ho; cases ho.1 | cons _ _ => rfl
  have sub : Looks (model prog w) s.heap (isInstance (.ref x) (.type "object")) true := I.type.andThen (looks_mroIn X (by unfold mroIn; rw [hc, Option.bind_some, if_neg (by rw [ne]; decide), passesE_has ho.1]))
  refine codeAny_call_builtin SF.slot.plain SF.entry (@check_slot (model prog w) _ _ s "object.__setattr__" "object" "__setattr__" (.ref x) [.str name tk, v] [] _ SF.kind SF.split sub (SF.args (.ref x) (.str name tk) v) ?_)
  obtain ⟨attr, ha, hr⟩ := Option.bind_eq_some_iff.mp ht
  have hm : Looks (model prog w) s.heap (mroOf (.ref C)) cd.mro := (looks_clsIn X hc).andThen .now
  have L3 : Looks (model prog w) s.heap (storeTaker? attr) none := by
    cases attr with
    | none => exact .now
    | some a =>
      obtain ⟨b, hb, hb'⟩ := Option.map_eq_some_iff.mp hr
      refine (looks_takesIn X hb).andThen ?_
      cases b <;> first | exact .now | cases hb'
  rw [osa_eq, refuse_eq]
  refine wpAny_bind (wpAny_bind (I.type.here (wpAny_bind (hm.here ?_))))
  rw [passesE_refuse _ ho.1]
  refine wpAny_pure (wpAny_bind (I.type.here (wpAny_bind ((looks_findIn X ha).here (wpAny_bind (L3.here ?_))))))
  exact h _
 · intro T x h; refine dropT ?zB ?zA; simpa only using (h : DropP ?zA x); assumption
theorem osa_newE {od' : Obj} {fs : Array Value} {osl : Array (Option Value)} {name : Str} {tk : Tok} {v : Value} {pre post : Led} {es : List DictEntry} {n : Nat} (F : Fr h₀ L s.heap m) (N : News h₀ L s.heap (pre ++ (x, ⟨.ref C, none, .fields fs, osl⟩) :: post)) (X : K.In s.heap)
    (hp : excOver K C = true) (ht : takerIn K C name = some none) (h1 : ∀ p ∈ pre, p.1 ≠ x) (h2 : ∀ p ∈ post, p.1 ≠ x)
    (e : Obj.putName name (PyData.keyHash w.params name) (.str name s.toks) v emptyDict = od') (e' : od'.data = .dict es.toArray n) (hz : es.length ≤ 1000)
    (h : ∀ dx h', Fr h₀ L h' m → News h₀ L h' ((dx, od') :: (pre ++ (x, ⟨.ref C, some dx, .fields fs, osl⟩) :: post)) → (∀ p ∈ pre ++ (x, (⟨.ref C, none, .fields fs, osl⟩ : Obj)) :: post, p.1 < dx) → R (.ok (.ret .none)) { s with heap := h', toks := s.toks + 1 }) :
    codeAny (model prog w) A (.call (.builtin "object.__setattr__") ⟨[.ref x, .str name tk, v], []⟩) R s := by
 refine @dropI _ ?_ ?_
 ·
  have hx := (N (x, _) (List.mem_append_right _ List.mem_cons_self)).1
  refine osa_openE X (od := none) ⟨hx, rfl, rfl, trivial⟩ hp ht fun b => ?_
  obtain ⟨cd, hc, ho⟩ := any_some hp
  rw [Bool.and_eq_true] at ho
  refine wpAny_bind (wpAny_pure (wpAny_bind (wpAny_bind (wpAny_loadPart hx (wpAny_bind ((looks_clsIn X hc).here ?_))))))
  rw [ho.2]
  show wpAny _ _ (alloc emptyDict >>= _) _ _ _
  refine wpAny_bind (wpAny_alloc ?_)
  have N₁ := N.push F emptyDict
  have F₁ := F.push emptyDict
  have lt : ∀ p ∈ pre ++ (x, (⟨.ref C, none, .fields fs, osl⟩ : Obj)) :: post, p.1 < s.heap.objs.size := fun p hp => Heap.lt_size (N p hp).1
  have hne : s.heap.objs.size ≠ x := Nat.ne_of_gt (lt (x, _) (List.mem_append_right _ List.mem_cons_self))
  obtain ⟨F₂, N₂⟩ := news_upd (f := fun o => { cls := o.cls, dict := some s.heap.objs.size, data := o.data, slots := o.slots }) (pre := (s.heap.objs.size, emptyDict) :: pre) (o' := ⟨.ref C, some s.heap.objs.size, .fields fs, osl⟩) F₁ N₁
    (fun p hp => by rcases List.mem_cons.mp hp with rfl | hp; exact hne; exact h1 p hp) h2 rfl rfl
  have hx₁ := (N₁ (x, _) (List.mem_cons_of_mem _ (List.mem_append_right _ List.mem_cons_self))).1
  refine wpAny_bind (wpAny_update' hx₁ ?_)
  refine wpAny_pure (a := some s.heap.objs.size) ?_
  have D := (N₂ (s.heap.objs.size, emptyDict) List.mem_cons_self).1
  obtain ⟨U1, U2⟩ := news_upd (pre := []) (f := Obj.putName name (PyData.keyHash w.params name) (.str name s.toks) v) F₂ N₂ (by simp) (fun p hp => by
    rcases List.mem_append.mp hp with q | q
    · exact Nat.ne_of_lt (lt p (List.mem_append_left _ q))
    · rcases List.mem_cons.mp q with rfl | q
      · exact Ne.symm hne
      · exact Nat.ne_of_lt (lt p (List.mem_append_right _ (.tail _ q)))) e (by obtain ⟨_, _, dd, _⟩ := od'; cases e'; rfl)
  have D' := (U2 (s.heap.objs.size, od') (by simp)).1
  show wpAny _ _ (storeInDict s.heap.objs.size (.str name tk) name v) _ _ _
  refine wpAny_bind (wpAny_pure (wpAny_bind ?_))
  unfold nsSet
  refine wpAny_bind (wpAny_bind (wpAny_askSetting (wpAny_pure (wpAny_bind (wpAny_mkText (wpAny_bind (wpAny_loadPart D ?_)))))))
  dsimp only
  have c : (!(#[] : Array DictEntry).any (·.key.isStr name) && (#[] : Array DictEntry).any (·.refKey)) = false := by simp
  rw [aRefKeyMayBeTheName_at, c]
  refine wpAny_updatePart D ?_
  refine wpAny_bind (wpAny_lookBehind D' (by rw [e']; exact pastItsLine_dict (by rw [List.size_toArray, sizeLine_eq]; omega)) ?_)
  exact wpAny_pure (h _ _ U1 U2 lt)
 · intro T x h; refine dropT ?zB ?zA; simpa only using (h : DropP ?zA x); assumption
theorem osa_dictE {ox od od' : Obj} {dx : Addr} {name : Str} {tk : Tok} {v : Value} {pre post : Led} {es : List DictEntry} {n : Nat} (F : Fr h₀ L s.heap m) (N : News h₀ L s.heap (pre ++ (dx, od) :: post)) (X : K.In s.heap)
    (I : W.InstAt s.heap x ox C (some od)) (hd : ox.dict = some dx) (hp : excOver K C = true) (ht : takerIn K C name = some none)
    (hl : (lookIn name od).isSome = true) (h1 : ∀ p ∈ pre, p.1 ≠ dx) (h2 : ∀ p ∈ post, p.1 ≠ dx)
    (e : Obj.putName name (PyData.keyHash w.params name) (.str name s.toks) v od = od') (e' : od'.data = .dict es.toArray n) (hz : es.length ≤ 1000)
    (h : ∀ h', Fr h₀ L h' m → News h₀ L h' (pre ++ (dx, od') :: post) → R (.ok (.ret .none)) { s with heap := h', toks := s.toks + 1 }) :
    codeAny (model prog w) A (.call (.builtin "object.__setattr__") ⟨[.ref x, .str name tk, v], []⟩) R s := by
 refine @dropI _ ?_ ?_
 ·
  refine osa_openE X I hp ht fun b => ?_
  obtain ⟨cd, hc, hd'⟩ := any_some hp
  rw [Bool.and_eq_true] at hd'
  obtain ⟨U1, U2⟩ := news_upd (f := Obj.putName name (PyData.keyHash w.params name) (.str name s.toks) v) F N h1 h2 e (by obtain ⟨_, _, dd, _⟩ := od'; cases e'; rfl)
  have D := (N (dx, od) (by simp)).1
  have D' := (U2 (dx, od') (by simp)).1
  refine sealG fun pS hS9 => ?_
  obtain ⟨hx, hcl, hn, -⟩ := I
  obtain ⟨oc, odi, oda, osl⟩ := ox
  refine hS9 ?_
  clear hS9 pS
  dsimp only at hcl hd
  subst hcl hd
  refine wpAny_bind (wpAny_pure (wpAny_bind (wpAny_bind (wpAny_loadPart hx (wpAny_bind ((looks_clsIn X hc).here ?_))))))
  rw [hd'.2]
  refine wpAny_pure (a := some dx) (wpAny_bind (wpAny_pure (wpAny_bind ?_)))
  unfold nsSet
  refine wpAny_bind (wpAny_bind (wpAny_askSetting (wpAny_pure (wpAny_bind (wpAny_mkText (wpAny_bind (wpAny_loadPart D ?_)))))))
  unfold lookIn at hl
  split at hl
  · rename_i es₀ n₀ q
    rw [q]
    dsimp only
    have c : (!es₀.any (·.key.isStr name) && es₀.any (·.refKey)) = false := by
      rw [← Array.any_toList, ← Array.any_toList]
      split at hl
      · rename_i en he
        rw [List.any_eq_true.mpr ⟨en, List.mem_of_find?_eq_some he, List.find?_some he⟩]; rfl
      · split at hl
        · cases hl
        · rename_i z; rw [Bool.not_eq_true] at z; rw [z, Bool.and_false]
    rw [aRefKeyMayBeTheName_at, c]
    refine wpAny_updatePart D ?_
    refine wpAny_bind (wpAny_lookBehind D' (by rw [e']; exact pastItsLine_dict (by rw [List.size_toArray, sizeLine_eq]; omega)) ?_)
    exact wpAny_pure (h _ U1 U2)
  · cases hl
 · intro T x h; refine dropT ?zB ?zA; simpa only using (h : DropP ?zA x); assumption
theorem setE_new {fs : Array Value} {osl : Array (Option Value)} {name : Str} {v : Value} {news' : Addr → Led} {es' : List DictEntry} {n' : Nat} (F : Fr h₀ L s.heap m) (X₀ : K.In h₀) (N : News h₀ L s.heap news)
    (U : ∀ dx, Upd x ⟨.ref C, none, .fields fs, osl⟩ ⟨.ref C, some dx, .fields fs, osl⟩ news (news' dx)) (hs : findIn K (.ref C) "__setattr__" = some (some (.builtin "object.__setattr__")))
    (hp : excOver K C = true) (ht : takerIn K C name = some none)
    (e : (putL name (PyData.keyHash w.params name) (.str name (s.toks + 1)) v [], putN name [] 0) = (es', n')) (hz : es'.length ≤ 1000)
    (h : ∀ dx h', Fr h₀ L h' m → News h₀ L h' ((dx, dictOf es' n') :: news' dx) → (∀ p ∈ news, p.1 < dx) → Q () { s with heap := h', toks := s.toks + 2 }) :
    wpAny (model prog w) A (setAttr (.ref x) name v) Q E s := by
 refine @dropI _ ?_ ?_
 ·
  have X := X₀.keeps F.keep
  refine sealG fun pS hS9 => ?_
  obtain ⟨pre, post, rfl, e2, a, b⟩ := (U 0).split
  obtain ⟨e3, e4⟩ := Prod.mk.inj e
  refine hS9 ?_
  clear hS9 pS
  refine set_plain X (od := none) ⟨(N (x, _) (List.mem_append_right _ List.mem_cons_self)).1, rfl, rfl, trivial⟩ hs (osa_newE (s := { s with toks := s.toks + 1 }) (od' := dictOf es' n') F N X hp ht a b (by rw [show emptyDict = dictOf [] 0 from rfl, putName_dict, e3, e4]) rfl hz fun dx h' F' N' lt => ?_)
  refine h dx h' F' ?_ lt
  refine sealG fun pS hS9 => ?_
  obtain ⟨pre', post', q1, q2, q3, q4⟩ := (U dx).split
  refine hS9 ?_
  clear hS9 pS
  have hx : ∀ {p1 p2 q1 q2 : Led} {o o' : Obj}, p1 ++ (x, o) :: p2 = q1 ++ (x, o') :: q2 → (∀ p ∈ p1, p.1 ≠ x) → (∀ p ∈ q1, p.1 ≠ x) → p1 = q1 ∧ p2 = q2 := by
    intro p1
    induction p1 with
    | nil =>
      intro p2 q1 q2 o o' e h1 h2
      cases q1 with
      | nil => simp at e; exact ⟨rfl, e.2⟩
      | cons c r => simp at e; exact absurd (e.1 ▸ rfl) (h2 c List.mem_cons_self)
    | cons c r ih =>
      intro p2 q1 q2 o o' e h1 h2
      cases q1 with
      | nil => simp at e; exact absurd (e.1 ▸ rfl) (h1 c List.mem_cons_self)
      | cons c' r' =>
        simp only [List.cons_append, List.cons.injEq] at e
        obtain ⟨i1, i2⟩ := ih e.2 (fun p hp => h1 p (.tail _ hp)) (fun p hp => h2 p (.tail _ hp))
        exact ⟨by rw [e.1, i1], i2⟩
  obtain ⟨rfl, rfl⟩ := hx q1 a q3
  rw [q2]
  exact N'
 · intro T x h; refine dropT ?zB ?zA; simpa only using (h : DropP ?zA x); assumption
theorem setE_dict {fs : Array Value} {osl : Array (Option Value)} {dx : Addr} {name : Str} {v : Value} {news' : Led} {es es' : List DictEntry} {n n' : Nat} (F : Fr h₀ L s.heap m) (X₀ : K.In h₀) (N : News h₀ L s.heap news)
    (hx : (x, (⟨.ref C, some dx, .fields fs, osl⟩ : Obj)) ∈ news) (hd : (dx, dictOf es n) ∈ news) (hs : findIn K (.ref C) "__setattr__" = some (some (.builtin "object.__setattr__"))) (hp : excOver K C = true) (ht : takerIn K C name = some none)
    (hl : (getL name es).isSome = true) (e : (putL name (PyData.keyHash w.params name) (.str name (s.toks + 1)) v es, putN name es n) = (es', n')) (U : Upd dx (dictOf es n) (dictOf es' n') news news') (hz : es'.length ≤ 1000)
    (h : ∀ h', Fr h₀ L h' m → News h₀ L h' news' → Q () { s with heap := h', toks := s.toks + 2 }) :
    wpAny (model prog w) A (setAttr (.ref x) name v) Q E s := by
 refine @dropI _ ?_ ?_
 ·
  have X := X₀.keeps F.keep
  refine sealG fun pS hS9 => ?_
  obtain ⟨pre, post, rfl, rfl, a, b⟩ := U.split
  obtain ⟨e1, e2⟩ := Prod.mk.inj e
  refine hS9 ?_
  clear hS9 pS
  have I : W.InstAt s.heap x ⟨.ref C, some dx, .fields fs, osl⟩ C (some (dictOf es n)) := ⟨(N _ hx).1, rfl, rfl, (N _ hd).1⟩
  exact set_plain X I hs (osa_dictE (s := { s with toks := s.toks + 1 }) F N X I rfl hp ht hl a b (by rw [putName_dict, e1, e2]) rfl hz fun h' F' N' => h h' F' N')
 · intro T x h; refine dropT ?zB ?zA; simpa only using (h : DropP ?zA x); assumption
theorem exc_init {C t₀ : Addr} {rest : List Value} {news' : Addr → Led} {Q : Value → Shared → Prop} (F : Fr h₀ L s.heap m) (X₀ : K.In h₀) (N : News h₀ L s.heap news) (hm : makesE K C = true) (hrest : rest.length ≤ sizeLine)
    (U : ∀ t, Upd x (excO C none t₀) (excO C none t) news (news' t))
    (h : ∀ t h', Fr h₀ L h' m → News h₀ L h' ((t, tupO rest) :: news' t) → (∀ p ∈ news, p.1 < t) → Q .none { s with heap := h' }) :
    wpAny (model prog w) A (call (.builtin "Exception.__init__") (.ref x :: rest)) Q E s := by
 refine @dropI _ ?_ ?_
 ·
  have X := X₀.keeps F.keep
  have G := PySem.F.excBase_Exception
  have Y := makesE_of (M := model prog w) X hm
  refine sealG fun pS hS9 => ?_
  obtain ⟨pre, post, hpp, e2, a, b⟩ := (U s.heap.objs.size).split
  refine hS9 ?_
  clear hS9 pS
  have hxm : (x, excO C none t₀) ∈ news := by rw [hpp]; exact List.mem_append_right _ List.mem_cons_self
  have hget := (N _ hxm).1
  have t1 : Looks (model prog w) s.heap (typeOf (.ref x)) (.ref C) := (Looks.ld hget).andThen .now
  have exc := Y.exc
  refine sealG fun pS hS9 => ?_
  obtain ⟨hh, g, d, t, os⟩ := s
  refine hS9 ?_
  clear hS9 pS
  have hshort := G.noStar
  refine wpAny_call (codeAny_call_builtin G.init.plain G.initEntry ?_)
  simp only [checkBuiltinCall, G.initKind, G.initSplit, G.initRow]
  refine sealG fun pS hS9 => ?_
  obtain ⟨oc, od, cd, sl, hC, -⟩ := Y.obj
  refine hS9 ?_
  clear hS9 pS
  unfold isInstance
  repeat (first | with_reducible refine Looks.at (by assumption) ?_ | with_reducible refine wpAny_loadPart_at hC ?_ | wp_step)
  refine wpAny_onRaise ?_
  rw [show ∀ (a b : String) (n : Nat), Bind.check ⟨.positional, "*", "Exception", .self, [⟨"args", .varPos, false⟩]⟩ a b n (List.map (fun x => x.fst) ({ pos := Value.ref x :: rest } : Args).kw) = pure () from
    fun a b n => check_star_args _ _ _ _ _ _]
  refine wpAny_pure ?_
  unfold Builtin.«BaseException.__init__»
  repeat (first | with_reducible refine Looks.at (by assumption) ?_ | wp_step)
  have N₁ := N.push F (tupO rest)
  have F₁ := F.push (tupO rest)
  have lt : ∀ p ∈ news, p.1 < hh.objs.size := fun p hp => Heap.lt_size (N p hp).1
  rw [hpp] at N₁
  obtain ⟨F₂, N₂⟩ := news_upd (f := Obj.mapFields (·.setIfInBounds 0 (Value.ref hh.objs.size))) (pre := (hh.objs.size, tupO rest) :: pre) (o' := excO C none hh.objs.size) F₁ N₁
    (fun p hp => by rcases List.mem_cons.mp hp with rfl | hp; exact Nat.ne_of_gt (lt _ hxm); exact a p hp) b rfl rfl
  show Q .none _
  refine h hh.objs.size _ F₂ ?_ lt
  rw [e2]
  exact N₂
 · intro T x h; refine dropT ?zB ?zA; simpa only using (h : DropP ?zA x); assumption
end
theorem raise_set : findIn (hd.heap_1_39 w.params) (.ref 77) "__setattr__" = some (some (.builtin "object.__setattr__")) := by k_dflt k_is
theorem raise_over : excOver (hd.heap_1_39 w.params) 77 = true := by kernel_rfl
end
section
example : True := by
  w_top off
  trivial
variable {w : World} {p : Program} {loose : List Str} {mean : ExcName → Option Value} {mg mb : Str → Option Value}
section
variable {M : Model} {A : Around} {E : Value → Shared → Prop} {s : Shared}
def TracedD (h B : Heap) (e C dx : Addr) (fl : Value) : Prop :=
  ∃ sl vs T oT ts, h.get? e = some ⟨.ref C, some dx, .fields vs, sl⟩ ∧ vs[1]? = some (.ref T) ∧ B.get? T = none ∧ T ≠ e ∧ h.get? T = some oT ∧ oT.data = .fields ts ∧ ts[3]? = some fl
def StepD (B : Heap) (l : List Env) (e C dx : Addr) (fl : Value) (h h' : Heap) : Prop := B.StaysIn h' ∧ h'.FunFrames B l ∧ TracedD h' B e C dx fl ∧ h.UpToSlots h'
theorem entryD {B : Heap} {env : Env} {outer : List Env} {L e C dx : Addr} {vs : Array Value} {sl : Array (Option Value)} {head : Value} {hadNext : Bool} {Q : Unit → Shared → Prop}
    (hfr : A.frames = some (env :: outer)) (hl : s.heap.FunFrames B (env :: outer)) (hf : env.frame = some L)
    (he : s.heap.get? e = some ⟨.ref C, some dx, .fields vs, sl⟩) (hkb : B.StaysIn s.heap) (hen : B.get? e = none) (hsz : 1 < vs.size)
    (h : ∀ h', StepD B (env :: outer) e C dx (rawInt L) s.heap h' → Q () { s with heap := h' }) :
    wpAny M A (do let a ← frameOf env; let pl ← entryPlaceOf L hadNext; let b ← EntryCells.newEntry head a .none (rawInt L) .none pl; setField (.ref e) 1 b) Q E s := by
 refine @dropI _ ?_ ?_
 ·
  have hene : e ∉ (env :: outer).filterMap (·.frame) := fun hm => by
    refine sealG fun pS hS9 => ?_
    obtain ⟨_, o, ho, hnf⟩ := hl.mem hm
    refine hS9 ?_
    clear hS9 pS
    rw [he] at ho; injection ho with ho; subst ho; exact hnf vs rfl
  refine wpAny_bind (wpAny_frameOf_fun hfr hl hf fun h₁ hs₁ => ?_)
  refine wpAny_bind (wpAny_entryPlaceOf fun pl hpl => ?_)
  unfold EntryCells.newEntry newFields
  refine wpAny_bind (wpAny_newObj_type ?_ (hpl.sizeOk5 _ _ _ _ _))
  have he₁ : h₁.get? e = some ⟨.ref C, some dx, .fields vs, sl⟩ := (hs₁.2.1 e hene).trans he
  have kb₁ : B.StaysIn h₁ := fun b o hbo => (hs₁.2.1 b fun hm => by rw [(hl.mem hm).1] at hbo; cases hbo).trans (hkb b o hbo)
  generalize hts : ([head, .ref L, .none, rawInt L, .none] ++ (if pl.isEmpty then List.replicate 6 Value.none else pl)).toArray = ts
  have h3 : ts[3]? = some (rawInt L) := by subst hts; first | (simp; done) | (rcases hpl with rfl | ⟨_, _, _, _, _, _, _, rfl⟩ <;> simp)
  have he₂ := Heap.get?_push_of_some (h := h₁) { cls := .type "traceback", dict := none, data := .fields ts } he₁
  refine wpAny_setField he₂ rfl hsz (h _ ?_)
  have hTe : h₁.objs.size ≠ e := Nat.ne_of_gt (Heap.lt_size he₁)
  have he₃ := Heap.get?_update_self (Obj.mapFields (·.setIfInBounds 1 (Value.ref h₁.objs.size))) he₂ (Obj.isFreed_of_fields (Obj.data_mapFields rfl _))
  have hT₃ := (Heap.get?_update_other (h₁.push { cls := .type "traceback", dict := none, data := .fields ts }) (Obj.mapFields (·.setIfInBounds 1 (Value.ref h₁.objs.size))) (Ne.symm hTe)).trans (Heap.get?_push_size h₁ rfl)
  have keep : ∀ b o, b ≠ e → h₁.get? b = some o → ((h₁.push { cls := .type "traceback", dict := none, data := .fields ts }).update e (Obj.mapFields (·.setIfInBounds 1 (Value.ref h₁.objs.size)))).get? b = some o := fun b o hbe hb => by
    rw [Heap.get?_update_other _ _ (Ne.symm hbe)]
    exact Heap.get?_push_of_some _ hb
  have noRecord : ∀ b o, s.heap.get? b = some o → (∀ vs, o.data ≠ .fields vs) → b ≠ e := fun b o hb hnf q => by
    rw [q, he] at hb; injection hb with hb; subst hb; exact hnf vs rfl
  refine ⟨fun b o hbo => keep b o (fun q => by rw [q, hen] at hbo; cases hbo) (kb₁ b o hbo), hl.of_keeps fun b o hb hnf => ?_, ?_, fun b o hb hnf => ?_⟩
  · obtain ⟨sl, hs⟩ := hs₁.2.2 b o hb
    exact ⟨_, keep b _ (noRecord b o hb hnf) hs, rfl⟩
  · exact ⟨sl, vs.setIfInBounds 1 (.ref h₁.objs.size), h₁.objs.size, _, ts, he₃, by simp [hsz], kb₁.fresh, hTe, hT₃, rfl, h3⟩
  · obtain ⟨sl, hs⟩ := hs₁.2.2 b o hb
    exact ⟨sl, keep b _ (noRecord b o hb hnf) hs⟩
 · intro T x h; refine dropT ?zB ?zA; simpa only using (h : DropP ?zA x); assumption
theorem flightD {B : Heap} {l : List Env} {e C dx : Addr} {fl : Value} {Q : Unit → Shared → Prop} (hkb : B.StaysIn s.heap) (hl : s.heap.FunFrames B l) (ht : TracedD s.heap B e C dx fl)
    (h : ∀ h', StepD B l e C dx .none s.heap h' → Q () { s with heap := h' }) : wpAny M A (setFlight (.ref e) none) Q E s := by
 refine @dropI _ ?_ ?_
 ·
  refine sealG fun pS hS9 => ?_
  obtain ⟨sl, vs, T, oT, ts, he, h1, hnT, hTe, hT, hdT, h3⟩ := ht
  refine hS9 ?_
  clear hS9 pS
  have hsz3 : 3 < ts.size := (Array.getElem?_eq_some_iff.mp h3).1
  have other : ∀ b, b ≠ T → (s.heap.update T (Obj.mapFields (·.setIfInBounds 3 ((none : Option Addr).elim Value.none fun f => rawInt f)))).get? b = s.heap.get? b := fun b hb => Heap.get?_update_other _ _ (Ne.symm hb)
  have noRecord : ∀ b o, s.heap.get? b = some o → (∀ vs, o.data ≠ .fields vs) → b ≠ T := fun b o hb hnf q => by
    rw [q, hT] at hb; injection hb with hb; subst hb; exact hnf ts hdT
  unfold setFlight
  refine wpAny_bind (wpAny_field he rfl h1 ?_)
  rw [if_pos (show (Value.ref T != Value.none) = true from by simp)]
  refine wpAny_setField hT hdT hsz3 (h _ ⟨fun b o hbo => (other b fun q => by rw [q, hnT] at hbo; cases hbo).trans (hkb b o hbo), hl.of_keeps fun b o hb hnf => ⟨o, (other b (noRecord b o hb hnf)).trans hb, rfl⟩, ?_,
    fun b o hb hnf => ⟨o.slots, (other b (noRecord b o hb hnf)).trans hb⟩⟩)
  exact ⟨sl, vs, T, _, _, (other e (Ne.symm hTe)).trans he, h1, hnT, hTe, Heap.get?_update_self _ hT (Obj.isFreed_of_fields (Obj.data_mapFields hdT _)), Obj.data_mapFields hdT _, by simp [hsz3]⟩
 · intro T x h; refine dropT ?zB ?zA; simpa only using (h : DropP ?zA x); assumption
theorem noteD_first {B : Heap} {env : Env} {outer : List Env} {L e C dx : Addr} {vs : Array Value} {sl : Array (Option Value)} {Q : Unit → Shared → Prop}
    (hfr : A.frames = some (env :: outer)) (hl : s.heap.FunFrames B (env :: outer)) (hf : env.frame = some L)
    (he : s.heap.get? e = some ⟨.ref C, some dx, .fields vs, sl⟩) (hkb : B.StaysIn s.heap) (hen : B.get? e = none) (h1 : vs[1]? = some .none)
    (h : ∀ h', StepD B (env :: outer) e C dx (rawInt L) s.heap h' → Q () { s with heap := h' }) : wpAny M A (noteFrame (.ref e) env) Q E s := by
  unfold noteFrame
  simp only [hf]
  refine wpAny_bind (wpAny_field he rfl h1 ?_)
  rw [if_neg (by decide)]
  exact entryD hfr hl hf he hkb hen (Array.getElem?_eq_some_iff.mp h1).1 h
theorem noteD_on {B : Heap} {env : Env} {outer : List Env} {L e C dx : Addr} {Q : Unit → Shared → Prop}
    (hfr : A.frames = some (env :: outer)) (hl : s.heap.FunFrames B (env :: outer)) (hf : env.frame = some L) (ht : TracedD s.heap B e C dx .none) (hkb : B.StaysIn s.heap) (hen : B.get? e = none)
    (h : ∀ h', StepD B (env :: outer) e C dx (rawInt L) s.heap h' → Q () { s with heap := h' }) : wpAny M A (noteFrame (.ref e) env) Q E s := by
 refine @dropI _ ?_ ?_
 ·
  refine sealG fun pS hS9 => ?_
  obtain ⟨sl, vs, T, oT, ts, he, h1, hnT, hTe, hT, hdT, h3⟩ := ht
  refine hS9 ?_
  clear hS9 pS
  unfold noteFrame
  simp only [hf]
  refine wpAny_bind (wpAny_field he rfl h1 ?_)
  rw [if_pos (show (Value.ref T != Value.none) = true from by simp)]
  refine wpAny_bind (wpAny_field hT hdT h3 ?_)
  rw [if_neg (show ¬ ((Value.none == rawInt L) = true) from by simp [rawInt])]
  refine wpAny_bind (wpAny_setField hT hdT (Array.getElem?_eq_some_iff.mp h3).1 ?_)
  have other : ∀ b, b ≠ T → (s.heap.update T (Obj.mapFields (·.setIfInBounds 3 Value.none))).get? b = s.heap.get? b := fun b hb => Heap.get?_update_other _ _ (Ne.symm hb)
  have noRecord : ∀ b o, s.heap.get? b = some o → (∀ vs, o.data ≠ .fields vs) → b ≠ T := fun b o hb hnf q => by
    rw [q, hT] at hb; injection hb with hb; subst hb; exact hnf ts hdT
  refine entryD hfr (hl.of_keeps fun b o hb hnf => ⟨o, (other b (noRecord b o hb hnf)).trans hb, rfl⟩) hf ((other e (Ne.symm hTe)).trans he)
    (fun b o hbo => (other b fun q => by rw [q, hnT] at hbo; cases hbo).trans (hkb b o hbo)) hen (Array.getElem?_eq_some_iff.mp h1).1
    fun h' ⟨x1, x2, x3, x4⟩ => h h' ⟨x1, x2, x3, fun b o hb hnf => x4 b o ((other b (noRecord b o hb hnf)).trans hb) hnf⟩
 · intro T x h; refine dropT ?zB ?zA; simpa only using (h : DropP ?zA x); assumption
theorem StepD.rfl' {B h : Heap} {l : List Env} {e C dx : Addr} {fl : Value} (h1 : B.StaysIn h) (h2 : h.FunFrames B l) (h3 : TracedD h B e C dx fl) : StepD B l e C dx fl h h := ⟨h1, h2, h3, .refl _⟩
theorem noteD_any {B : Heap} {env : Env} {outer : List Env} {L e C dx : Addr} {fl : Value} {Q : Unit → Shared → Prop}
    (hfr : A.frames = some (env :: outer)) (hl : s.heap.FunFrames B (env :: outer)) (hf : env.frame = some L) (ht : TracedD s.heap B e C dx fl) (hkb : B.StaysIn s.heap) (hen : B.get? e = none)
    (h : ∀ h', StepD B (env :: outer) e C dx (rawInt L) s.heap h' → Q () { s with heap := h' }) : wpAny M A (noteFrame (.ref e) env) Q E s := by
 refine @dropI _ ?_ ?_
 ·
  have ht' := ht
  refine sealG fun pS hS9 => ?_
  obtain ⟨sl, vs, T, oT, ts, he, h1, hnT, hTe, hT, hdT, h3⟩ := ht
  refine hS9 ?_
  clear hS9 pS
  unfold noteFrame
  simp only [hf]
  refine wpAny_bind (wpAny_field he rfl h1 ?_)
  rw [if_pos (show (Value.ref T != Value.none) = true from by simp)]
  refine wpAny_bind (wpAny_field hT hdT h3 ?_)
  by_cases hfl : (fl == rawInt L) = true
  · rw [if_pos hfl]
    obtain rfl : fl = rawInt L := by simpa using hfl
    exact wpAny_pure (h _ (StepD.rfl' hkb hl ht'))
  rw [if_neg hfl]
  refine wpAny_bind (wpAny_setField hT hdT (Array.getElem?_eq_some_iff.mp h3).1 ?_)
  have other : ∀ b, b ≠ T → (s.heap.update T (Obj.mapFields (·.setIfInBounds 3 Value.none))).get? b = s.heap.get? b := fun b hb => Heap.get?_update_other _ _ (Ne.symm hb)
  have noRecord : ∀ b o, s.heap.get? b = some o → (∀ vs, o.data ≠ .fields vs) → b ≠ T := fun b o hb hnf q => by
    rw [q, hT] at hb; injection hb with hb; subst hb; exact hnf ts hdT
  refine entryD hfr (hl.of_keeps fun b o hb hnf => ⟨o, (other b (noRecord b o hb hnf)).trans hb, rfl⟩) hf ((other e (Ne.symm hTe)).trans he)
    (fun b o hbo => (other b fun q => by rw [q, hnT] at hbo; cases hbo).trans (hkb b o hbo)) hen (Array.getElem?_eq_some_iff.mp h1).1
    fun h' ⟨x1, x2, x3, x4⟩ => h h' ⟨x1, x2, x3, fun b o hb hnf => x4 b o ((other b (noRecord b o hb hnf)).trans hb) hnf⟩
 · intro T x h; refine dropT ?zB ?zA; simpa only using (h : DropP ?zA x); assumption
def FlyingD (B : Heap) (l : List Env) (e C dx : Addr) (h : Heap) : Prop := B.StaysIn h ∧ B.get? e = none ∧ h.FunFrames B l ∧ ∃ fl, TracedD h B e C dx fl
theorem leaveD_first {B : Heap} {env : Env} {outer : List Env} {L e C dx : Addr} {vs : Array Value} {sl : Array (Option Value)} {Q : Unit → Shared → Prop}
    (hfr : A.frames = some (env :: outer)) (hl : s.heap.FunFrames B (env :: outer)) (hf : env.frame = some L)
    (he : s.heap.get? e = some ⟨.ref C, some dx, .fields vs, sl⟩) (hkb : B.StaysIn s.heap) (hen : B.get? e = none) (h1 : vs[1]? = some .none)
    (h : ∀ h', FlyingD B outer e C dx h' → s.heap.UpToSlots h' → Q () { s with heap := h' }) : wpAny M A (leaving env (.ref e)) Q E s := by
 refine @dropI _ ?_ ?_
 ·
  unfold leaving
  refine wpAny_bind (noteD_first hfr hl hf he hkb hen h1 fun h₁ ⟨x1, x2, x3, x4⟩ => ?_)
  exact flightD x1 x2 x3 fun h₂ ⟨y1, y2, y3, y4⟩ => h h₂ ⟨y1, hen, y2.2.2, _, y3⟩ (x4.trans y4)
 · intro T x h; refine dropT ?zB ?zA; simpa only using (h : DropP ?zA x); assumption
theorem leaveD_on {B : Heap} {env : Env} {outer : List Env} {L e C dx : Addr} {Q : Unit → Shared → Prop}
    (hfr : A.frames = some (env :: outer)) (hf : env.frame = some L) (hfl : FlyingD B (env :: outer) e C dx s.heap)
    (h : ∀ h', FlyingD B outer e C dx h' → s.heap.UpToSlots h' → Q () { s with heap := h' }) : wpAny M A (leaving env (.ref e)) Q E s := by
 refine @dropI _ ?_ ?_
 ·
  refine sealG fun pS hS9 => ?_
  obtain ⟨f1, f2, f3, fl, f4⟩ := hfl
  refine hS9 ?_
  clear hS9 pS
  unfold leaving
  refine wpAny_bind (noteD_any hfr f3 hf f4 f1 f2 fun h₁ ⟨x1, x2, x3, x4⟩ => ?_)
  exact flightD x1 x2 x3 fun h₂ ⟨y1, y2, y3, y4⟩ => h h₂ ⟨y1, f2, y2.2.2, _, y3⟩ (x4.trans y4)
 · intro T x h; refine dropT ?zB ?zA; simpa only using (h : DropP ?zA x); assumption
theorem noteD_fly {B : Heap} {env : Env} {outer : List Env} {L e C dx : Addr} {Q : Unit → Shared → Prop}
    (hfr : A.frames = some (env :: outer)) (hf : env.frame = some L) (hfl : FlyingD B (env :: outer) e C dx s.heap)
    (h : ∀ h', FlyingD B (env :: outer) e C dx h' → s.heap.UpToSlots h' → Q () { s with heap := h' }) : wpAny M A (noteFrame (.ref e) env) Q E s := by
  refine sealG fun pS hS9 => ?_
  obtain ⟨f1, f2, f3, fl, f4⟩ := hfl
  refine hS9 ?_
  clear hS9 pS
  exact noteD_any hfr f3 hf f4 f1 f2 fun h₁ ⟨x1, x2, x3, x4⟩ => h h₁ ⟨x1, f2, x2, _, x3⟩ x4
theorem flightD_any {B : Heap} {l : List Env} {e C dx : Addr} {fr : Option Addr} {Q : Unit → Shared → Prop} (hfl : FlyingD B l e C dx s.heap)
    (h : ∀ h', FlyingD B l e C dx h' → s.heap.UpToSlots h' → Q () { s with heap := h' }) : wpAny M A (setFlight (.ref e) fr) Q E s := by
 refine @dropI _ ?_ ?_
 ·
  refine sealG fun pS hS9 => ?_
  obtain ⟨hkb, f2, hl, fl, sl, vs, T, oT, ts, he, h1, hnT, hTe, hT, hdT, h3⟩ := hfl
  refine hS9 ?_
  clear hS9 pS
  have hsz3 : 3 < ts.size := (Array.getElem?_eq_some_iff.mp h3).1
  have other : ∀ b, b ≠ T → (s.heap.update T (Obj.mapFields (·.setIfInBounds 3 (fr.elim Value.none fun f => rawInt f)))).get? b = s.heap.get? b := fun b hb => Heap.get?_update_other _ _ (Ne.symm hb)
  have noRecord : ∀ b o, s.heap.get? b = some o → (∀ vs, o.data ≠ .fields vs) → b ≠ T := fun b o hb hnf q => by
    rw [q, hT] at hb; injection hb with hb; subst hb; exact hnf ts hdT
  unfold setFlight
  refine wpAny_bind (wpAny_field he rfl h1 ?_)
  rw [if_pos (show (Value.ref T != Value.none) = true from by simp)]
  refine wpAny_setField hT hdT hsz3 (h _ ⟨fun b o hbo => (other b fun q => by rw [q, hnT] at hbo; cases hbo).trans (hkb b o hbo), f2, hl.of_keeps fun b o hb hnf => ⟨o, (other b (noRecord b o hb hnf)).trans hb, rfl⟩, fr.elim Value.none (fun f => rawInt f), ?_⟩
    fun b o hb hnf => ⟨o.slots, (other b (noRecord b o hb hnf)).trans hb⟩)
  exact ⟨sl, vs, T, _, _, (other e (Ne.symm hTe)).trans he, h1, hnT, hTe, Heap.get?_update_self _ hT (Obj.isFreed_of_fields (Obj.data_mapFields hdT _)), Obj.data_mapFields hdT _, by simp [hsz3]⟩
 · intro T x h; refine dropT ?zB ?zA; simpa only using (h : DropP ?zA x); assumption
theorem passOnD {α : Type} {B : Heap} {l : List Env} {e C dx : Addr} {what : String} {env : Env} {Q : α → Shared → Prop} (hfl : FlyingD B l e C dx s.heap)
    (h : ∀ h', FlyingD B l e C dx h' → s.heap.UpToSlots h' → E (.ref e) { s with heap := h' }) : wpAny M A (PySem.passOn what (.ref e) env : Sem α) Q E s := by
 refine @dropI _ ?_ ?_
 ·
  have hfl' := hfl
  refine sealG fun pS hS9 => ?_
  obtain ⟨-, -, -, fl, sl, vs, T, oT, ts, he, h1, -⟩ := hfl
  refine hS9 ?_
  clear hS9 pS
  unfold PySem.passOn
  refine wpAny_bind (wpAny_field he rfl h1 ?_)
  rw [if_neg (show ¬ ((Value.ref T == Value.none) = true) from by simp)]
  refine wpAny_bind (flightD_any hfl' fun h' x y => ?_)
  exact wpAny_throw (h h' x y)
 · intro T x h; refine dropT ?zB ?zA; simpa only using (h : DropP ?zA x); assumption
end
def RaisedA (base : Heap) (l : List Env) (e C dx : Addr) (news : Led) (h : Heap) : Prop :=
  ∃ B, base.StaysIn B ∧ (∀ q ∈ news, B.get? q.1 = some q.2 ∧ base.get? q.1 = none) ∧ FlyingD B l e C dx h
theorem RaisedA.sub {base h : Heap} {l : List Env} {e C dx : Addr} {news news' : Led} (R : RaisedA base l e C dx news h) (hs : ∀ q ∈ news', q ∈ news) : RaisedA base l e C dx news' h :=
  by obtain ⟨B, b1, b2, b3⟩ := R; exact ⟨B, b1, fun q hq => b2 q (hs q hq), b3⟩
theorem RaisedA.at_ {base h : Heap} {l : List Env} {e C dx : Addr} {news : Led} (R : RaisedA base l e C dx news h) : ∀ q ∈ news, h.get? q.1 = some q.2 :=
  by obtain ⟨_, _, b2, b3⟩ := R; exact fun q hq => b3.1 _ _ (b2 q hq).1
section
variable {M : Model} {A : Around} {E : Value → Shared → Prop} {s' : Shared} {base g g₂ h : Heap} {outer : List Env} {L a e C dx : Addr} {m : Str → Option Value} {env : Env} {Q : Unit → Shared → Prop} {news news' : Led}
theorem push_any (K : Below A base outer g) (F : Fr g L h m) (hf : env.frame = some L) (hk : env.scope.kind = .function) : Below (A.deeper env) base (env :: outer) h := by
 refine @dropI _ ?_ ?_
 ·
  have hnew : base.get? L = none := by
    cases hq : base.get? L with
    | none => rfl
    | some o => exact absurd (Nat.lt_of_lt_of_le (Heap.lt_size (K.stays L o hq)) F.above) (Nat.lt_irrefl _)
  refine ⟨Around.frames_deeper K.stack, fun b o e => F.keep b o (K.stays b o e), ?_⟩
  exact .cons (by rw [hk]; decide) hf F.ns hnew (K.frames.of_keeps fun b o e _ => ⟨o, F.keep b o e, rfl⟩)
 · intro T x h; refine dropT ?zB ?zA; simpa only using (h : DropP ?zA x); assumption
theorem leave_newA {vs : Array Value} {sl : Array (Option Value)} (K : Below A base outer g) (F : Fr g L s'.heap m) (N : News g L s'.heap news) (hf : env.frame = some L) (hk : env.scope.kind = .function)
    (he : (e, (⟨.ref C, some dx, .fields vs, sl⟩ : Obj)) ∈ news) (h1 : vs[1]? = some .none) (hs : ∀ q ∈ news', q ∈ news ∧ q.1 ≠ e)
    (hQ : ∀ h', RaisedA base outer e C dx news' h' → g.UpToSlots h' → Q () { s' with heap := h' }) :
    wpAny M (A.deeper env) (leaving env (.ref e)) Q E s' := by
 refine @dropI _ ?_ ?_
 ·
  have K' := push_any K F hf hk
  have hin : ∀ env' ∈ (env :: outer), ∀ b, env'.frame = some b → b ∈ (e :: (env :: outer).filterMap (·.frame)) := fun env' he b hb => List.mem_cons_of_mem _ (List.mem_filterMap.mpr ⟨env', he, hb⟩)
  have st : base.StaysIn (hideAll s'.heap (e :: (env :: outer).filterMap (·.frame))) := fun b o q => hideAll_get _ (K'.stays b o q) fun hm => by
    rcases List.mem_cons.mp hm with rfl | hm
    · have := fresh_of_stays K.stays (N _ he).2.2
      rw [this] at q; cases q
    · rw [(K'.frames.mem hm).1] at q; cases q
  have hl : ∀ q ∈ news', (hideAll s'.heap (e :: (env :: outer).filterMap (·.frame))).get? q.1 = some q.2 ∧ base.get? q.1 = none := fun q hq => by
    obtain ⟨hq, hne⟩ := hs q hq
    refine ⟨hideAll_get _ (N q hq).1 fun hm => ?_, fresh_of_stays K.stays (N q hq).2.2⟩
    rcases List.mem_cons.mp hm with hm | hm
    · exact hne hm
    · obtain ⟨env', he', hf'⟩ := List.mem_filterMap.mp hm
      rcases List.mem_cons.mp he' with rfl | he'
      · exact (N q hq).2.1 (Option.some.inj (hf'.symm.trans hf))
      · obtain ⟨o, ho, _⟩ := (K.frames.mem (List.mem_filterMap.mpr ⟨env', he', hf'⟩)).2
        rw [(N q hq).2.2] at ho; cases ho
  refine leaveD_first (B := hideAll s'.heap (e :: (env :: outer).filterMap (·.frame))) K'.stack (funFrames_hide K'.frames hin) hf (N _ he).1 (fun b o q => of_hideAll _ q) (hideAll_none _ List.mem_cons_self) h1 fun h' x1 x2 => ?_
  exact hQ h' ⟨_, st, hl, x1⟩ ((Heap.UpToSlots.of_keeps F.keep).trans x2)
 · intro T x h; refine dropT ?zB ?zA; simpa only using (h : DropP ?zA x); assumption
theorem leave_onA (K : Below A base outer g) (hf : env.frame = some L) (R : RaisedA base (env :: outer) e C dx news s'.heap) (hsm : g.UpToSlots s'.heap)
    (hQ : ∀ h', RaisedA base outer e C dx news h' → g.UpToSlots h' → Q () { s' with heap := h' }) :
    wpAny M (A.deeper env) (leaving env (.ref e)) Q E s' := by
 refine @dropI _ ?_ ?_
 ·
  refine sealG fun pS hS9 => ?_
  obtain ⟨B, hB, hl, hfl⟩ := R
  refine hS9 ?_
  clear hS9 pS
  exact leaveD_on (Around.frames_deeper K.stack) hf hfl fun h' x1 x2 => hQ h' ⟨B, hB, hl, x1⟩ (hsm.trans x2)
 · intro T x h; refine dropT ?zB ?zA; simpa only using (h : DropP ?zA x); assumption
end
def WordIs (es : List DictEntry) : Prop := ∃ t, getL "word" es = some (some (.str "constraint_error" t))
def RaiseK (base : Heap) (l : List Env) (h₀ : Heap) (L : Addr) (m : Str → Option Value) (news : Led) (E : Value → Shared → Prop) (s : Shared) : Prop :=
  ∀ e dx es n h' tk', WordIs es → (∀ q ∈ news, q.1 ≠ dx) → RaisedA base l e 77 dx ((dx, dictOf es n) :: news) h' → h₀.UpToSlots h' → h'.Ns L m → E (.ref e) { s with heap := h', toks := tk' }
section
variable {M : Model} {A : Around} {E E' : Value → Shared → Prop} {s₀ s' : Shared} {base g h₀ : Heap} {outer : List Env} {L Lc e dx : Addr} {m mc : Str → Option Value} {env cenv : Env} {news led : Led} {es : List DictEntry} {n : Nat}
theorem raise_first {fs : Array Value} {sl : Array (Option Value)} (K : Below A base (cenv :: outer) g) (FG : Fr h₀ Lc g mc) (F : Fr g L s'.heap m) (N : News g L s'.heap led) (hf : env.frame = some L) (hk : env.scope.kind = .function)
    (he : (e, (⟨.ref 77, some dx, .fields fs, sl⟩ : Obj)) ∈ led) (hd : (dx, dictOf es n) ∈ led) (h1 : fs[1]? = some .none) (hw : WordIs es) (hde : dx ≠ e) (hsub : ∀ q ∈ news, q ∈ led) (hne : ∀ q ∈ news, q.1 < e) (hnd : ∀ q ∈ news, q.1 < dx)
    (hs : s' = { s₀ with heap := s'.heap, toks := s'.toks }) (hr : RaiseK base (cenv :: outer) h₀ Lc mc news E s₀) :
    wpAny M (A.deeper env) (leaving env (.ref e)) (fun _ s'' => E (.ref e) s'') E' s' := by
 refine @dropI _ ?_ ?_
 ·
  refine leave_newA (news' := (dx, dictOf es n) :: news) K F N hf hk he h1 (fun q hq => ?_) fun h' R U => ?_
  · rcases List.mem_cons.mp hq with rfl | hq
    · exact ⟨hd, hde⟩
    · exact ⟨hsub q hq, Nat.ne_of_lt (hne q hq)⟩
  · have := hr e dx es n h' s'.toks hw (fun q hq => Nat.ne_of_lt (hnd q hq)) R ((Heap.UpToSlots.of_keeps FG.keep).trans U) (U.ns FG.ns)
    rw [hs]
    exact this
 · intro T x h; refine dropT ?zB ?zA; simpa only using (h : DropP ?zA x); assumption
theorem raise_on (K : Below A base (cenv :: outer) g) (FG : Fr h₀ Lc g mc) (hf : env.frame = some L) (R : RaisedA base (env :: cenv :: outer) e 77 dx ((dx, dictOf es n) :: led) s'.heap) (hU : g.UpToSlots s'.heap) (hw : WordIs es) (hdx : ∀ q ∈ led, q.1 ≠ dx)
    (hsub : ∀ q ∈ news, q ∈ led) (hs : s' = { s₀ with heap := s'.heap, toks := s'.toks }) (hr : RaiseK base (cenv :: outer) h₀ Lc mc news E s₀) :
    wpAny M (A.deeper env) (leaving env (.ref e)) (fun _ s'' => E (.ref e) s'') E' s' := by
 refine @dropI _ ?_ ?_
 ·
  refine leave_onA K hf (R.sub (news' := (dx, dictOf es n) :: news) fun q hq => ?_) hU fun h' R' U => ?_
  · rcases List.mem_cons.mp hq with rfl | hq
    · exact List.mem_cons_self
    · exact List.mem_cons_of_mem _ (hsub q hq)
  · have := hr e dx es n h' s'.toks hw (fun q hq => hdx q (hsub q hq)) R' ((Heap.UpToSlots.of_keeps FG.keep).trans U) (U.ns FG.ns)
    rw [hs]
    exact this
 · intro T x h; refine dropT ?zB ?zA; simpa only using (h : DropP ?zA x); assumption
end
theorem raise_by {M : Model} {A : Around} {E E' : Value → Shared → Prop} {s₀ s' : Shared} {base g h₀ : Heap} {outer : List Env} {L Lc e dx : Addr} {mc : Str → Option Value} {env cenv : Env} {news led : Led} {es : List DictEntry} {n : Nat} {P : Prop}
    (hr : P → RaiseK base (cenv :: outer) h₀ Lc mc news E s₀) (K : Below A base (cenv :: outer) g) (FG : Fr h₀ Lc g mc) (hf : env.frame = some L) (R : RaisedA base (env :: cenv :: outer) e 77 dx ((dx, dictOf es n) :: led) s'.heap) (hU : g.UpToSlots s'.heap) (hw : WordIs es) (hdx : ∀ q ∈ led, q.1 ≠ dx)
    (hsub : ∀ q ∈ news, q ∈ led) (hs : s' = { s₀ with heap := s'.heap, toks := s'.toks }) (hp : P) :
    wpAny M (A.deeper env) (leaving env (.ref e)) (fun _ s'' => E (.ref e) s'') E' s' := raise_on K FG hf R hU hw hdx hsub hs (hr hp)
theorem rk_of {P R : Prop} (h : P → R) (p : P) : R := h p
def SpecX (w : World) (p : Program) (loose : List Str) (mean : ExcName → Option Value) (mg mb : Str → Option Value) (f : Addr) (args : List Value) (du uu : Nat)
    (Pre : Led → Prop) (Bad : Prop) (Post : Led → Value → Prop) : Prop :=
  ∀ (dp un : Nat) (gd : Option (List Code)) (cn : Str) (cs : Scope) (a : Addr) (ccd : Value) (cl : List (Str × Addr)) (outer : List Env) (A₀ : Around) (base h₀ : Heap) (L : Addr) (m : Str → Option Value) (news : Led) (s : Shared)
    (Q E : Value → Shared → Prop),
    Below A₀ base outer h₀ → Fr h₀ L s.heap m → (hd.heap_1_39 w.params).In h₀ → News h₀ L s.heap news → Top p loose mean mg mb h₀ → cs.kind = .function → Pre news → dp + du < recursionLimit → un + uu < cLine →
    (∀ r tl h' tk', Fr h₀ L h' m → News h₀ L h' (tl ++ news) → (∀ q ∈ news, ∀ p ∈ tl, @LT.lt Nat _ q.1 p.1) → Post (tl ++ news) r → Q r { s with heap := h', toks := tk' }) →
    (Bad → RaiseK base (envX cn cs L a ccd cl :: outer) h₀ L m news E s) →
    wpAny (model PR w) (ktrTop dp un gd cn cs L a ccd cl outer) (call (.ref f) args) Q E s
theorem specX_use {f : Addr} {args : List Value} {du uu : Nat} {Pre : Led → Prop} {Bad : Prop} {Post : Led → Value → Prop} {dp un : Nat} {gd : Option (List Code)} {cn : Str} {cs : Scope} {a : Addr} {ccd : Value} {cl : List (Str × Addr)} {outer : List Env} {A₀ : Around} {base h₀ : Heap} {L : Addr} {m : Str → Option Value} {news : Led} {s : Shared}
    {Q E : Value → Shared → Prop} (S : SpecX w p loose mean mg mb f args du uu Pre Bad Post)
    (B : Below A₀ base outer h₀) (F : Fr h₀ L s.heap m) (X : (hd.heap_1_39 w.params).In h₀) (N : News h₀ L s.heap news) (T : Top p loose mean mg mb h₀) (hk : cs.kind = .function) (hP : Pre news) (hd : dp + du < recursionLimit) (hu : un + uu < cLine)
    (ret : ∀ r tl h' tk', Fr h₀ L h' m → News h₀ L h' (tl ++ news) → (∀ q ∈ news, ∀ p ∈ tl, @LT.lt Nat _ q.1 p.1) → Post (tl ++ news) r → Q r { s with heap := h', toks := tk' })
    (raise : Bad → RaiseK base (envX cn cs L a ccd cl :: outer) h₀ L m news E s) :
    wpAny (model PR w) (ktrTop dp un gd cn cs L a ccd cl outer) (call (.ref f) args) Q E s := S _ _ _ _ _ _ _ _ _ _ _ _ _ _ _ _ _ _ B F X N T hk hP hd hu ret raise
end
section
example : True := by
  w_top off
  trivial
theorem sX3.hX3 : True := trivial
open sX3
variable {w : World} {p : Program} {loose : List Str} {mean : ExcName → Option Value} {mg mb : Str → Option Value}
section
variable {prog : Program} {A : Around} {E : Value → Shared → Prop} {s : Shared} {env : Env}
inductive RaiseEnd (M : Model) (E : Value → Shared → Prop) (v : Value) (s₁ : Shared) : Prop
  | mk (e C d fs sl : _) (c09 : v = .ref e) (c19 : s₁.heap.get? e = some ⟨.ref C, d, .fields fs, sl⟩) (c29 : MakesE M s₁.heap C) (c39 : fs[1]? = some .none) (c49 : E (.ref e) s₁)
theorem raiseStmt_exc {x : Sem Value} {Q : Flow → Shared → Prop} (hh : A.handled = none) (h : wpAny (model prog w) A x (RaiseEnd (model prog w) E) E s) :
    wpAny (model prog w) A (raiseStmt env (some x) none) Q E s := by
 refine @dropI _ ?_ ?_
 ·
  unfold raiseStmt
  refine wpAny_bind (wpAny_mono h (fun v s₁ h₁ => ?_) fun _ _ x => x)
  refine sealG fun pS hS9 => ?_
  obtain ⟨e, C, d, fs, sl, rfl, he, Y, hf, hE⟩ := h₁
  refine hS9 ?_
  clear hS9 pS
  have hb := Y.bexc
  refine sealG fun pS hS9 => ?_
  obtain ⟨hp, g, dd, tk, os⟩ := s₁
  refine hS9 ?_
  clear hS9 pS
  dsimp only at he Y hb
  refine sealG fun pS hS9 => ?_
  obtain ⟨oc, od, cd, sl', hC, e1, e2, e4, eh, rfl⟩ := Y.obj
  refine hS9 ?_
  clear hS9 pS
  repeat (first | (with_reducible refine wpAny_loadPart_at he ?_) | (with_reducible refine wpAny_loadPart_at hC ?_) | with_reducible refine Looks.at (by assumption) ?_ | wp_step)
  rw [hf]
  refine wpAny_pure ?_
  rw [if_neg (by decide)]
  exact wpAny_pure (wpAny_raiseNew_none hh hE)
 · intro T x h; refine dropT ?zB ?zA; simpa only using (h : DropP ?zA x); assumption
theorem raise_exc {ex : Expr} {pos : Pos} {Q : Flow → Shared → Prop} (hh : A.handled = none) (h : wpAny (model prog w) A (eval ex env) (RaiseEnd (model prog w) E) E s) :
    wpAny (model prog w) A (exec (.Raise (some ex) none pos) env) Q E s := by
  rw [arm_exec_Raise]
  refine wpAny_bind (wpAny_standAt (raiseStmt_exc hh (wpAny_bind (wpAny_mono h (fun v s₃ h₃ => wpAny_bind (wpAny_standAt (wpAny_pure h₃))) fun _ _ x => x))))
end
example : True := by
  k_with "exec Raise some none" =>
    (guard_expr hX3 = hX3)
    (k_here; k_dflt (refine raise_exc (by first | rfl | assumption) ?_))
  trivial
example : True := by
  k_with "call ref" =>
    (guard_expr hX3 = hX3)
    (k_here; k_dflt (first
      | (refine' call_exc (by first | ((k_asm); done) | fail "by") (by first | ((k_asm); done) | fail "by") (by first | ((k_asm); done) | fail "by") (by first | ((exact raise_makes); done) | fail "by") (by first | ((k_is); done) | fail "by") (by first | ((k_is); done) | fail "by") (by first | ((exact Nat.le_of_ble_eq_true rfl); done) | fail "by") ?_; k_whole; intro x'ₖ t'ₖ h'ₖ F'ₖ N'ₖ l1ₖ l3 l2ₖ; (try k_lt l1ₖ); (try k_lt2 l2ₖ); (try k_sweep); k_enter)
      | (refine wpAny_call ?_; k_enter)))
  trivial
example : True := by
  k_with "setAttr ref" =>
    (guard_expr hX3 = hX3)
    (k_here; k_dflt (first
      | (refine' setE_dict (by first | ((k_asm); done) | fail "by") (by first | ((k_asm); done) | fail "by") (by first | ((k_asm); done) | fail "by") (by first | ((k_mem); done) | fail "by") (by first | ((k_mem); done) | fail "by") raise_set raise_over (by first | ((k_is); done) | fail "by") (by first | ((k_get); done) | fail "by") (by first | ((k_put); done) | fail "by") (by first | ((k_upd); done) | fail "by") (by first | ((exact Nat.le_of_ble_eq_true rfl); done) | fail "by") ?_; k_whole; intro h'ₖ F'ₖ N'ₖ; (try k_sweep))
      | (refine' setE_new (by first | ((k_asm); done) | fail "by") (by first | ((k_asm); done) | fail "by") (by first | ((k_asm); done) | fail "by") (by first | ((intro dx'; k_upd); done) | fail "by") raise_set raise_over (by first | ((k_is); done) | fail "by") (by first | ((k_put); done) | fail "by") (by first | ((exact Nat.le_of_ble_eq_true rfl); done) | fail "by") ?_; k_whole; intro dx' h'ₖ F'ₖ N'ₖ l1ₖ; (try k_lt l1ₖ); (try k_sweep))))
  trivial
example : True := by
  k_with "call builtin:Exception.__init__" =>
    (guard_expr hX3 = hX3)
    (k_here; k_dflt (refine' exc_init (by first | ((k_asm); done) | fail "by") (by first | ((k_asm); done) | fail "by") (by first | ((k_asm); done) | fail "by") raise_makes (by first | ((exact Nat.le_of_ble_eq_true rfl); done) | fail "by") (by first | ((intro t'ₖ; k_upd); done) | fail "by") ?_; k_whole; intro t'ₖ h'ₖ F'ₖ N'ₖ l1ₖ; (try k_lt l1ₖ); (try k_sweep)))
  trivial
theorem meta_exc : typeOf (.type "Exception") = pure (.type "type") := by kernel_rfl
example : True := by
  k_with "getMethod type:Exception" =>
    (guard_expr hX3 = hX3)
    (k_here; k_dflt (refine' method_type (by first | ((k_asm); done) | fail "by") (by first | ((k_asm); done) | fail "by") (by first | ((exact meta_exc); done) | fail "by") (by decide +kernel) (by first | ((k_dflt k_is); done) | fail "by") (by first | ((exact rfl); done) | fail "by") ?_))
  trivial
theorem refuse_it (msg : Str) (tm : Tok) : SpecX w p loose mean mg mb 310 [.str msg tm] 5 (8 * 5) (fun _ => True) True (fun _ _ => False) := by
 refine @dropI _ ?_ ?_
 ·
  unfold SpecX
  intro dp un gd cn cs a ccd cl outer A₀ base h₀ L m news s Q E B F X N T hk hPre hd hu hret hraise
  refine wpAny_call ?_
  k_dflt ktr_enter
  have B' := ‹Below _ base (envX _ _ _ _ _ _ :: outer) _›
  k_steps
  refine ⟨_, _, _, _, _, rfl, (News.get (by k_asm) (by k_mem)), makesE_of (K := Mine.hd.heap_1_39 w.params) (by k_in) raise_makes, rfl, ?_⟩
  refine' raise_first ?kB ?kG ?kF ?kN ?k1 ?k2 ?km ?kd ?kf ?kw ?kde ?ks ?kne ?knd ?ke (hraise trivial)
  case kB => exact B'
  case kG => assumption
  case kF => k_asm
  case kN => k_asm
  case k1 => rfl
  case k2 => rfl
  case km => k_mem
  case kd => k_mem
  case kf => rfl
  case kw => exact ⟨_, by k_get⟩
  case kde => k_ne
  case ks => intro p9 h9; k_mem
  case kne => first | assumption | exact tb_ltOf (by tbn_find)
  case knd => first | assumption | exact tb_ltOf (by tbn_find)
  case ke => rfl
 · intro T x h; refine dropT ?zB ?zA; simpa only using (h : DropP ?zA x); assumption
end
section
example : True := by
  w_top off
  trivial
theorem sX4.hX4 : True := trivial
open sX4
variable {w : World} {p : Program} {loose : List Str} {mean : ExcName → Option Value} {mg mb : Str → Option Value}
theorem specX_of_V {f : Addr} {args : List Value} {du uu : Nat} {Pre : Led → Prop} {Bad : Prop} {Post : Value → Prop} (S : SpecV w p loose mean mg mb f args du uu Pre Post) : SpecX w p loose mean mg mb f args du uu Pre Bad (fun _ => Post) := by
 refine @dropI _ ?_ ?_
 ·
  intro dp un gd cn cs a ccd cl outer A₀ base h₀ L m news s Q E B F X N T hk hP hd hu hret hraise
  exact S dp un gd cn cs a ccd cl outer A₀ base h₀ L m news s Q E B F X N T hk hP hd hu fun r h' tk' F' N' hr => hret r [] h' tk' F' N' (fun _ _ _ h => nomatch h) hr
 · intro T x h; refine dropT ?zB ?zA; simpa only using (h : DropP ?zA x); assumption
theorem specX_post {f : Addr} {args : List Value} {du uu : Nat} {Pre : Led → Prop} {Bad Bad' : Prop} {Post Post' : Led → Value → Prop} (S : SpecX w p loose mean mg mb f args du uu Pre Bad Post) (hb : Bad → Bad') (h : ∀ news r, Post news r → Post' news r) :
    SpecX w p loose mean mg mb f args du uu Pre Bad' Post' := by
 refine @dropI _ ?_ ?_
 ·
  intro dp un gd cn cs a ccd cl outer A₀ base h₀ L m news s Q E B F X N T hk hP hd hu hret hraise
  exact S dp un gd cn cs a ccd cl outer A₀ base h₀ L m news s Q E B F X N T hk hP hd hu (fun r tl h' tk' F' N' hl hr => hret r tl h' tk' F' N' hl (h _ _ hr)) (fun b => hraise (hb b))
 · intro T x h; refine dropT ?zB ?zA; simpa only using (h : DropP ?zA x); assumption
theorem specX_pre {f : Addr} {args : List Value} {du uu : Nat} {Pre Pre' : Led → Prop} {Bad : Prop} {Post : Led → Value → Prop} (S : SpecX w p loose mean mg mb f args du uu Pre Bad Post) (h : ∀ news, Pre' news → Pre news) :
    SpecX w p loose mean mg mb f args du uu Pre' Bad Post := by
 refine @dropI _ ?_ ?_
 ·
  intro dp un gd cn cs a ccd cl outer A₀ base h₀ L m news s Q E B F X N T hk hP hd hu hret hraise
  exact S dp un gd cn cs a ccd cl outer A₀ base h₀ L m news s Q E B F X N T hk (h _ hP) hd hu hret hraise
 · intro T x h; refine dropT ?zB ?zA; simpa only using (h : DropP ?zA x); assumption
example : True := by
  k_with "callWith ref" =>
    (guard_expr hX4 = hX4)
    (k_here; k_dflt (first
      | refine' callWith_K (by first | ((k_asm); done) | fail "by") (by first | ((k_is); done) | fail "by") ?_; k_whole
      | refine' callWith_K0 (by first | ((k_in); done) | fail "by") (by first | ((k_is); done) | fail "by") ?_; k_whole))
  trivial
example : True := by
  k_with "call ref" =>
    (guard_expr hX4 = hX4)
    (k_here; k_dflt (first
    | (guard_target =~ wpAny _ _ (call (Value.ref 310) _) _ _ _; (refine' specX_use (refuse_it _ _) (by first | ((k_asm); done) | fail "by") (by first | ((k_asm); done) | fail "by") (by first | ((k_asm); done) | fail "by") (by first | ((k_asm); done) | fail "by") (by first | ((k_asm); done) | fail "by") (by first | ((first | exact rfl | assumption); done) | fail "by") (by first | (((repeat' (first | exact trivial | k_mem | assumption | exact rfl | k_dflt k_get | refine And.intro ?_ ?_ | omega))); done) | fail "by") (by first | ((ktr_room); done) | fail "by") (by first | ((ktr_units); done) | fail "by") ?_ (by first | ((intro hb9ₖ e9ₖ dx9ₖ es9ₖ n9ₖ h9ₖ tk9ₖ hw9ₖ hx9ₖ R9ₖ U9ₖ m9ₖ; refine' raise_by (by first | ((assumption); done) | fail "by") (by first | ((assumption); done) | fail "by") (by first | ((assumption); done) | fail "by") (by first | ((exact rfl); done) | fail "by") R9ₖ U9ₖ hw9ₖ hx9ₖ (by first | ((intro p9ₖ h9ₖ; first | (k_mem; done) | (have h8ₖ := sub_at h9ₖ (by assumption); k_mem)); done) | fail "by") (by first | ((exact rfl); done) | fail "by") (by first | ((first | trivial | assumption | omega | (intro hall9ₖ; exact hb9ₖ (hall9ₖ _ (by assumption))) | (simp_all; done)); done) | fail "by")); done) | fail "by"); k_whole; intro r9ₖ tl9ₖ h9ₖ tk9ₖ F9ₖ N9ₖ l9ₖ hP9ₖ; (first | exact False.elim hP9ₖ | skip); (try dsimp only); (try k_fold)))
      | (refine' call_cls0 (by first | ((k_asm); done) | fail "by") (by first | ((k_asm); done) | fail "by") (by first | ((k_asm); done) | fail "by") (by first | ((k_is); done) | fail "by") (by first | ((k_is); done) | fail "by") ?_; k_whole; intro x'ₖ d'ₖ h'ₖ F'ₖ N'ₖ l1ₖ l2ₖ; (try k_lt l1ₖ); (try k_lt2 l2ₖ); (try k_sweep))
      | (refine' call_cls (by first | ((k_asm); done) | fail "by") (by first | ((k_asm); done) | fail "by") (by first | ((k_asm); done) | fail "by") (by first | ((k_is); done) | fail "by") (by first | ((k_is); done) | fail "by") (by first | ((k_is); done) | fail "by") ?_; k_whole; intro x'ₖ d'ₖ h'ₖ F'ₖ N'ₖ l1ₖ l2ₖ; (try k_lt l1ₖ); (try k_lt2 l2ₖ); (try k_sweep); k_enter)
      | (refine wpAny_call ?_; k_enter)))
  trivial
theorem check_low (S dS c : Addr) (esS : List DictEntry) (nS nc : Nat) (t1 t2 t3 tv : Tok) (v lo hi : Int) (hlo : v < lo) :
    SpecX w p loose mean mg mb 338 [.ref S, .int v tv] 8 (8 * 8) (fun news => Inst news S 222 dS esS nS ∧ getL "constraint" esS = some (some (.ref c)) ∧ (c, tupO [.str "range" t1, .int lo t2, .int hi t3] nc) ∈ news) (¬ (lo ≤ v ∧ v ≤ hi)) (fun news r => False) := by
 refine @dropI _ ?_ ?_
 ·
  unfold SpecX
  intro dp un gd cn cs a ccd cl outer A₀ base h₀ L m news s Q E B F X N T hk hPre hd hu hret hraise
  refine sealG fun pS hS9 => ?_
  first | (refine and3 hPre ?_; clear hPre; intro hc19 h1 h2) | (obtain ⟨hc19, h1, h2⟩ := hPre)
  obtain ⟨a1, a2⟩ := hc19
  refine hS9 ?_
  clear hS9 pS
  refine wpAny_call ?_
  k_dflt ktr_enter
  rename Fr h₀ L _ m => hFG9
  rename Below _ base (envX _ _ _ _ _ _ :: outer) _ => hB9
  k_steps
 · intro T x h; refine dropT ?zB ?zA; simpa only using (h : DropP ?zA x); assumption
theorem check_high (S dS c : Addr) (esS : List DictEntry) (nS nc : Nat) (t1 t2 t3 tv : Tok) (v lo hi : Int) (hlo : lo ≤ v) (hhi : hi < v) :
    SpecX w p loose mean mg mb 338 [.ref S, .int v tv] 8 (8 * 8) (fun news => Inst news S 222 dS esS nS ∧ getL "constraint" esS = some (some (.ref c)) ∧ (c, tupO [.str "range" t1, .int lo t2, .int hi t3] nc) ∈ news) (¬ (lo ≤ v ∧ v ≤ hi)) (fun news r => False) := by
 refine @dropI _ ?_ ?_
 ·
  unfold SpecX
  intro dp un gd cn cs a ccd cl outer A₀ base h₀ L m news s Q E B F X N T hk hPre hd hu hret hraise
  refine sealG fun pS hS9 => ?_
  first | (refine and3 hPre ?_; clear hPre; intro hc29 h1 h2) | (obtain ⟨hc29, h1, h2⟩ := hPre)
  obtain ⟨a1, a2⟩ := hc29
  refine hS9 ?_
  clear hS9 pS
  refine wpAny_call ?_
  k_dflt ktr_enter
  rename Fr h₀ L _ m => hFG9
  rename Below _ base (envX _ _ _ _ _ _ :: outer) _ => hB9
  k_steps
 · intro T x h; refine dropT ?zB ?zA; simpa only using (h : DropP ?zA x); assumption
theorem check_rng (S dS c : Addr) (esS : List DictEntry) (nS nc : Nat) (t1 t2 t3 tv : Tok) (v lo hi : Int) :
    SpecX w p loose mean mg mb 338 [.ref S, .int v tv] 8 (8 * 8) (fun news => Inst news S 222 dS esS nS ∧ getL "constraint" esS = some (some (.ref c)) ∧ (c, tupO [.str "range" t1, .int lo t2, .int hi t3] nc) ∈ news) (¬ (lo ≤ v ∧ v ≤ hi)) (fun news r => r = .int v tv ∧ (lo ≤ v ∧ v ≤ hi)) := by
 refine @dropI _ ?_ ?_
 ·
  by_cases h1 : lo ≤ v
  · by_cases h2 : v ≤ hi
    · intro dp un gd cn cs a ccd cl outer A₀ base h₀ L m news s Q E B F X N T hk hP hd hu hret hraise
      exact check_in S dS c esS nS nc t1 t2 t3 tv v lo hi dp un gd cn cs a ccd cl outer A₀ base h₀ L m news s Q E B F X N T hk ⟨hP.1, hP.2.1, hP.2.2, h1, h2⟩ (by omega) (by omega) fun r h' tk' F' N' hr => hret r [] h' tk' F' N' (fun _ _ _ h => nomatch h) ⟨hr, h1, h2⟩
    · exact specX_post (check_high S dS c esS nS nc t1 t2 t3 tv v lo hi h1 (by omega)) id (fun _ _ h => h.elim)
  · exact specX_post (check_low S dS c esS nS nc t1 t2 t3 tv v lo hi (by omega)) id (fun _ _ h => h.elim)
 · intro T x h; refine dropT ?zB ?zA; simpa only using (h : DropP ?zA x); assumption
end
section
example : True := by
  w_top off
  trivial
theorem sF3.hF3 : True := trivial
open sF3
variable {w : World} {p : Program} {loose : List Str} {mean : ExcName → Option Value} {mg mb : Str → Option Value}
example : True := by
  k_with "callWith ref" =>
    (guard_expr hF3 = hF3)
    (k_here; k_dflt (first
      | refine' callWith_K (by first | ((k_asm); done) | fail "by") (by first | ((k_is); done) | fail "by") ?_; k_whole
      | refine' callWith_K0 (by first | ((k_in); done) | fail "by") (by first | ((k_is); done) | fail "by") ?_; k_whole))
  trivial
example : True := by
  k_with "call ref" =>
    (guard_expr hF3 = hF3)
    (k_here; k_dflt (first
    | (guard_target =~ wpAny _ _ (call (Value.ref 296) _) _ _ _; (refine' specV_useE (full_sub _ _ _ _ _ _ _ _ _ _) (by first | ((k_asm); done) | fail "by") (by first | ((k_asm); done) | fail "by") (by first | ((k_asm); done) | fail "by") (by first | ((k_asm); done) | fail "by") (by first | ((k_asm); done) | fail "by") (by first | ((first | exact rfl | assumption); done) | fail "by") (by first | (((repeat' (first | exact trivial | k_mem | assumption | exact rfl | k_dflt k_get | refine And.intro ?_ ?_ | omega))); done) | fail "by") (by first | ((ktr_room); done) | fail "by") (by first | ((ktr_units); done) | fail "by") ?_; k_whole; intro h9ₖ tk9ₖ F9ₖ N9ₖ; (try dsimp only); (try k_fold)))
      | (guard_target =~ wpAny _ _ (call (Value.ref 303) _) _ _ _; (refine' specV_useE (full_ty _ _ _ _ _ _) (by first | ((k_asm); done) | fail "by") (by first | ((k_asm); done) | fail "by") (by first | ((k_asm); done) | fail "by") (by first | ((k_asm); done) | fail "by") (by first | ((k_asm); done) | fail "by") (by first | ((first | exact rfl | assumption); done) | fail "by") (by first | (((repeat' (first | exact trivial | k_mem | assumption | exact rfl | k_dflt k_get | refine And.intro ?_ ?_ | omega))); done) | fail "by") (by first | ((ktr_room); done) | fail "by") (by first | ((ktr_units); done) | fail "by") ?_; k_whole; intro h9ₖ tk9ₖ F9ₖ N9ₖ; (try dsimp only); (try k_fold)))
      | (guard_target =~ wpAny _ _ (call (Value.ref 371) _) _ _ _; (refine' specV_useE (laid_sub _ _ _ _ _ _ _ _ _ _ _) (by first | ((k_asm); done) | fail "by") (by first | ((k_asm); done) | fail "by") (by first | ((k_asm); done) | fail "by") (by first | ((k_asm); done) | fail "by") (by first | ((k_asm); done) | fail "by") (by first | ((first | exact rfl | assumption); done) | fail "by") (by first | (((repeat' (first | exact trivial | k_mem | assumption | exact rfl | k_dflt k_get | refine And.intro ?_ ?_ | omega))); done) | fail "by") (by first | ((ktr_room); done) | fail "by") (by first | ((ktr_units); done) | fail "by") ?_; k_whole; intro h9ₖ tk9ₖ F9ₖ N9ₖ; (try dsimp only); (try k_fold)))
      | (guard_target =~ wpAny _ _ (call (Value.ref 338) _) _ _ _; (refine' specX_use (check_rng _ _ _ _ _ _ _ _ _ _ _ _ _) (by first | ((k_asm); done) | fail "by") (by first | ((k_asm); done) | fail "by") (by first | ((k_asm); done) | fail "by") (by first | ((k_asm); done) | fail "by") (by first | ((k_asm); done) | fail "by") (by first | ((first | exact rfl | assumption); done) | fail "by") (by first | (((repeat' (first | exact trivial | k_mem | assumption | exact rfl | k_dflt k_get | refine And.intro ?_ ?_ | omega))); done) | fail "by") (by first | ((ktr_room); done) | fail "by") (by first | ((ktr_units); done) | fail "by") ?_ (by first | ((intro hb9ₖ e9ₖ dx9ₖ es9ₖ n9ₖ h9ₖ tk9ₖ hw9ₖ hx9ₖ R9ₖ U9ₖ m9ₖ; refine' raise_by (by first | ((assumption); done) | fail "by") (by first | ((assumption); done) | fail "by") (by first | ((assumption); done) | fail "by") (by first | ((exact rfl); done) | fail "by") R9ₖ U9ₖ hw9ₖ hx9ₖ (by first | ((intro p9ₖ h9ₖ; first | (k_mem; done) | (have h8ₖ := sub_at h9ₖ (by assumption); k_mem)); done) | fail "by") (by first | ((exact rfl); done) | fail "by") (by first | ((first | trivial | assumption | omega | (intro hall9ₖ; exact hb9ₖ (hall9ₖ _ (by assumption))) | (simp_all; done)); done) | fail "by")); done) | fail "by"); k_whole; intro r9ₖ tl9ₖ h9ₖ tk9ₖ F9ₖ N9ₖ l9ₖ hP9ₖ; obtain ⟨hP9ₖ, hQ9ₖ⟩ := hP9ₖ; subst hP9ₖ; (try dsimp only); (try k_fold)))
      | ((guard_target =~ wpAny _ _ (call (Value.ref 397) _) _ _ _; (refine' specO_use (elab_few _ _ _ _ _ _ _ _ _ _ _ _ _ _ _ _ _ _ _ _ _) (by first | ((k_asm); done) | fail "by") (by first | ((k_asm); done) | fail "by") (by first | ((k_asm); done) | fail "by") (by first | ((k_asm); done) | fail "by") (by first | ((k_asm); done) | fail "by") (by first | ((first | exact rfl | assumption); done) | fail "by") (by first | (((repeat' (first | exact trivial | k_mem | assumption | exact rfl | k_dflt k_get | refine And.intro ?_ ?_ | omega))); done) | fail "by") (by first | ((ktr_room); done) | fail "by") (by first | ((ktr_units); done) | fail "by") ?_; k_whole; intro r9ₖ tl9ₖ h9ₖ tk9ₖ F9ₖ N9ₖ l9ₖ hP9ₖ; (try dsimp only); (try k_fold))); obtain ⟨S9ₖ, dS9ₖ, es9ₖ, nS9ₖ, c9ₖ, nc9ₖ, u1ₖ, u2ₖ, u3ₖ, e9ₖ, ⟨i1ₖ, i2ₖ⟩, i3ₖ, i4ₖ, i5ₖ⟩ := hP9ₖ; subst e9ₖ)
      | (refine' call_cls0 (by first | ((k_asm); done) | fail "by") (by first | ((k_asm); done) | fail "by") (by first | ((k_asm); done) | fail "by") (by first | ((k_is); done) | fail "by") (by first | ((k_is); done) | fail "by") ?_; k_whole; intro x'ₖ d'ₖ h'ₖ F'ₖ N'ₖ l1ₖ l2ₖ; (try k_lt l1ₖ); (try k_lt2 l2ₖ); (try k_sweep))
      | (refine' call_cls (by first | ((k_asm); done) | fail "by") (by first | ((k_asm); done) | fail "by") (by first | ((k_asm); done) | fail "by") (by first | ((k_is); done) | fail "by") (by first | ((k_is); done) | fail "by") (by first | ((k_is); done) | fail "by") ?_; k_whole; intro x'ₖ d'ₖ h'ₖ F'ₖ N'ₖ l1ₖ l2ₖ; (try k_lt l1ₖ); (try k_lt2 l2ₖ); (try k_sweep); k_enter)
      | (refine wpAny_call ?_; k_enter)))
  trivial
def DiscRows (S : Addr) (news : Led) (vs : List Value) (ns : List Str) : Prop := All2 (fun v nm => ∃ a n t, v = .ref a ∧ (a, tupO [.str nm t, .ref S, .none] n) ∈ news) vs ns
def NumPairs (news : Led) (vs : List Value) (ps : List (Str × Int)) : Prop := All2 (fun v q => ∃ a n t t2, v = .ref a ∧ (a, tupO [.str q.1 t, .int q.2 t2] n) ∈ news) vs ps
theorem numPairs_kvs {news : Led} {vs : List Value} {ps : List (Str × Int)} (hp : NumPairs news vs ps) : ∃ kvs : List (Str × Value), KeyVals news vs kvs ∧ All2 (fun kv (q : Str × Int) => kv.1 = q.1 ∧ ∃ t, kv.2 = .int q.2 t) kvs ps := by
 refine @dropI _ ?_ ?_
 ·
  induction hp with
  | nil => exact ⟨[], .nil, .nil⟩
  | @cons _ q _ _ h _ ih =>
    refine sealG fun pS hS9 => ?_
    obtain ⟨kvs, h1, h2⟩ := ih
    obtain ⟨a, n, tk, t2, e, hm⟩ := h
    refine hS9 ?_
    clear hS9 pS
    exact ⟨(q.1, .int q.2 t2) :: kvs, .cons ⟨a, tk, n, e, hm⟩ h1, .cons ⟨rfl, t2, rfl⟩ h2⟩
 · intro T x h; refine dropT ?zB ?zA; simpa only using (h : DropP ?zA x); assumption
theorem big_of {K : Frag} {h : Heap} {a : Addr} {o : Obj} (X : K.In h) (ha : sysModules ≤ a) (e : K.lookup a = some o) : sysModules < h.objs.size := Nat.lt_of_le_of_lt ha (Heap.lt_size (X _ _ e))
theorem kvs_keys {kvs : List (Str × Value)} {ps : List (Str × Int)} (h : All2 (fun kv (q : Str × Int) => kv.1 = q.1 ∧ ∃ t, kv.2 = .int q.2 t) kvs ps) : kvs.map (·.1) = ps.map (·.1) := by
  induction h with
  | nil => rfl
  | cons h _ ih => rw [List.map_cons, List.map_cons, h.1, ih]
theorem chain_eq {m : Str → Option Value} {x : Str} {v : Value} (h : m x = some v) : (fun y => if y = x then some v else m y) = m := by
  funext y
  split
  · next e => rw [e, h]
  · rfl
theorem tup_inj {vs vs' : List Value} {n n' : Nat} (h : some (tupO vs n) = some (tupO vs' n')) : vs = vs' := by
  have h1 := congrArg (·.data) (Option.some.inj h)
  have h2 := (Data.seq.inj h1).1
  simpa using h2
theorem DiscRows.mono {S : Addr} {l l' : Led} {vs : List Value} {ns : List Str} (hs : ∀ q ∈ l, q ∈ l') (h : DiscRows S l vs ns) : DiscRows S l' vs ns := h.imp fun _ _ h => h.imp fun _ h => h.imp fun _ h => h.imp fun _ h => h.imp id (hs _)
section
variable {prog : Program} {A : Around} {E : Value → Shared → Prop} {s : Shared} {h₀ : Heap} {L : Addr} {news : Led}
theorem in_there {D : Addr} {o : Obj} {x : Str} {t : Tok} {v : Value} {kvs : List (Str × Value)} {Q : Value → Shared → Prop} (N : News h₀ L s.heap news) (hd : o.IsDictOf (strKind prog w) kvs) (hv : valueAt kvs x = some v) (hm : (D, o) ∈ news) (lo : (D == sysModules) = false)
    (h : Q (.bool true) { s with toks := s.toks + 1 }) : wpAny (model prog w) A (compareOp .In (.str x t) (.ref D)) Q E s := in_map N hm hd lo (by rw [hv]; exact h)
theorem item_there {value slice : Expr} {D : Addr} {o : Obj} {x : Str} {t : Tok} {v : Value} {kvs : List (Str × Value)} {Q : Value → Shared → Prop} (N : News h₀ L s.heap news) (hd : o.IsDictOf (strKind prog w) kvs) (hv : valueAt kvs x = some v) (hm : (D, o) ∈ news)
    (h : Q v { s with toks := s.toks + 1 }) (hs : subscripted slice false (.ref D) (.str x t) = operate [.ref D, .str x t] (getItem (.ref D) (.str x t)) := by with_unfolding_all rfl) :
    wpAny (model prog w) A (subscriptTail value slice (.ref D) (.str x t)) Q E s := item_map N hm hd hv h hs
end
example : True := by
  k_with "compareOp In str ref" =>
    (guard_expr hF3 = hF3)
    (k_here; k_dflt (refine' in_there (by first | ((k_asm); done) | fail "by") (by first | ((assumption); done) | fail "by") (by first | ((assumption); done) | fail "by") (by first | ((k_mem); done) | fail "by") (by first | ((assumption); done) | fail "by") ?_))
  trivial
example : True := by
  k_with "subscriptTail Name Name ref str" =>
    (guard_expr hF3 = hF3)
    (k_here; k_dflt (refine' item_there (by first | ((k_asm); done) | fail "by") (by first | ((assumption); done) | fail "by") (by first | ((assumption); done) | fail "by") (by first | ((k_mem); done) | fail "by") ?_))
  trivial
example : True := by
  k_with "subscriptTail" =>
    (guard_expr hF3 = hF3)
    (k_here; (with_reducible show wpAny _ _ (subscriptTail _ _ (Value.ref _) (Value.str _ _)) _ _ _); k_dflt (refine' item_there (by first | ((k_asm); done) | fail "by") (by first | ((assumption); done) | fail "by") (by first | ((assumption); done) | fail "by") (by first | ((k_mem); done) | fail "by") ?_))
  trivial
theorem check_disc (rv : Value) (T dT lD l S dS W dW c : Addr) (esT esS esW : List DictEntry) (nT nD nl nS nW nc : Nat) (vd vs : List Value) (ps : List (Str × Int)) (t1 t2 t3 t4 t5 t6 : Tok) (lo hi : Int) (hlo : lo ≤ 1) (hhi : 5 ≤ hi) (hn : (ps.map (·.1)).Nodup) (hl : ps.length ≤ 100) :
    SpecX w p loose mean mg mb 392 [rv, .ref T, .ref l] 16 (8 * 16) (fun news => Inst news T 201 dT esT nT ∧ getL "discriminants" esT = some (some (.ref lD)) ∧ (lD, lstO vd nD) ∈ news ∧ DiscRows S news vd (ps.map (·.1)) ∧ (l, lstO vs nl) ∈ news ∧ NumPairs news vs ps ∧
          Inst news S 222 dS esS nS ∧ getL "type" esS = some (some (.ref W)) ∧ getL "constraint" esS = some (some (.ref c)) ∧ (c, tupO [.str "range" t1, .int 1 t2, .int 5 t3] nc) ∈ news ∧ Inst news W 201 dW esW nW ∧ getL "kind" esW = some (some (.str "int" t4)) ∧ getL "is_late" esW = some (some (.bool false)) ∧ getL "low" esW = some (some (.int lo t5)) ∧ getL "high" esW = some (some (.int hi t6))) (¬ (∀ q ∈ ps, 1 ≤ q.2 ∧ q.2 ≤ 5)) (fun news r => r = .none ∧ (∀ q ∈ ps, 1 ≤ q.2 ∧ q.2 ≤ 5)) := by
 refine @dropI _ ?_ ?_
 ·
  unfold SpecX
  intro dp un gd cn cs a ccd cl outer A₀ base h₀ L m news s Q E B F X N T hk hPre hd hu hret hraise
  refine sealG fun pS hS9 => ?_
  first | (refine and15 hPre ?_; clear hPre; intro hc19 h1 h2 hD h3 hP hc29 g1 g2 g3 hc39 g4 g5 g6 g7) | (obtain ⟨hc19, h1, h2, hD, h3, hP, hc29, g1, g2, g3, hc39, g4, g5, g6, g7⟩ := hPre)
  refine sealG fun pS hS9 => ?_
  obtain ⟨a1, a2⟩ := hc19
  obtain ⟨b1, b2⟩ := hc29
  obtain ⟨c1, c2⟩ := hc39
  refine hS9 ?_
  clear hS9 pS
  refine hS9 ?_
  clear hS9 pS
  refine wpAny_call ?_
  k_dflt ktr_enter
  rename Fr h₀ L _ m => hFG9
  rename Below _ base (envX _ _ _ _ _ _ :: outer) _ => hB9
  obtain ⟨kvs, hK, hKp⟩ := numPairs_kvs hP
  have hkeys := kvs_keys hKp
  k_steps
  refine dict_pairs_N (by rfl) (by k_asm) (by k_asm) (big_of (a := 392) (by k_asm) (by decide) (by k_dflt k_is)) (hkeys ▸ hn) (by rw [hKp.length]; omega) h3 hK ?_
  intro D o h' tk F' N' l1 hd lo
  k_steps
  refine' for_three ?kF ?kL rfl rfl rfl rfl ?_
  case kF => k_asm
  case kL => exact rfl
  k_steps
  have hone : ∀ (i : Nat) (v : Value), vd[i]? = some v → ∃ q ax nx tx kv tv, ps[i]? = some q ∧ v = .ref ax ∧ (ax, tupO [.str q.1 tx, .ref S, .none] nx) ∈ news ∧ kvs[i]? = some kv ∧ kv.1 = q.1 ∧ kv.2 = .int q.2 tv := by
    intro i v hi
    refine sealG fun pS hS9 => ?_
    obtain ⟨nm, e1, ax, nx, tx, e2, hm⟩ := All2.get hD hi
    refine hS9 ?_
    clear hS9 pS
    rw [List.getElem?_map, Option.map_eq_some_iff] at e1
    obtain ⟨q, e3, e4⟩ := e1
    subst e4
    obtain ⟨kv, e5⟩ : ∃ kv, kvs[i]? = some kv := by
      have := hKp.length
      have h5 := (List.getElem?_eq_some_iff.mp e3).1
      exact ⟨_, List.getElem?_eq_getElem (by omega)⟩
    refine sealG fun pS hS9 => ?_
    obtain ⟨q', e6, e7, tv, e8⟩ := All2.get hKp e5
    refine hS9 ?_
    clear hS9 pS
    rw [e3] at e6
    cases e6
    exact ⟨q, ax, nx, tx, kv, tv, e3, e2, hm, e5, e7, e8⟩
  refine ForIn3.intro (fun i m' news' => (∀ p ∈ ((D, o) :: news), p ∈ news') ∧ m' "run" = some rv ∧ m' "told" = some (.ref D) ∧ (∀ q ∈ ps.take i, 1 ≤ q.2 ∧ q.2 ≤ 5)) (its := vd) (by rfl) (by k_asm) (by k_asm) ⟨fun _ h => h, rfl, rfl, by simp⟩ (fun i m' news' hJ => hJ.1 _ (List.mem_cons_of_mem _ h2)) ?_ ?_ ?_
  · intro v hv i m' news' hJ
    refine sealG fun pS hS9 => ?_
    obtain ⟨j, hj⟩ := List.getElem?_of_mem hv
    obtain ⟨q, ax, nx, tx, kv, tv, e3, e2, hm, e5, e7, e8⟩ := hone j v hj
    refine hS9 ?_
    clear hS9 pS
    exact ⟨_, _, _, ax, nx, e2, hJ.1 _ (List.mem_cons_of_mem _ hm)⟩
  · intro i v x1 x2 x3 m₁ news' I oI h tk hi hJ hT F8 N8 off8
    refine sealG fun pS hS9 => ?_
    obtain ⟨J1, J2, J3, J4⟩ := hJ
    obtain ⟨q, ax, nx, tx, kv, tv, e3, e2, hm, e5, e7, e8⟩ := hone i v hi
    refine hS9 ?_
    clear hS9 pS
    subst e2
    refine sealG fun pS hS9 => ?_
    obtain ⟨ax', nx', e9, hm'⟩ := hT
    refine hS9 ?_
    clear hS9 pS
    cases e9
    have e10 := (N8 _ (List.mem_cons_of_mem _ hm')).1.symm.trans (N8 _ (List.mem_cons_of_mem _ (J1 _ (List.mem_cons_of_mem _ hm)))).1
    obtain ⟨rfl, rfl, rfl⟩ : x1 = .str q.1 tx ∧ x2 = .ref S ∧ x3 = .none := by simpa using tup_inj e10
    have hqm : q ∈ ps := List.mem_of_getElem? e3
    rw [← chain_eq J2, ← chain_eq (m := fun y => if y = "run" then some rv else m₁ y) (x := "told") (v := .ref D) (by show (if ("told" : Str) = "run" then _ else _) = _; rw [if_neg (by decide)]; exact J3)] at F8
    have hDo := J1 _ List.mem_cons_self
    have hsub9 : ∀ p ∈ news, p ∈ news' := fun p hp => J1 p (List.mem_cons_of_mem _ hp)
    have hv : valueAt kvs q.1 = some (.int q.2 tv) := by rw [← e7, ← e8]; exact valueAt_mem (hkeys ▸ hn) e5
    have m1 := J1 _ (List.mem_cons_of_mem _ b1)
    have m2 := J1 _ (List.mem_cons_of_mem _ b2)
    have m3 := J1 _ (List.mem_cons_of_mem _ c1)
    have m4 := J1 _ (List.mem_cons_of_mem _ c2)
    have m5 := J1 _ (List.mem_cons_of_mem _ g3)
    k_steps
    refine ⟨_, _, _, news', rfl, by k_asm, news_sub (by k_asm) (fun p hp => List.mem_append_right _ (List.mem_append_right _ hp)), off8, J1, rfl, rfl, ?_⟩
    intro q' hq'
    rw [List.take_add_one, e3] at hq'
    rcases List.mem_append.mp hq' with hq' | hq'
    · exact J4 q' hq'
    · simp only [Option.toList_some, List.mem_singleton] at hq'
      subst hq'
      assumption
  · intro m₁ news' h tk hJ F8 N8
    k_steps
    refine hret _ [] _ _ (by k_asm) (news_sub (by k_asm) fun p hp => hJ.1 _ (List.mem_cons_of_mem _ hp)) (fun _ _ _ h => nomatch h) ⟨rfl, ?_⟩
    intro q hq
    obtain ⟨j, hj⟩ := List.getElem?_of_mem hq
    exact hJ.2.2.2 q (by rw [List.take_of_length_le (by have := All2.length hD; simp at this; omega)]; exact hq)
 · intro T x h; refine dropT ?zB ?zA; simpa only using (h : DropP ?zA x); assumption
end
section
example : True := by
  w_top off
  trivial
theorem sT1.hT1 : True := trivial
open sT1
variable {w : World} {p : Program} {loose : List Str} {mean : ExcName → Option Value} {mg mb : Str → Option Value}
def HeldSpec (w : World) (p : Program) (loose : List Str) (mean : ExcName → Option Value) (mg mb : Str → Option Value) (R W fh : Addr) (HP : Led → Prop) (V : Int) (tV : Tok) : Prop :=
  ∀ (pa : Addr) (n : Nat) (t t' t2 : Tok), SpecV w p loose mean mg mb fh [.ref R, .ref pa] 3 (8 * 3) (fun news => HP news ∧ (pa, tupO [.str "obj" t, .ref W, .int 0 t2, .str "n" t'] n) ∈ news) (fun r => r = .int V tV)
abbrev RunAt (R dR nd : Addr) (esR : List DictEntry) (nR : Nat) (ond : Obj) (news : Led) : Prop := Inst news R 159 dR esR nR ∧ getL "nodes" esR = some (some (.ref nd)) ∧ (nd, ond) ∈ news
abbrev HeldAt (fh ch cv : Addr) (ofn och ocv : Obj) (news : Led) : Prop := (fh, ofn) ∈ news ∧ (ch, och) ∈ news ∧ (cv, ocv) ∈ news
example : True := by
  k_with "callWith ref" =>
    (guard_expr hT1 = hT1)
    (k_here; k_dflt (first
      | refine' callWith_K (by first | ((k_asm); done) | fail "by") (by first | ((k_is); done) | fail "by") ?_; k_whole
      | refine' callWith_K0 (by first | ((k_in); done) | fail "by") (by first | ((k_is); done) | fail "by") ?_; k_whole))
  trivial
example : True := by
  k_with "call ref" =>
    (guard_expr hT1 = hT1)
    (k_here; k_dflt (first
    | ((refine' specV_use (‹HeldSpec _ _ _ _ _ _ _ _ _ _ _ _› _ _ _ _ _) (by first | ((k_asm); done) | fail "by") (by first | ((k_asm); done) | fail "by") (by first | ((k_asm); done) | fail "by") (by first | ((k_asm); done) | fail "by") (by first | ((k_asm); done) | fail "by") (by first | ((first | exact rfl | assumption); done) | fail "by") (by first | (((repeat' (first | exact trivial | k_mem | assumption | exact rfl | k_dflt k_get | refine And.intro ?_ ?_ | omega))); done) | fail "by") (by first | ((ktr_room); done) | fail "by") (by first | ((ktr_units); done) | fail "by") ?_; k_whole; intro r9ₖ h9ₖ tk9ₖ F9ₖ N9ₖ hP9ₖ; (first | subst hP9ₖ | (obtain ⟨t9ₖ, e9ₖ⟩ := hP9ₖ; subst e9ₖ) | skip); (try dsimp only); (try k_fold)))
      | (refine' call_cls0 (by first | ((k_asm); done) | fail "by") (by first | ((k_asm); done) | fail "by") (by first | ((k_asm); done) | fail "by") (by first | ((k_is); done) | fail "by") (by first | ((k_is); done) | fail "by") ?_; k_whole; intro x'ₖ d'ₖ h'ₖ F'ₖ N'ₖ l1ₖ l2ₖ; (try k_lt l1ₖ); (try k_lt2 l2ₖ); (try k_sweep))
      | (refine' call_cls (by first | ((k_asm); done) | fail "by") (by first | ((k_asm); done) | fail "by") (by first | ((k_asm); done) | fail "by") (by first | ((k_is); done) | fail "by") (by first | ((k_is); done) | fail "by") (by first | ((k_is); done) | fail "by") ?_; k_whole; intro x'ₖ d'ₖ h'ₖ F'ₖ N'ₖ l1ₖ l2ₖ; (try k_lt l1ₖ); (try k_lt2 l2ₖ); (try k_sweep); k_enter)
      | (refine wpAny_call ?_; k_enter)))
  trivial
example : True := by
  k_with "callWith ref" =>
    (guard_expr hT1 = hT1)
    (k_here; k_dflt (refine' callWith_F (by first | ((exact FnAt.of (by k_asm) (by k_mem)); done) | fail "by") ?_; k_whole))
  trivial
example : True := by
  k_with "FnAt" =>
    (guard_expr hT1 = hT1)
    (k_dflt (exact FnAt.of (by k_asm) (by k_mem)))
  trivial
example : True := by
  k_with "And" =>
    (guard_expr hT1 = hT1)
    (k_dflt (refine And.intro (FnAt.of (by k_asm) (by k_mem)) ?_; (try dsimp only [List.nil_append, List.cons_append])))
  trivial
example : True := by
  k_with "subscriptTail" =>
    (guard_expr hT1 = hT1)
    (k_here; (with_reducible show wpAny _ _ (subscriptTail _ _ (Value.ref _) (Value.str _ _)) _ _ _); k_dflt (refine' item_there (by first | ((k_asm); done) | fail "by") (by first | ((assumption); done) | fail "by") (by first | ((assumption); done) | fail "by") (by first | ((k_mem); done) | fail "by") ?_))
  trivial
theorem told_num (rv : Value) (i : Int) (t : Tok) : SpecV w p loose mean mg mb 352 [rv, .int i t] 2 (8 * 2) (fun news => True) (fun r => r = .int i t) := by
 refine @dropI _ ?_ ?_
 ·
  unfold SpecV
  intro dp un gd cn cs a ccd cl outer A₀ base h₀ L m news s Q E B F X N T hk hPre hd hu hret
  refine wpAny_call ?_
  k_dflt ktr_enter
  k_steps
  all_goals (first | (refine hret _ _ _ (by k_asm) (news_sub (by k_asm) (by intro p9 h9; k_mem)) ?_; first | rfl | exact ⟨_, rfl⟩))
 · intro T x h; refine dropT ?zB ?zA; simpa only using (h : DropP ?zA x); assumption
theorem told_obj {R W dR nd fh ch cv : Addr} {esR : List DictEntry} {nR : Nat} {ond och ocv : Obj} {oc : Value} {od : Option Addr} {fd : FuncData} {osl : Array (Option Value)} {kv : List (Str × Value)} {V : Int} {tV : Tok}
    (hH : HeldSpec w p loose mean mg mb R W fh (HeldAt fh ch cv ⟨oc, od, .func fd, osl⟩ och ocv) V tV) (hond : ond.IsDictOf (strKind PR w) kv) (hkv : valueAt kv "obj" = some (.ref fh)) (pa : Addr) (n : Nat) (t t' t2 : Tok) :
    SpecV w p loose mean mg mb 352 [.ref R, .ref pa] 5 (8 * 5) (fun news => RunAt R dR nd esR nR ond news ∧ HeldAt fh ch cv ⟨oc, od, .func fd, osl⟩ och ocv news ∧ (pa, tupO [.str "obj" t, .ref W, .int 0 t2, .str "n" t'] n) ∈ news) (fun r => r = .int V tV) := by
 refine @dropI _ ?_ ?_
 ·
  unfold SpecV
  intro dp un gd cn cs a ccd cl outer A₀ base h₀ L m news s Q E B F X N T hk hPre hd hu hret
  refine sealG fun pS hS9 => ?_
  first | (refine and3 hPre ?_; clear hPre; intro hc19 hc29 h3) | (obtain ⟨hc19, hc29, h3⟩ := hPre)
  first | (refine and3 hc19 ?_; clear hc19; intro hc39 h1 h2) | (obtain ⟨hc39, h1, h2⟩ := hc19)
  obtain ⟨a1, a2⟩ := hc39
  first | (refine and3 hc29 ?_; clear hc29; intro b1 b2 b3) | (obtain ⟨b1, b2, b3⟩ := hc29)
  refine hS9 ?_
  clear hS9 pS
  refine wpAny_call ?_
  k_dflt ktr_enter
  k_steps
  all_goals (first | (refine hret _ _ _ (by k_asm) (news_sub (by k_asm) (by intro p9 h9; k_mem)) ?_; first | rfl | exact ⟨_, rfl⟩))
 · intro T x h; refine dropT ?zB ?zA; simpa only using (h : DropP ?zA x); assumption
end
section
example : True := by
  w_top off
  trivial
theorem sP1.hP1 : True := trivial
open sP1
variable {w : World} {p : Program} {loose : List Str} {mean : ExcName → Option Value} {mg mb : Str → Option Value}
def settle (V : Int) : Part → Int
  | .num i => i
  | .obj => V
  | .disc => 0
def settled (V : Int) (ps : List (Str × Part)) : List (Str × Int) := ps.map fun q => (q.1, settle V q.2)
theorem settled_names (V : Int) (ps : List (Str × Part)) : (settled V ps).map (·.1) = ps.map (·.1) := by simp [settled, List.map_map, Function.comp_def]
theorem settled_take (V : Int) (ps : List (Str × Part)) (i : Nat) : settled V (ps.take i) = (settled V ps).take i := by simp [settled, List.map_take]
def NoDisc (ps : List (Str × Part)) : Prop := ∀ q ∈ ps, q.2.isDisc = false
inductive SubNum (news : Led) (v : Value) (I : Addr) (ps : List (Str × Int)) : Prop
  | mk (S dS es nS c nc t l nl vs : _) (c09 : v = .ref S) (c19 : Inst news S 222 dS es nS) (c29 : getL "type" es = some (some (.ref I))) (c39 : getL "constraint" es = some (some (.ref c))) (c49 : (c, tupO [.str "discs" t, .ref l] nc) ∈ news) (c59 : (l, lstO vs nl) ∈ news) (c69 : NumPairs news vs ps)
theorem NumPairs.mono {l l' : Led} {vs : List Value} {ps : List (Str × Int)} (hs : ∀ q ∈ l, q ∈ l') (h : NumPairs l vs ps) : NumPairs l' vs ps := h.imp fun _ _ h => h.imp fun _ h => h.imp fun _ h => h.imp fun _ h => h.imp fun _ h => h.imp id (hs _)
def above (b : Addr) (l : Led) : Led := l.filter fun p => Nat.blt b p.1
theorem mem_above {b : Addr} {l : Led} {x : Addr × Obj} : x ∈ above b l ↔ x ∈ l ∧ @LT.lt Nat _ b x.1 := by
  unfold above
  rw [List.mem_filter]
  exact ⟨fun h => ⟨h.1, by simpa [Nat.blt_eq] using h.2⟩, fun h => ⟨h.1, by simpa [Nat.blt_eq] using h.2⟩⟩
theorem above_sub {b : Addr} {l l' : Led} (h : ∀ x ∈ l, x ∈ l') : ∀ x ∈ above b l, x ∈ above b l' := fun x hx => mem_above.mpr ⟨h x (mem_above.mp hx).1, (mem_above.mp hx).2⟩
abbrev RecAt (news : Led) (I dI lD S : Addr) (esI : List DictEntry) (nI nD : Nat) (tk : Tok) (vd : List Value) (ns : List Str) : Prop :=
  Inst news I 201 dI esI nI ∧ getL "kind" esI = some (some (.str "record" tk)) ∧ getL "is_late" esI = some (some (.bool false)) ∧ getL "discriminants" esI = some (some (.ref lD)) ∧ (lD, lstO vd nD) ∈ news ∧ DiscRows S news vd ns
abbrev FewAt (news : Led) (S dS W dW c : Addr) (esS esW : List DictEntry) (nS nW nc : Nat) (t1 t2 t3 t4 t5 t6 : Tok) (lo hi : Int) : Prop :=
  Inst news S 222 dS esS nS ∧ getL "type" esS = some (some (.ref W)) ∧ getL "constraint" esS = some (some (.ref c)) ∧ (c, tupO [.str "range" t1, .int 1 t2, .int 5 t3] nc) ∈ news ∧ Inst news W 201 dW esW nW ∧ getL "kind" esW = some (some (.str "int" t4)) ∧ getL "is_late" esW = some (some (.bool false)) ∧ getL "low" esW = some (some (.int lo t5)) ∧ getL "high" esW = some (some (.int hi t6))
example : True := by
  k_with "callWith ref" =>
    (guard_expr hP1 = hP1)
    (k_here; first
      | ((with_reducible refine' callWith_K (by first | (k_dflt k_asm; done) | fail "by") (by first | (k_dflt k_is; done) | fail "by") ?_ (by first | (k_dflt rfl; done) | fail "by") (by first | (k_dflt rfl; done) | fail "by")); k_whole)
      | ((with_reducible refine' callWith_K0 (by first | (k_dflt k_in; done) | fail "by") (by first | (k_dflt k_is; done) | fail "by") ?_); k_whole)
      | (k_dflt (first
      | refine' callWith_K (by first | (k_asm; done) | fail "by") (by first | (k_is; done) | fail "by") ?_; k_whole
      | refine' callWith_K0 (by first | (k_in; done) | fail "by") (by first | (k_is; done) | fail "by") ?_; k_whole)))
  trivial
example : True := by
  k_with "setAttr ref" =>
    (guard_expr hP1 = hP1)
    (k_here; k_dflt (refine' set_map (by first | (k_asm; done) | fail "by") (by first | (k_asm; done) | fail "by") (by first | (k_asm; done) | fail "by") (by first | (k_mem; done) | fail "by") (by first | (k_mem; done) | fail "by") (by first | (with_reducible assumption; done) | fail "by") (by first | (kernel_rfl; done) | fail "by") (by first | (k_updF; done) | fail "by") (by first | (exact rfl; done) | fail "by") ?_; k_whole; intro esₖ nₖ h'ₖ tk'ₖ M'ₖ F'ₖ N'ₖ; (try dsimp only at N'ₖ); (try k_sweep)))
  trivial
example : True := by
  k_with "call ref" =>
    (guard_expr hP1 = hP1)
    (k_here; k_dflt (first
    | (guard_target =~ wpAny _ _ (call (Value.ref 222) _) _ _ _; refine' sub_new (by first | ((k_asm); done) | fail "by") (by first | ((k_asm); done) | fail "by") (by first | ((k_asm); done) | fail "by") (by first | ((k_asm); done) | fail "by") (by first | ((k_asm); done) | fail "by") (by first | ((first | exact rfl | assumption); done) | fail "by") (by first | ((ktr_room); done) | fail "by") (by first | ((ktr_units); done) | fail "by") ?_; k_whole; intro x'ₖ d'ₖ es'ₖ n'ₖ h'ₖ tk'ₖ F'ₖ N'ₖ l1ₖ l2ₖ M'ₖ; have hneₖ := ne_all l1ₖ; (try k_lt l1ₖ); (try k_lt2 l2ₖ); (try dsimp only); (try k_sweep); (try k_fold))
      | (guard_target =~ wpAny _ _ (call (Value.ref 352) _) _ _ _; (refine' specV_useE (told_num _ _ _) (by first | ((k_asm); done) | fail "by") (by first | ((k_asm); done) | fail "by") (by first | ((k_asm); done) | fail "by") (by first | ((k_asm); done) | fail "by") (by first | ((k_asm); done) | fail "by") (by first | ((first | exact rfl | assumption); done) | fail "by") (by first | (((repeat' (first | exact trivial | k_mem | assumption | exact rfl | k_dflt k_get | refine And.intro ?_ ?_ | omega))); done) | fail "by") (by first | ((ktr_room); done) | fail "by") (by first | ((ktr_units); done) | fail "by") ?_; k_whole; intro h9ₖ tk9ₖ F9ₖ N9ₖ; (try dsimp only); (try k_fold)))
      | (guard_target =~ wpAny _ _ (call (Value.ref 352) _) _ _ _; (refine' specV_useE (told_obj (by assumption) (by assumption) (by assumption) _ _ _ _ _) (by first | ((k_asm); done) | fail "by") (by first | ((k_asm); done) | fail "by") (by first | ((k_asm); done) | fail "by") (by first | ((k_asm); done) | fail "by") (by first | ((k_asm); done) | fail "by") (by first | ((first | exact rfl | assumption); done) | fail "by") (by first | (((repeat' (first | exact trivial | k_mem | assumption | exact rfl | k_dflt k_get | refine And.intro ?_ ?_ | omega))); done) | fail "by") (by first | ((ktr_room); done) | fail "by") (by first | ((ktr_units); done) | fail "by") ?_; k_whole; intro h9ₖ tk9ₖ F9ₖ N9ₖ; (try dsimp only); (try k_fold)))
      | (guard_target =~ wpAny _ _ (call (Value.ref 303) _) _ _ _; (refine' specV_useE (full_ty _ _ _ _ _ _) (by first | ((k_asm); done) | fail "by") (by first | ((k_asm); done) | fail "by") (by first | ((k_asm); done) | fail "by") (by first | ((k_asm); done) | fail "by") (by first | ((k_asm); done) | fail "by") (by first | ((first | exact rfl | assumption); done) | fail "by") (by first | (((repeat' (first | exact trivial | k_mem | assumption | exact rfl | k_dflt k_get | refine And.intro ?_ ?_ | omega))); done) | fail "by") (by first | ((ktr_room); done) | fail "by") (by first | ((ktr_units); done) | fail "by") ?_; k_whole; intro h9ₖ tk9ₖ F9ₖ N9ₖ; (try dsimp only); (try k_fold)))
      | (guard_target =~ wpAny _ _ (call (Value.ref 392) _) _ _ _; (refine' specX_use (check_disc _ _ _ _ _ _ _ _ _ _ _ _ _ _ _ _ _ _ _ _ _ _ _ _ _ _ _ _ _ _ (by assumption) (by assumption) (by assumption) (by assumption)) (by first | ((k_asm); done) | fail "by") (by first | ((k_asm); done) | fail "by") (by first | ((k_asm); done) | fail "by") (by first | ((k_asm); done) | fail "by") (by first | ((k_asm); done) | fail "by") (by first | ((first | exact rfl | assumption); done) | fail "by") (by first | (((repeat' (first | exact trivial | k_mem | assumption | exact rfl | k_dflt k_get | refine And.intro ?_ ?_ | omega))); done) | fail "by") (by first | ((ktr_room); done) | fail "by") (by first | ((ktr_units); done) | fail "by") ?_ (by first | ((intro hb9ₖ e9ₖ dx9ₖ es9ₖ n9ₖ h9ₖ tk9ₖ hw9ₖ hx9ₖ R9ₖ U9ₖ m9ₖ; refine' raise_by (by first | ((assumption); done) | fail "by") (by first | ((assumption); done) | fail "by") (by first | ((assumption); done) | fail "by") (by first | ((exact rfl); done) | fail "by") R9ₖ U9ₖ hw9ₖ hx9ₖ (by first | ((intro p9ₖ h9ₖ; first | (k_mem; done) | (have h8ₖ := sub_at h9ₖ (by assumption); k_mem)); done) | fail "by") (by first | ((exact rfl); done) | fail "by") (by first | ((first | trivial | assumption | omega | (intro hall9ₖ; exact hb9ₖ (hall9ₖ _ (by assumption))) | (simp_all; done)); done) | fail "by")); done) | fail "by"); k_whole; intro r9ₖ tl9ₖ h9ₖ tk9ₖ F9ₖ N9ₖ l9ₖ hP9ₖ; obtain ⟨hP9ₖ, hQ9ₖ⟩ := hP9ₖ; subst hP9ₖ; (try dsimp only); (try k_fold)))
      | (refine' call_cls0 (by first | ((k_asm); done) | fail "by") (by first | ((k_asm); done) | fail "by") (by first | ((k_asm); done) | fail "by") (by first | ((k_is); done) | fail "by") (by first | ((k_is); done) | fail "by") ?_; k_whole; intro x'ₖ d'ₖ h'ₖ F'ₖ N'ₖ l1ₖ l2ₖ; (try k_lt l1ₖ); (try k_lt2 l2ₖ); (try k_sweep))
      | (refine' call_clsM (by first | ((k_asm); done) | fail "by") (by first | ((k_asm); done) | fail "by") (by first | ((k_asm); done) | fail "by") (by first | ((k_is); done) | fail "by") (by first | ((k_is); done) | fail "by") (by first | ((k_is); done) | fail "by") ?_; k_whole; intro x'ₖ d'ₖ es'ₖ n'ₖ h'ₖ M'ₖ F'ₖ N'ₖ l1ₖ l2ₖ; have hneₖ := ne_all l1ₖ; (try k_lt l1ₖ); (try k_lt2 l2ₖ); (try k_sweep); k_enter)
      | (refine wpAny_call ?_; k_enter)))
  trivial
section
open PyProof.Rows.LCg (Off3)
theorem turn_more {h₀ : Heap} {L : Addr} {m : Str → Option Value} {s₁ s' : Shared} {I : Addr} {oI : Obj} {C : Addr} {oC : Obj} {D : Addr} {oD : Obj} {news' : Led} {K : Led → Prop} {h' : Heap} {tk : Nat} (tl : Led) (hs : s' = { s₁ with heap := h', toks := tk }) (F : Fr h₀ L h' m) (N : News h₀ L h' (tl ++ (I, oI) :: (C, oC) :: (D, oD) :: news'))
    (lt : ∀ p ∈ tl, @LT.lt Nat _ I p.1 ∧ @LT.lt Nat _ C p.1 ∧ @LT.lt Nat _ D p.1) (o8 : Off3 I C D news') (hK : K (tl ++ news')) : TurnEnd h₀ L m s₁ I oI C oC D oD news' K s' := by
 refine @dropI _ ?_ ?_
 ·
  refine ⟨h', tk, tl ++ news', hs, F, news_sub N fun p hp => ?_, Off3.of fun p hp => ?_, fun p hp => List.mem_append_right _ hp, fun p hp => ?_, hK⟩
  · rcases List.mem_cons.mp hp with rfl | hp
    · exact List.mem_append_right _ List.mem_cons_self
    · rcases List.mem_cons.mp hp with rfl | hp
      · exact List.mem_append_right _ (.tail _ List.mem_cons_self)
      · rcases List.mem_cons.mp hp with rfl | hp
        · exact List.mem_append_right _ (.tail _ (.tail _ List.mem_cons_self))
        · rcases List.mem_append.mp hp with hp | hp
          · exact List.mem_append_left _ hp
          · exact List.mem_append_right _ (.tail _ (.tail _ (.tail _ hp)))
  · rcases List.mem_append.mp hp with hp | hp
    · exact ⟨Nat.ne_of_gt (lt p hp).1, Nat.ne_of_gt (lt p hp).2.1, Nat.ne_of_gt (lt p hp).2.2⟩
    · exact o8.mem p hp
  · rcases List.mem_append.mp hp with hp | hp
    · exact .inr (lt p hp).2.2
    · exact .inl hp
 · intro T x h; refine dropT ?zB ?zA; simpa only using (h : DropP ?zA x); assumption
end
theorem numPairs_snoc {b : Addr} {V : Int} {news' : Led} {ys : List Value} {ps : List (Str × Part)} {i : Nat} {q : Str × Part} {x : Addr} {t tz : Tok} {n : Nat} {z : Int} (h : NumPairs (above b news') ys (settled V (ps.take i))) (hb : @LT.lt Nat _ b x) (hqi : ps[i]? = some q) (hs : settle V q.2 = z) :
    NumPairs (above b ([(x, tupO [.str q.1 t, .int z tz] n)] ++ news')) (ys ++ [.ref x]) (settled V (ps.take (i + 1))) := by
 refine @dropI _ ?_ ?_
 ·
  have e : settled V (ps.take (i + 1)) = settled V (ps.take i) ++ [(q.1, z)] := by
    rw [List.take_add_one, hqi]
    simp [settled, hs]
  rw [e]
  exact (NumPairs.mono (above_sub fun p hp => List.mem_append_right _ hp) h).snoc ⟨x, n, t, tz, rfl, mem_above.mpr ⟨List.mem_append_left _ List.mem_cons_self, hb⟩⟩
 · intro T x h; refine dropT ?zB ?zA; simpa only using (h : DropP ?zA x); assumption
theorem ret_grown {h₀ : Heap} {L : Addr} {m : Str → Option Value} {news FL : Led} {s s' : Shared} {Q : Value → Shared → Prop} {Post : Led → Value → Prop} {r : Value} {h' : Heap} {tk' : Nat}
    (hret : ∀ r tl h' tk', Fr h₀ L h' m → News h₀ L h' (tl ++ news) → (∀ q ∈ news, ∀ p ∈ tl, @LT.lt Nat _ q.1 p.1) → Post (tl ++ news) r → Q r { s with heap := h', toks := tk' })
    (hs : s' = { s with heap := h', toks := tk' }) (F : Fr h₀ L h' m) (N : News h₀ L h' FL) (hsub : ∀ p ∈ news, p ∈ FL) (hcov : ∀ p ∈ FL, p ∈ news ∨ ∀ q ∈ news, @LT.lt Nat _ q.1 p.1) (hpost : ∀ FL' : Led, (∀ p ∈ FL, p ∈ FL') → Post FL' r) : Q r s' := by
 refine @dropI _ ?_ ?_
 ·
  have hmem : ∀ p, p ∈ FL.filter (fun p => news.all fun q => Nat.blt q.1 p.1) ↔ p ∈ FL ∧ ∀ q ∈ news, @LT.lt Nat _ q.1 p.1 := fun p => by
    rw [List.mem_filter, List.all_eq_true]
    exact ⟨fun h => ⟨h.1, fun q hq => by have := h.2 q hq; simpa [Nat.blt_eq] using this⟩, fun h => ⟨h.1, fun q hq => by simpa [Nat.blt_eq] using h.2 q hq⟩⟩
  rw [hs]
  refine hret r (FL.filter fun p => news.all fun q => Nat.blt q.1 p.1) h' tk' F (news_sub N fun p hp => ?_) (fun q hq p hp => ((hmem p).mp hp).2 q hq) (hpost _ fun p hp => ?_)
  · rcases List.mem_append.mp hp with hp | hp
    · exact ((hmem p).mp hp).1
    · exact hsub p hp
  · rcases hcov p hp with h | h
    · exact List.mem_append_right _ h
    · exact List.mem_append_left _ ((hmem p).mpr ⟨hp, h⟩)
 · intro T x h; refine dropT ?zB ?zA; simpa only using (h : DropP ?zA x); assumption
theorem pair_name {W : Addr} {news : Led} {v : Value} {q : Str × Part} (h : PairAt W news v q) : ∃ a b, TupIn v [a, b] news := by obtain ⟨a, n, t, pv, e, hm, _⟩ := h; exact ⟨_, _, a, n, e, hm⟩
example : True := by
  k_with "exec Assign cons ListComp" =>
    (guard_expr hP1 = hP1)
    (k_here; k_dflt (refine' comp_assign (cl := _) (by first | ((k_asm); done) | fail "by") _ _ (fun _ _ _ => False) (by first | ((exact rfl); done) | fail "by") (by first | ((kernel_rfl); done) | fail "by") (by first | ((with_unfolding_all rfl); done) | fail "by") (by first | ((decide); done) | fail "by") (by first | ((rfl); done) | fail "by") (by first | ((decide); done) | fail "by") (by first | ((rfl); done) | fail "by") (by first | ((rfl); done) | fail "by") (by first | (((refine' binds_two (by first | ((rfl); done) | fail "by") (by first | ((rfl); done) | fail "by") (by first | ((rfl); done) | fail "by") (by first | ((rfl); done) | fail "by") (by first | ((decide); done) | fail "by"))); done) | fail "by") Passes.never ?_))
  trivial
theorem private_it {R W dR nd fh ch cv : Addr} {esR : List DictEntry} {nR : Nat} {ond och ocv : Obj} {oc : Value} {od : Option Addr} {fd : FuncData} {osl : Array (Option Value)} {kv : List (Str × Value)} {V : Int} {tV : Tok}
    (hH : HeldSpec w p loose mean mg mb R W fh (HeldAt fh ch cv ⟨oc, od, .func fd, osl⟩ och ocv) V tV) (hond : ond.IsDictOf (strKind PR w) kv) (hkv : valueAt kv "obj" = some (.ref fh))
    (Sx dSx cx lx I dI lD S dS dW c b : Addr) (ob : Obj) (esx esI esS esW : List DictEntry) (nx ncx nlx nI nD nS nW nc : Nat) (txx tk t1 t2 t3 t4 t5 t6 : Tok) (lo hi : Int) (vd vs : List Value) (ps : List (Str × Part)) (hlo : lo ≤ 1) (hhi : 5 ≤ hi) (hn : (ps.map (·.1)).Nodup) (hl : ps.length ≤ 100) (hnd : NoDisc ps) :
    SpecX w p loose mean mg mb 414 [.ref R, .ref Sx] 24 (8 * 24) (fun news => RunAt R dR nd esR nR ond news ∧ HeldAt fh ch cv ⟨oc, od, .func fd, osl⟩ och ocv news ∧ Inst news Sx 222 dSx esx nx ∧ getL "type" esx = some (some (.ref I)) ∧ getL "constraint" esx = some (some (.ref cx)) ∧ (cx, tupO [.str "discs" txx, .ref lx] ncx) ∈ news ∧ (lx, lstO vs nlx) ∈ news ∧ All2 (PairAt W news) vs ps ∧
          RecAt news I dI lD S esI nI nD tk vd (ps.map (·.1)) ∧ FewAt news S dS W dW c esS esW nS nW nc t1 t2 t3 t4 t5 t6 lo hi ∧ (b, ob) ∈ news) (¬ (∀ q ∈ settled V ps, 1 ≤ q.2 ∧ q.2 ≤ 5)) (fun news r => SubNum (above b news) r I (settled V ps) ∧ (∀ q ∈ settled V ps, 1 ≤ q.2 ∧ q.2 ≤ 5)) := by
 refine @dropI _ ?_ ?_
 ·
  unfold SpecX
  intro dp un gd cn cs a ccd cl outer A₀ base h₀ L m news s Q E B F X N T hk hPre hd hu hret hraise
  refine sealG fun pS hS9 => ?_
  first | (refine and11 hPre ?_; clear hPre; intro hc19 hc29 hc39 c3 c4 c5 c6 hps hc49 hc59 hbn) | (obtain ⟨hc19, hc29, hc39, c3, c4, c5, c6, hps, hc49, hc59, hbn⟩ := hPre)
  first | (refine and3 hc19 ?_; clear hc19; intro hc69 a3 a4) | (obtain ⟨hc69, a3, a4⟩ := hc19)
  obtain ⟨a1, a2⟩ := hc69
  first | (refine and3 hc29 ?_; clear hc29; intro b1 b2 b3) | (obtain ⟨b1, b2, b3⟩ := hc29)
  obtain ⟨c1, c2⟩ := hc39
  first | (refine and6 hc49 ?_; clear hc49; intro hc79 d3 d4 d5 d6 d7) | (obtain ⟨hc79, d3, d4, d5, d6, d7⟩ := hc49)
  obtain ⟨d1, d2⟩ := hc79
  first | (refine and9 hc59 ?_; clear hc59; intro hc89 e3 e4 e5 hc99 e8 e9 e10 e11) | (obtain ⟨hc89, e3, e4, e5, hc99, e8, e9, e10, e11⟩ := hc59)
  refine sealG fun pS hS9 => ?_
  obtain ⟨e1, e2⟩ := hc89
  obtain ⟨e6, e7⟩ := hc99
  refine hS9 ?_
  clear hS9 pS
  refine hS9 ?_
  clear hS9 pS
  refine wpAny_call ?_
  k_dflt (refine' code_defC ?k1 ?k2 ?k3 ?k4 ?k5 ?kA ?kF ?kK ?k6 ?k7 ?k8 ?k9 ?kB ?kD ?_ ?c2 ?c3 ?c4; (case kA => exact rfl); (case kF => exact rfl); (case kK => assumption); (case k1 => k_asm); (case k2 => k_asm); (case k3 => k_asm); (case k4 => k_asm); (case k5 => k_asm); (case k6 => k_is); (case k7 => k_is); (case k8 => ktr_room); (case k9 => exact BindsTo.of_eq rfl); (case kB => exact rfl); (case kD => decide +kernel); (case c2 => exact rfl); (case c3 => exact rfl); (case c4 => exact rfl); k_whole; intro g' L' h' tk' cells' FG' F' N' Y' B' X' T' l1; (try k_lt l1); k_cells Y'; (try simp only [List.cons_append, List.nil_append] at N'); (try dsimp only); (try k_lift B'); (try k_fold))
  rename Fr h₀ L _ m => hFG9
  rename Below _ base (envX _ _ _ _ _ _ :: outer) _ => hB9
  k_steps
  refine CompIn.intro (fun i ys news' => ys.length = i ∧ NumPairs (above b news') ys (settled V (ps.take i))) (by rfl) (by k_asm) (by k_asm) (.inl (by k_mem)) (by have := hps.length; rw [sizeLine_eq]; omega) ⟨rfl, .nil⟩ (fun i ys _ h => Nat.le_of_eq h.1) ?_ ?_ ?_
  · intro v hv news' hsub
    refine sealG fun pS hS9 => ?_
    obtain ⟨j, hj⟩ := List.getElem?_of_mem hv
    obtain ⟨q, _, hq⟩ := hps.get hj
    refine hS9 ?_
    clear hS9 pS
    exact pair_name (hq.mono fun p hp => hsub p (List.mem_cons_of_mem _ hp))
  · intro g8 i v ys news' I8 oI C8 oC D8 m₂ h8 tk8 hi hJ hsub hlt hC hB F8 N8 o8 d8
    refine sealG fun pS hS9 => ?_
    obtain ⟨q, hqi, ax, n, t, pv, rfl, hm, hpart⟩ := hps.get hi
    obtain ⟨x1, x2, ⟨ax', n', e9, hm'⟩, y1, y2⟩ := hB
    refine hS9 ?_
    clear hS9 pS
    cases e9
    have e10 := (N8 _ (List.mem_cons_of_mem _ (List.mem_cons_of_mem _ (List.mem_cons_of_mem _ hm')))).1.symm.trans (N8 _ (List.mem_cons_of_mem _ (List.mem_cons_of_mem _ (List.mem_cons_of_mem _ (hsub _ (List.mem_cons_of_mem _ hm)))))).1
    obtain ⟨rfl, rfl⟩ : x1 = .str q.1 t ∧ x2 = pv := by simpa using tup_inj e10
    have w1 : ∀ p ∈ news, p ∈ news' := fun p hp => hsub p (List.mem_cons_of_mem _ hp)
    have w0 := hsub _ List.mem_cons_self
    have v1 := w1 _ a1
    have v2 := w1 _ a2
    have v3 := w1 _ a4
    have v4 := w1 _ b1
    have v5 := w1 _ b2
    have v6 := w1 _ b3
    have vb := w1 _ hbn
    have hdq := hnd q (List.mem_of_getElem? hqi)
    rcases hp2 : q.2 with z | _ | _
    · rw [hp2] at hpart hdq
      obtain ⟨tz, rfl⟩ := hpart
      rw [List.forIn_nil]
      refine wpAny_pure ?_
      rw [if_pos rfl]
      k_steps
      refine turn_more [_] rfl (by k_asm) (by k_asm) (by simp only [List.mem_singleton, forall_eq]; omega) o8 ⟨by rw [List.length_append, hJ.1]; rfl, numPairs_snoc hJ.2 (by have hbD : @LT.lt Nat _ b D8 := hlt _ (List.mem_cons_of_mem _ hbn); omega) hqi (by rw [hp2]; rfl)⟩
    · rw [hp2] at hpart hdq
      refine sealG fun pS hS9 => ?_
      obtain ⟨az, nz, tz1, tz2, tz3, rfl, hmz⟩ := hpart
      refine hS9 ?_
      clear hS9 pS
      have v7 := w1 _ hmz
      rw [List.forIn_nil]
      refine wpAny_pure ?_
      rw [if_pos rfl]
      k_steps
      refine turn_more [_] rfl (by k_asm) (by k_asm) (by simp only [List.mem_singleton, forall_eq]; omega) o8 ⟨by rw [List.length_append, hJ.1]; rfl, numPairs_snoc hJ.2 (by have hbD : @LT.lt Nat _ b D8 := hlt _ (List.mem_cons_of_mem _ hbn); omega) hqi (by rw [hp2]; rfl)⟩
    · rw [hp2] at hdq
      cases hdq
  · intro g8 D8 h8 tk8 ys news' N8 o8 hsub hlt hord hJ h7 tk7 F9 N9
    have w1 : ∀ p ∈ news, p ∈ news' := fun p hp => hsub p (List.mem_cons_of_mem _ hp)
    have v1 := w1 _ c1
    have v2 := w1 _ c2
    have v3 := w1 _ d1
    have v4 := w1 _ d2
    have v5 := w1 _ d6
    have v6 := w1 _ e1
    have v7 := w1 _ e2
    have v8 := w1 _ e5
    have v9 := w1 _ e6
    have v10 := w1 _ e7
    have w0 := hsub _ List.mem_cons_self
    have vb := w1 _ hbn
    have hNB : NumPairs (above b ((D8, PyProof.Rows.LCg.lst ys) :: news')) ys (settled V ps) := NumPairs.mono (above_sub fun p hp => List.mem_cons_of_mem _ hp) (by have := hJ.2; rwa [List.take_of_length_le (by have := hps.length; omega)] at this)
    have hNP : NumPairs ((D8, PyProof.Rows.LCg.lst ys) :: news') ys (settled V ps) := NumPairs.mono (fun p hp => (mem_above.mp hp).1) hNB
    have hDR : DiscRows S ((D8, PyProof.Rows.LCg.lst ys) :: news') vd ((settled V ps).map (·.1)) := by rw [settled_names]; exact d7.mono fun p hp => List.mem_cons_of_mem _ (w1 p hp)
    have hn' : ((settled V ps).map (·.1)).Nodup := by rw [settled_names]; exact hn
    have hl' : (settled V ps).length ≤ 100 := by simpa [settled] using hl
    k_steps
    refine ret_grown (news := news) (Post := fun news r => SubNum (above b news) r I (settled V ps) ∧ (∀ q ∈ settled V ps, 1 ≤ q.2 ∧ q.2 ≤ 5)) hret rfl (by k_asm) (by k_asm) ?_ ?_ ?_
    · intro p hp
      have h8 := w1 p hp; k_mem
    · intro p hp
      have hb : ∀ p ∈ news', p ∈ news ∨ ∀ q ∈ news, @LT.lt Nat _ q.1 p.1 := fun p hp => by
        rcases hord p hp with h | h
        · rcases List.mem_cons.mp h with rfl | h
          · exact .inr fun q hq => Nat.lt_succ_of_lt (by first | exact tb_ltOf (by tbn_find) q hq | exact (by assumption : ∀ p ∈ _, p.1 < _) q hq)
          · exact .inl h
        · exact .inr fun q hq => Nat.lt_trans (hlt q (List.mem_cons_of_mem _ hq)) h
      have hD : ∀ q ∈ news, @LT.lt Nat _ q.1 D8 := fun q hq => hlt q (List.mem_cons_of_mem _ hq)
      have hDD := tb_ltOf (by assumption : AllLt _ (_ ++ (D8, PyProof.Rows.LCg.lst ys) :: news')) (D8, PyProof.Rows.LCg.lst ys) (List.mem_append_right _ List.mem_cons_self)
      dsimp only at hDD
      simp only [List.mem_cons, List.mem_append] at hp
      rcases hp with rfl | rfl | rfl | hp | rfl | hp
      · exact .inr fun q hq => Nat.lt_trans (hD q hq) (by dsimp only; omega)
      · exact .inr fun q hq => Nat.lt_trans (hD q hq) (by dsimp only; omega)
      · exact .inr fun q hq => Nat.lt_trans (hD q hq) (by dsimp only; omega)
      · exact .inr fun q hq => (by assumption : ∀ q ∈ (D8, PyProof.Rows.LCg.lst ys) :: news', ∀ p ∈ _, @LT.lt Nat _ q.1 p.1) q (List.mem_cons_of_mem _ (w1 q hq)) p hp
      · exact .inr hD
      · exact hb p hp
    · intro FL' hFL
      have hbD : @LT.lt Nat _ b D8 := hlt _ (List.mem_cons_of_mem _ hbn)
      have hDD := tb_ltOf (by assumption : AllLt _ (_ ++ (D8, PyProof.Rows.LCg.lst ys) :: news')) (D8, PyProof.Rows.LCg.lst ys) (List.mem_append_right _ List.mem_cons_self)
      dsimp only at hDD
      refine ⟨⟨_, _, _, _, _, _, _, _, _, _, rfl, ⟨mem_above.mpr ⟨hFL _ (by k_mem), by dsimp only; omega⟩, mem_above.mpr ⟨hFL _ (by k_mem), by dsimp only; omega⟩⟩, by k_get, by k_get, mem_above.mpr ⟨hFL _ (by k_mem), by dsimp only; omega⟩, mem_above.mpr ⟨hFL _ (by k_mem), by dsimp only; omega⟩, NumPairs.mono (above_sub fun p hp => hFL p ?_) hNB⟩, by assumption⟩
      k_mem
 · intro T x h; refine dropT ?zB ?zA; simpa only using (h : DropP ?zA x); assumption
end
section
example : True := by
  w_top off
  trivial
theorem sS1.hS1 : True := trivial
open sS1
variable {w : World} {p : Program} {loose : List Str} {mean : ExcName → Option Value} {mg mb : Str → Option Value}
example : True := by
  k_with "callWith ref" =>
    (guard_expr hS1 = hS1)
    (k_here; k_dflt (first
      | refine' callWith_K (by first | ((k_asm); done) | fail "by") (by first | ((k_is); done) | fail "by") ?_; k_whole
      | refine' callWith_K0 (by first | ((k_in); done) | fail "by") (by first | ((k_is); done) | fail "by") ?_; k_whole))
  trivial
example : True := by
  k_with "call ref" =>
    (guard_expr hS1 = hS1)
    (k_here; k_dflt (first
    | (guard_target =~ wpAny _ _ (call (Value.ref 402) _) _ _ _; (refine' specV_useE (hangs_range _ _ _ _ _ _ _) (by first | ((k_asm); done) | fail "by") (by first | ((k_asm); done) | fail "by") (by first | ((k_asm); done) | fail "by") (by first | ((k_asm); done) | fail "by") (by first | ((k_asm); done) | fail "by") (by first | ((first | exact rfl | assumption); done) | fail "by") (by first | (((repeat' (first | exact trivial | k_mem | assumption | exact rfl | k_dflt k_get | refine And.intro ?_ ?_ | omega))); done) | fail "by") (by first | ((ktr_room); done) | fail "by") (by first | ((ktr_units); done) | fail "by") ?_; k_whole; intro h9ₖ tk9ₖ F9ₖ N9ₖ; (try dsimp only); (try k_fold)))
      | (guard_target =~ wpAny _ _ (call (Value.ref 402) _) _ _ _; (refine' specV_useE (hangs_con _ _ _ _ _ _ (by assumption)) (by first | ((k_asm); done) | fail "by") (by first | ((k_asm); done) | fail "by") (by first | ((k_asm); done) | fail "by") (by first | ((k_asm); done) | fail "by") (by first | ((k_asm); done) | fail "by") (by first | ((first | exact rfl | assumption); done) | fail "by") (by first | (((repeat' (first | exact trivial | k_mem | assumption | exact rfl | k_dflt k_get | refine And.intro ?_ ?_ | omega))); done) | fail "by") (by first | ((ktr_room); done) | fail "by") (by first | ((ktr_units); done) | fail "by") ?_; k_whole; intro h9ₖ tk9ₖ F9ₖ N9ₖ; (try dsimp only); (try k_fold)))
      | (guard_target =~ wpAny _ _ (call (Value.ref 397) _) _ _ _; (refine' specO_use (elab_few _ _ _ _ _ _ _ _ _ _ _ _ _ _ _ _ _ _ _ _ _) (by first | ((k_asm); done) | fail "by") (by first | ((k_asm); done) | fail "by") (by first | ((k_asm); done) | fail "by") (by first | ((k_asm); done) | fail "by") (by first | ((k_asm); done) | fail "by") (by first | ((first | exact rfl | assumption); done) | fail "by") (by first | (((repeat' (first | exact trivial | k_mem | assumption | exact rfl | k_dflt k_get | refine And.intro ?_ ?_ | omega))); done) | fail "by") (by first | ((ktr_room); done) | fail "by") (by first | ((ktr_units); done) | fail "by") ?_; k_whole; intro r9ₖ tl9ₖ h9ₖ tk9ₖ F9ₖ N9ₖ l9ₖ hP9ₖ; (try dsimp only); (try k_fold)))
      | (refine' specX_use (private_it (by assumption) (by assumption) (by assumption) _ _ _ _ _ _ _ _ _ _ _ _ _ _ _ _ _ _ _ _ _ _ _ _ _ _ _ _ _ _ _ _ _ _ _ _ _ _ (by assumption) (by assumption) (by assumption) (by assumption) (by assumption)) (by first | ((k_asm); done) | fail "by") (by first | ((k_asm); done) | fail "by") (by first | ((k_asm); done) | fail "by") (by first | ((k_asm); done) | fail "by") (by first | ((k_asm); done) | fail "by") (by first | ((first | exact rfl | assumption); done) | fail "by") (by first | (((repeat' (first | exact trivial | k_mem | assumption | exact rfl | k_dflt k_get | refine And.intro ?_ ?_ | (refine DiscRows.mono ?_ (by assumption); intro p9ₖ h9ₖ; k_mem; done) | (refine All2.imp (fun _ _ hz9ₖ => PairAt.mono ?_ hz9ₖ) (by assumption); intro p9ₖ h9ₖ; k_mem; done) | omega))); done) | fail "by") (by first | ((ktr_room); done) | fail "by") (by first | ((ktr_units); done) | fail "by") ?_ (by first | ((intro hb9ₖ e9ₖ dx9ₖ es9ₖ n9ₖ h9ₖ tk9ₖ hw9ₖ hx9ₖ R9ₖ U9ₖ m9ₖ; refine' raise_by (by first | ((assumption); done) | fail "by") (by first | ((assumption); done) | fail "by") (by first | ((assumption); done) | fail "by") (by first | ((exact rfl); done) | fail "by") R9ₖ U9ₖ hw9ₖ hx9ₖ (by first | ((intro p9ₖ h9ₖ; first | (k_mem; done) | (have h8ₖ := sub_at h9ₖ (by assumption); k_mem)); done) | fail "by") (by first | ((exact rfl); done) | fail "by") (by first | ((first | trivial | assumption | omega | (intro hall9ₖ; exact hb9ₖ (hall9ₖ _ (by assumption))) | (simp_all; done)); done) | fail "by")); done) | fail "by"); k_whole; intro r9ₖ tl9ₖ h9ₖ tk9ₖ F9ₖ N9ₖ l9ₖ hP9ₖ; (first | exact False.elim hP9ₖ | skip); (try dsimp only); (try k_fold))
      | (refine' call_cls0 (by first | ((k_asm); done) | fail "by") (by first | ((k_asm); done) | fail "by") (by first | ((k_asm); done) | fail "by") (by first | ((k_is); done) | fail "by") (by first | ((k_is); done) | fail "by") ?_; k_whole; intro x'ₖ d'ₖ h'ₖ F'ₖ N'ₖ l1ₖ l2ₖ; (try k_lt l1ₖ); (try k_lt2 l2ₖ); (try k_sweep))
      | (refine' call_cls (by first | ((k_asm); done) | fail "by") (by first | ((k_asm); done) | fail "by") (by first | ((k_asm); done) | fail "by") (by first | ((k_is); done) | fail "by") (by first | ((k_is); done) | fail "by") (by first | ((k_is); done) | fail "by") ?_; k_whole; intro x'ₖ d'ₖ h'ₖ F'ₖ N'ₖ l1ₖ l2ₖ; (try k_lt l1ₖ); (try k_lt2 l2ₖ); (try k_sweep); k_enter)
      | (refine wpAny_call ?_; k_enter)))
  trivial
theorem RangeAt.mono {l l' : Led} {v : Value} {T : Addr} {lo hi : Int} (hs : ∀ q ∈ l, q ∈ l') (h : RangeAt l v T lo hi) : RangeAt l' v T lo hi := by obtain ⟨S, dS, es, nS, c, nc, t1, t2, t3, e, ⟨m1, m2⟩, g1, g2, m3⟩ := h; exact ⟨S, dS, es, nS, c, nc, t1, t2, t3, e, ⟨hs _ m1, hs _ m2⟩, g1, g2, hs _ m3⟩
theorem settle_few (rv : Value) (S dS W dW c : Addr) (esS esW : List DictEntry) (nS nW nc : Nat) (t1 t2 t3 t4 t5 t6 : Tok) (lo hi : Int) :
    SpecO w p loose mean mg mb 409 [rv, .ref S] 16 (8 * 16) (fun news => FewAt news S dS W dW c esS esW nS nW nc t1 t2 t3 t4 t5 t6 lo hi ∧ lo ≤ 1 ∧ (1 : Int) ≤ 5 ∧ 5 ≤ hi) (fun news r => RangeAt news r W 1 5) := by
 refine @dropI _ ?_ ?_
 ·
  unfold SpecO
  intro dp un gd cn cs a ccd cl outer A₀ base h₀ L m news s Q E B F X N T hk hPre hd hu hret
  refine sealG fun pS hS9 => ?_
  first | (refine and4 hPre ?_; clear hPre; intro hc19 hlo h15 hhi) | (obtain ⟨hc19, hlo, h15, hhi⟩ := hPre)
  first | (refine and9 hc19 ?_; clear hc19; intro hc29 e3 e4 e5 hc39 e8 e9 e10 e11) | (obtain ⟨hc29, e3, e4, e5, hc39, e8, e9, e10, e11⟩ := hc19)
  refine sealG fun pS hS9 => ?_
  obtain ⟨e1, e2⟩ := hc29
  obtain ⟨e6, e7⟩ := hc39
  refine hS9 ?_
  clear hS9 pS
  refine hS9 ?_
  clear hS9 pS
  refine wpAny_call ?_
  k_dflt ktr_enter
  k_steps
  refine ret_grown (news := news) (Post := fun news r => RangeAt news r W 1 5) hret rfl (by k_asm) (by k_asm) (by (intro p9 hp9; k_mem)) (by (intro p9 hp9; simp only [List.mem_append, List.mem_cons] at hp9; (repeat' (with_reducible refine Or.elim hp9 (fun hp9 => ?_) (fun hp9 => ?_))); all_goals (first | (refine .inr fun q9 hq9 => ?_; exact (by assumption : ∀ q ∈ _, ∀ p ∈ _, @LT.lt Nat _ q.1 p.1) q9 (by simp only [List.mem_cons, List.mem_append, hq9, or_true]) _ hp9) | (with_reducible exact .inl hp9) | (subst hp9; refine .inr fun q9 hq9 => ?_; dsimp only; first | k_extra "q" | exact tb_ltOf (by tbn_find) q9 hq9 | k_extra "o")))) (fun FL' h => RangeAt.mono h (by assumption))
 · intro T x h; refine dropT ?zB ?zA; simpa only using (h : DropP ?zA x); assumption
theorem SubNum.mono {l l' : Led} {v : Value} {I : Addr} {ps : List (Str × Int)} (hs : ∀ q ∈ l, q ∈ l') (h : SubNum l v I ps) : SubNum l' v I ps :=
  by obtain ⟨S, dS, es, nS, c, nc, t, l, nl, vs, e, ⟨m1, m2⟩, g1, g2, m3, m4, m5⟩ := h; exact ⟨S, dS, es, nS, c, nc, t, l, nl, vs, e, ⟨hs _ m1, hs _ m2⟩, g1, g2, hs _ m3, hs _ m4, m5.mono hs⟩
abbrev RowSub (W : Addr) (news : Led) (Sx dSx I cx lx : Addr) (esx : List DictEntry) (nx ncx nlx : Nat) (txx : Tok) (vs : List Value) (ps : List (Str × Part)) : Prop :=
  Inst news Sx 222 dSx esx nx ∧ getL "type" esx = some (some (.ref I)) ∧ getL "constraint" esx = some (some (.ref cx)) ∧ (cx, tupO [.str "discs" txx, .ref lx] ncx) ∈ news ∧ (lx, lstO vs nlx) ∈ news ∧ All2 (PairAt W news) vs ps
theorem settle_hang (rv : Value) (W dW Sx dSx I cx lx : Addr) (esW esx : List DictEntry) (nW nx ncx nlx : Nat) (txx : Tok) (vs : List Value) (ps : List (Str × Part)) (hps : ps.length ≤ 2) (hd : (ps.any fun q => q.2.isDisc) = true) :
    SpecV w p loose mean mg mb 409 [rv, .ref Sx] 10 (8 * 10) (fun news => RowSub W news Sx dSx I cx lx esx nx ncx nlx txx vs ps ∧ Inst news W 201 dW esW nW) (fun r => r = .ref Sx) := by
 refine @dropI _ ?_ ?_
 ·
  unfold SpecV
  intro dp un gd cn cs a ccd cl outer A₀ base h₀ L m news s Q E B F X N T hk hPre hd hu hret
  refine sealG fun pS hS9 => ?_
  obtain ⟨hc49, hc59⟩ := hPre
  first | (refine and6 hc49 ?_; clear hc49; intro hc69 c3 c4 c5 c6 hps2) | (obtain ⟨hc69, c3, c4, c5, c6, hps2⟩ := hc49)
  refine sealG fun pS hS9 => ?_
  obtain ⟨c1, c2⟩ := hc69
  obtain ⟨e6, e7⟩ := hc59
  refine hS9 ?_
  clear hS9 pS
  refine hS9 ?_
  clear hS9 pS
  refine wpAny_call ?_
  k_dflt ktr_enter
  have hcon : ConAt W news (.ref cx) ps := ⟨cx, ncx, txx, _, rfl, c5, lx, nlx, vs, rfl, c6, hps2⟩
  k_steps
  all_goals (first | (refine hret _ _ _ (by k_asm) (news_sub (by k_asm) (by intro p9 h9; k_mem)) ?_; first | rfl | exact ⟨_, rfl⟩))
 · intro T x h; refine dropT ?zB ?zA; simpa only using (h : DropP ?zA x); assumption
theorem noDisc_any {ps : List (Str × Part)} (h : NoDisc ps) : (ps.any fun q => q.2.isDisc) = false := by
  rw [List.any_eq_false]
  intro q hq
  rw [h q hq]
  decide
theorem settle_num {R W dR nd fh ch cv : Addr} {esR : List DictEntry} {nR : Nat} {ond och ocv : Obj} {oc : Value} {od : Option Addr} {fd : FuncData} {osl : Array (Option Value)} {kv : List (Str × Value)} {V : Int} {tV : Tok}
    (hH : HeldSpec w p loose mean mg mb R W fh (HeldAt fh ch cv ⟨oc, od, .func fd, osl⟩ och ocv) V tV) (hond : ond.IsDictOf (strKind PR w) kv) (hkv : valueAt kv "obj" = some (.ref fh))
    (Sx dSx cx lx I dI lD S dS dW c b : Addr) (ob : Obj) (esx esI esS esW : List DictEntry) (nx ncx nlx nI nD nS nW nc : Nat) (txx tk t1 t2 t3 t4 t5 t6 : Tok) (lo hi : Int) (vd vs : List Value) (ps : List (Str × Part)) (hlo : lo ≤ 1) (hhi : 5 ≤ hi) (hn : (ps.map (·.1)).Nodup) (hl2 : ps.length ≤ 2) (hnd : NoDisc ps) :
    SpecX w p loose mean mg mb 409 [.ref R, .ref Sx] 28 (8 * 28) (fun news => RunAt R dR nd esR nR ond news ∧ HeldAt fh ch cv ⟨oc, od, .func fd, osl⟩ och ocv news ∧ RowSub W news Sx dSx I cx lx esx nx ncx nlx txx vs ps ∧
          RecAt news I dI lD S esI nI nD tk vd (ps.map (·.1)) ∧ FewAt news S dS W dW c esS esW nS nW nc t1 t2 t3 t4 t5 t6 lo hi ∧ (b, ob) ∈ news) (¬ (∀ q ∈ settled V ps, 1 ≤ q.2 ∧ q.2 ≤ 5)) (fun news r => SubNum (above b news) r I (settled V ps) ∧ (∀ q ∈ settled V ps, 1 ≤ q.2 ∧ q.2 ≤ 5)) := by
 refine @dropI _ ?_ ?_
 ·
  unfold SpecX
  intro dp un gd cn cs a ccd cl outer A₀ base h₀ L m news s Q E B F X N T hk hPre hd hu hret hraise
  refine sealG fun pS hS9 => ?_
  first | (refine and6 hPre ?_; clear hPre; intro hc79 hc89 hc99 hc109 hc119 hbn) | (obtain ⟨hc79, hc89, hc99, hc109, hc119, hbn⟩ := hPre)
  first | (refine and3 hc79 ?_; clear hc79; intro hc129 a3 a4) | (obtain ⟨hc129, a3, a4⟩ := hc79)
  obtain ⟨a1, a2⟩ := hc129
  first | (refine and3 hc89 ?_; clear hc89; intro b1 b2 b3) | (obtain ⟨b1, b2, b3⟩ := hc89)
  first | (refine and6 hc99 ?_; clear hc99; intro hc139 c3 c4 c5 c6 hps) | (obtain ⟨hc139, c3, c4, c5, c6, hps⟩ := hc99)
  obtain ⟨c1, c2⟩ := hc139
  first | (refine and6 hc109 ?_; clear hc109; intro hc149 d3 d4 d5 d6 d7) | (obtain ⟨hc149, d3, d4, d5, d6, d7⟩ := hc109)
  obtain ⟨d1, d2⟩ := hc149
  first | (refine and9 hc119 ?_; clear hc119; intro hc159 e3 e4 e5 hc169 e8 e9 e10 e11) | (obtain ⟨hc159, e3, e4, e5, hc169, e8, e9, e10, e11⟩ := hc119)
  refine sealG fun pS hS9 => ?_
  obtain ⟨e1, e2⟩ := hc159
  obtain ⟨e6, e7⟩ := hc169
  refine hS9 ?_
  clear hS9 pS
  refine hS9 ?_
  clear hS9 pS
  refine wpAny_call ?_
  k_dflt ktr_enter
  rename Fr h₀ L _ m => hFG9
  rename Below _ base (envX _ _ _ _ _ _ :: outer) _ => hB9
  have hl : ps.length ≤ 100 := by omega
  have hcon : ConAt W news (.ref cx) ps := ⟨cx, ncx, txx, _, rfl, c5, lx, nlx, vs, rfl, c6, hps⟩
  have hany := noDisc_any hnd
  k_steps
  rename SubNum _ _ _ _ ∧ _ => hP9
  refine ret_grown (news := news) (Post := fun news r => SubNum (above b news) r I (settled V ps) ∧ (∀ q ∈ settled V ps, 1 ≤ q.2 ∧ q.2 ≤ 5)) hret rfl (by k_asm) (by k_asm) (by (intro p9 hp9; k_mem)) (by (intro p9 hp9; simp only [List.mem_append, List.mem_cons] at hp9; (repeat' (with_reducible refine Or.elim hp9 (fun hp9 => ?_) (fun hp9 => ?_))); all_goals (first | (refine .inr fun q9 hq9 => ?_; exact (by assumption : ∀ q ∈ _, ∀ p ∈ _, @LT.lt Nat _ q.1 p.1) q9 (by simp only [List.mem_cons, List.mem_append, hq9, or_true]) _ hp9) | (with_reducible exact .inl hp9) | (subst hp9; refine .inr fun q9 hq9 => ?_; dsimp only; first | k_extra "q" | exact tb_ltOf (by tbn_find) q9 hq9 | k_extra "o")))) (fun FL' h => ⟨SubNum.mono (fun x hx => mem_above.mpr ⟨h x (mem_above.mp hx).1, Nat.lt_trans (by first | exact tb_ltOf (by tbn_find) (b, ob) hbn | exact (by assumption : ∀ p ∈ news, @LT.lt Nat _ p.1 _) (b, ob) hbn) (mem_above.mp hx).2⟩) hP9.1, hP9.2⟩)
 · intro T x h; refine dropT ?zB ?zA; simpa only using (h : DropP ?zA x); assumption
end
section
example : True := by
  w_top off
  trivial
variable {w : World} {p : Program} {loose : List Str} {mean : ExcName → Option Value} {mg mb : Str → Option Value}
open PyProof.Rows.LCg (NsObj Off3 Off1 lst ns_obj)
theorem funFrames_but {B h h' : Heap} {C : Addr} (k : ∀ b o, b ≠ C → h.get? b = some o → h'.get? b = some o) : ∀ {l : List Env}, h.FunFrames B l → (∀ env ∈ l, env.frame ≠ some C) → h'.FunFrames (hideAll B [C]) l
  | [], _, _ => trivial
  | _ :: _, h9, hl => by
    refine sealG fun pS hS9 => ?_
    obtain ⟨hk, ⟨L, o, hf, hn, ho, hd⟩, hr⟩ := h9
    refine hS9 ?_
    clear hS9 pS
    exact ⟨hk, ⟨L, o, hf, (by
      cases hq : (hideAll B [C]).get? L with
      | none => rfl
      | some o' => rw [of_hideAll _ hq] at hn; cases hn), k L o (fun e => hl _ List.mem_cons_self (by rw [hf, e])) ho, hd⟩, funFrames_but k hr fun env he => hl env (List.mem_cons_of_mem _ he)⟩
theorem flyingD_but {B h h' : Heap} {C : Addr} {l : List Env} {e K dx : Addr} {mC : Str → Option Value} (hfl : FlyingD B l e K dx h) (hC : h.Ns C mC) (k : ∀ b o, b ≠ C → h.get? b = some o → h'.get? b = some o) (hl : ∀ env ∈ l, env.frame ≠ some C) :
    FlyingD (hideAll B [C]) l e K dx h' := by
 refine @dropI _ ?_ ?_
 ·
  refine sealG fun pS hS9 => ?_
  obtain ⟨h1, h2, h3, fl, sl, vs, T, oT, ts, he, h5, hnT, hTe, hT, hdT, h6⟩ := hfl
  obtain ⟨oC, es, ep, gC, dC, _⟩ := hC
  refine hS9 ?_
  clear hS9 pS
  have hid : ∀ b, B.get? b = none → (hideAll B [C]).get? b = none := fun b hb => by
    cases hq : (hideAll B [C]).get? b with
    | none => rfl
    | some o' => rw [of_hideAll _ hq] at hb; cases hb
  have neC : ∀ b o, h.get? b = some o → (∃ vs, o.data = .fields vs) → b ≠ C := fun b o hb ⟨vs, hd⟩ q => by
    subst q; rw [gC] at hb; injection hb with hb; subst hb; rw [dC] at hd; cases hd
  refine ⟨fun b o q => k b o (fun e => ?_) (h1 b o (of_hideAll _ q)), hid _ h2, funFrames_but k h3 hl, fl, sl, vs, T, oT, ts, k _ _ (neC _ _ he ⟨_, rfl⟩) he, h5, hid _ hnT, hTe, k _ _ (neC _ _ hT ⟨_, hdT⟩) hT, hdT, h6⟩
  rw [e, hideAll_none _ List.mem_cons_self] at q
  cases q
 · intro T x h; refine dropT ?zB ?zA; simpa only using (h : DropP ?zA x); assumption
def RaiseE (base g : Heap) (l : List Env) (L : Addr) (m : Str → Option Value) (news : Led) (s : Shared) (C : Addr) (e : Value) (s' : Shared) : Prop :=
  ∃ x dx es n h' tk' mC, e = .ref x ∧ s' = { s with heap := h', toks := tk' } ∧ WordIs es ∧ (∀ q ∈ news, q.1 ≠ dx) ∧ RaisedA base l x 77 dx ((dx, dictOf es n) :: news) h' ∧ g.UpToSlots h' ∧ h'.Ns L m ∧ h'.Ns C mC ∧ C ≠ dx ∧ (∀ q ∈ news, q.1 ≠ C) ∧ g.get? C = none ∧ C ≠ L
theorem upTo_but {g h h' : Heap} {C : Addr} (U : g.UpToSlots h) (hC : g.get? C = none) (k : ∀ b o, b ≠ C → h.get? b = some o → h'.get? b = some o) : g.UpToSlots h' := fun b o hb hnf => by
  obtain ⟨sl, x⟩ := U b o hb hnf
  exact ⟨sl, k b _ (fun q => by rw [q, hC] at hb; cases hb) x⟩
theorem passes_raise {M : Model} {A A₀ : Around} {base g : Heap} {env : Env} {outer : List Env} {L : Addr} {m : Str → Option Value} {news : Led} {s : Shared} {scope : Scope} {cl : List (Str × Addr)} {E : Value → Shared → Prop}
    (K : Below A₀ base outer g) (hfr : A.frames = some (env :: outer)) (hf : env.frame = some L) (hr : RaiseK base (env :: outer) g L m news E s) : Passes M A env scope cl (RaiseE base g (env :: outer) L m news s) E := by
 refine @dropI _ ?_ ?_
 ·
  intro C e s' hR39
  refine sealG fun pS hS9 => ?_
  obtain ⟨x, dx, es, n, h', tk', mC, rfl, rfl, hw, hdx, ⟨B, hB, hl, hfl⟩, U, hm, hC, hCd, hCn, hCg, hCL⟩ := hR39
  refine hS9 ?_
  clear hS9 pS
  show wpAny M A (noteFrame (.ref x) env) _ _ _
  have hbC : base.get? C = none := by
    cases hq : base.get? C with
    | none => rfl
    | some o => rw [K.stays C o hq] at hCg; cases hCg
  have hfs : ∀ env' ∈ env :: outer, env'.frame ≠ some C := fun env' he q => by
    rcases List.mem_cons.mp he with rfl | he
    · rw [hf] at q; injection q with q; exact hCL q.symm
    · obtain ⟨_, o, ho, _⟩ := K.frames.mem (List.mem_filterMap.mpr ⟨env', he, q⟩)
      rw [hCg] at ho; cases ho
  refine noteD_fly hfr hf hfl fun h₁ fl₁ U₁ => ?_
  refine ⟨mC, U₁.ns hC, fun h₂ hs₂ cenv hc => ?_⟩
  have k : ∀ b o, b ≠ C → h₁.get? b = some o → h₂.get? b = some o := fun b o hb e => (hs₂.2 b hb).trans e
  refine passOnD (flyingD_but fl₁ (U₁.ns hC) k hfs) fun h₃ fl₃ U₃ => ?_
  have U₄ : g.UpToSlots h₂ := upTo_but (U.trans U₁) hCg k
  have n₂ : h₂.Ns L m := by
    refine sealG fun pS hS9 => ?_
    obtain ⟨o, es', ep, q, r⟩ := U₁.ns hm
    refine hS9 ?_
    clear hS9 pS
    exact ⟨o, es', ep, k _ _ (Ne.symm hCL) q, r⟩
  refine hr x dx es n h₃ tk' hw hdx ⟨hideAll B [C], fun b o q => hideAll_get _ (hB b o q) fun hm => ?_, fun q hq => ⟨hideAll_get _ (hl q hq).1 fun hm => ?_, (hl q hq).2⟩, fl₃⟩ (U₄.trans U₃) (U₃.ns n₂)
  · rw [List.mem_singleton.mp hm, hbC] at q
    cases q
  · have e := List.mem_singleton.mp hm
    rcases List.mem_cons.mp hq with rfl | hq
    · exact hCd e.symm
    · exact hCn q hq e
 · intro T x h; refine dropT ?zB ?zA; simpa only using (h : DropP ?zA x); assumption
theorem raiseK_body {M : Model} {A : Around} {E E' : Value → Shared → Prop} {s₀ s : Shared} {base g h₀ : Heap} {outer : List Env} {L Lc : Addr} {m mc : Str → Option Value} {env cenv : Env} {news led : Led}
    (K : Below A base (cenv :: outer) g) (FG : Fr h₀ Lc g mc) (hf : env.frame = some L) (hsub : ∀ q ∈ news, q ∈ led) (hs : ∀ h' tk', { s with heap := h', toks := tk' } = { s₀ with heap := h', toks := tk' }) (hr : RaiseK base (cenv :: outer) h₀ Lc mc news E s₀) :
    RaiseK base (env :: cenv :: outer) g L m led (fun e s' => wpAny M (A.deeper env) (leaving env e) (fun _ s'' => E e s'') E' s') s := by
  intro e dx es n h' tk' hw hdx R U hm
  exact raise_on K FG hf R U hw hdx hsub (hs h' tk') hr
theorem raiseE_at {base g : Heap} {l : List Env} {L C : Addr} {oC : Obj} {m mC : Str → Option Value} {news led : Led} {s s' : Shared} (hC : (C, oC) ∈ led) (hn : NsObj oC mC) (hg : g.get? C = none) (hL : C ≠ L) (hsub : ∀ q ∈ news, q ∈ led) (hne : ∀ q ∈ news, q.1 ≠ C)
    (hs : ∀ h' tk', { s' with heap := h', toks := tk' } = { s with heap := h', toks := tk' }) : RaiseK base l g L m led (RaiseE base g l L m news s C) s' := by
 refine @dropI _ ?_ ?_
 ·
  intro e dx es n h' tk' hw hdx R U hm
  have hCh : h'.get? C = some oC := R.at_ _ (List.mem_cons_of_mem _ hC)
  refine sealG fun pS hS9 => ?_
  obtain ⟨es', ep, x1, x2, x3⟩ := hn
  refine hS9 ?_
  clear hS9 pS
  exact ⟨e, dx, es, n, h', tk', mC, rfl, hs h' tk', hw, fun q hq => hdx q (hsub q hq), R.sub fun q hq => by
    rcases List.mem_cons.mp hq with rfl | hq
    · exact List.mem_cons_self
    · exact List.mem_cons_of_mem _ (hsub q hq), U, hm, ⟨oC, es', ep, hCh, x1, x2, x3⟩, hdx _ hC, hne, hg, hL⟩
 · intro T x h; refine dropT ?zB ?zA; simpa only using (h : DropP ?zA x); assumption
theorem comp_eval_raise {prog : Program} {w : World} {A : Around} {E E' : Value → Shared → Prop} {s₀ s : Shared} {base g h₀ : Heap} {outer : List Env} {L Lc : Addr} {m mc : Str → Option Value} {env cenv : Env} {news led : Led} {Bad : Prop}
    {elt target iter : Expr} {ifs : List Expr} {scope : Scope} {cl : List (Str × Addr)} {pos : Pos} {Q : Value → Shared → Prop} (K : Below A base (cenv :: outer) g) (FG : Fr h₀ Lc g mc) (hf : env.frame = some L) (F : Fr g L s.heap m) (_N : News g L s.heap led) (hsub : ∀ q ∈ news, q ∈ led) (hs' : ∀ h' tk', { s with heap := h', toks := tk' } = { s₀ with heap := h', toks := tk' })
    (hr : Bad → RaiseK base (cenv :: outer) h₀ Lc mc news E s₀) (Ok : Value → Led → Prop) (Bd : (Str → Option Value) → Value → Led → Prop)
    (hclos : closureFor scope env = pure cl) (hcell : ∀ y ∈ scope.names, y.2 ≠ .cell) (hkind : scope.kind = .function)
    (hnames : ∀ y ∈ scope.names, y.2 = .local → scope.names.lookup y.1 = some .local) (hB : Binds prog w (A.deeper env) env scope cl target Ok Bd)
    (h : ∀ E₁, (∀ C oC mC led' s', (C, oC) ∈ led' → NsObj oC mC → g.get? C = none → C ≠ L → (∀ q ∈ led, q ∈ led') → (∀ q ∈ led, q.1 ≠ C) → (∀ h' tk', { s' with heap := h', toks := tk' } = { s with heap := h', toks := tk' }) → Bad → RaiseK base (env :: cenv :: outer) g L m led' (E₁ C) s') →
      wpAny (model prog w) (A.deeper env) (eval iter env) (CompIn prog w (A.deeper env) g L m env elt ifs scope cl Ok Bd E₁ (fun s₂ ys news' D _ _ => ∀ h' tk', Fr g L h' m → News g L h' ((D, lst ys) :: news') → Q (.ref D) { s₂ with heap := h', toks := tk' })) (fun e s' => wpAny (model prog w) (A.deeper env) (leaving env e) (fun _ s'' => E e s'') E' s') s)
    (hs : ∀ x, foldedSetIterable iter env x = pure x := by intro _; rfl) :
    wpAny (model prog w) (A.deeper env) (eval (.ListComp elt [⟨target, iter, ifs, 0⟩] scope pos) env) Q (fun e s' => wpAny (model prog w) (A.deeper env) (leaving env e) (fun _ s'' => E e s'') E' s') s := by
 refine @dropI _ ?_ ?_
 ·
  refine comp_eval F Ok Bd (fun C e s' => Bad ∧ RaiseE base g (env :: cenv :: outer) L m led s C e s') hclos hcell hkind hnames hB (fun C e s' ⟨hb, he⟩ => ?_) (h _ fun C oC mC led' s' h1 h2 h3 h4 h5 h6 h7 hb => ?_) hs
  · exact passes_raise K (Around.frames_deeper K.stack) hf (raiseK_body K FG hf hsub hs' (hr hb)) C e s' he
  · intro e dx es n h' tk' hw hdx R U hm
    exact ⟨hb, raiseE_at h1 h2 h3 h4 h5 h6 h7 e dx es n h' tk' hw hdx R U hm⟩
 · intro T x h; refine dropT ?zB ?zA; simpa only using (h : DropP ?zA x); assumption
end
section
example : True := by
  w_top off
  trivial
theorem sR2.hR2 : True := trivial
open sR2
variable {w : World} {p : Program} {loose : List Str} {mean : ExcName → Option Value} {mg mb : Str → Option Value}
structure RowSpec (w : World) (p : Program) (loose : List Str) (mean : ExcName → Option Value) (mg mb : Str → Option Value) (R : Addr) (ρ : Type) where
  Pre : Led → Value → ρ → Prop
  Bad : ρ → Prop
  Post : Led → Value → Value → ρ → Prop
  preMono : ∀ {l l' : Led} {v : Value} {q : ρ}, (∀ x ∈ l, x ∈ l') → Pre l v q → Pre l' v q
  postMono : ∀ {l l' : Led} {v r : Value} {q : ρ}, (∀ x ∈ l, x ∈ l') → Post l v r q → Post l' v r q
  spec : ∀ (v : Value) (q : ρ) (b : Addr) (ob : Obj), SpecX w p loose mean mg mb 409 [.ref R, v] 28 (8 * 28) (fun news => Pre news v q ∧ (b, ob) ∈ news) (Bad q) (fun news r => Post (above b news) v r q)
variable {R : Addr} {ρ : Type}
inductive RowIn (RS : RowSpec w p loose mean mg mb R ρ) (news : Led) (v : Value) (q : ρ) : Prop
  | mk (a n nv sv : _) (c09 : v = .ref a) (c19 : (a, tupO [nv, sv, .none] n) ∈ news) (c29 : RS.Pre news sv q)
inductive RowOut (RS : RowSpec w p loose mean mg mb R ρ) (n0 l : Led) (v : Value) (q : Value × ρ) : Prop
  | mk (a n nv sv b k c : _) (c09 : v = .ref a) (c19 : (a, tupO [nv, sv, .none] n) ∈ l) (c29 : RS.Post l b sv q.2) (c39 : q.1 = .ref c) (c49 : (c, tupO [nv, b, .none] k) ∈ n0)
example : True := by
  k_with "callWith ref" =>
    (guard_expr hR2 = hR2)
    (k_here; k_dflt (first
      | refine' callWith_K (by first | ((k_asm); done) | fail "by") (by first | ((k_is); done) | fail "by") ?_; k_whole
      | refine' callWith_K0 (by first | ((k_in); done) | fail "by") (by first | ((k_is); done) | fail "by") ?_; k_whole))
  trivial
example : True := by
  k_with "call ref" =>
    (guard_expr hR2 = hR2)
    (k_here; k_dflt (first
    | (refine' specX_use ((RowSpec.spec ‹RowSpec _ _ _ _ _ _ _ _› _ _ _ _)) (by first | ((k_asm); done) | fail "by") (by first | ((k_asm); done) | fail "by") (by first | ((k_asm); done) | fail "by") (by first | ((k_asm); done) | fail "by") (by first | ((k_asm); done) | fail "by") (by first | ((first | exact rfl | assumption); done) | fail "by") (by first | ((assumption); done) | fail "by") (by first | ((ktr_room); done) | fail "by") (by first | ((ktr_units); done) | fail "by") ?_ (by first | ((assumption); done) | fail "by"); k_whole; intro r9ₖ tl9ₖ h9ₖ tk9ₖ F9ₖ N9ₖ l9ₖ hP9ₖ; (try dsimp only); (try k_fold))
      | (refine' call_cls0 (by first | ((k_asm); done) | fail "by") (by first | ((k_asm); done) | fail "by") (by first | ((k_asm); done) | fail "by") (by first | ((k_is); done) | fail "by") (by first | ((k_is); done) | fail "by") ?_; k_whole; intro x'ₖ d'ₖ h'ₖ F'ₖ N'ₖ l1ₖ l2ₖ; (try k_lt l1ₖ); (try k_lt2 l2ₖ); (try k_sweep))
      | (refine' call_cls (by first | ((k_asm); done) | fail "by") (by first | ((k_asm); done) | fail "by") (by first | ((k_asm); done) | fail "by") (by first | ((k_is); done) | fail "by") (by first | ((k_is); done) | fail "by") (by first | ((k_is); done) | fail "by") ?_; k_whole; intro x'ₖ d'ₖ h'ₖ F'ₖ N'ₖ l1ₖ l2ₖ; (try k_lt l1ₖ); (try k_lt2 l2ₖ); (try k_sweep); k_enter)
      | (refine wpAny_call ?_; k_enter)))
  trivial
example : True := by
  k_with "eval ListComp" =>
    (guard_expr hR2 = hR2)
    (k_here; refine stop_here ?_)
  trivial
theorem max_three {l : Led} {I C D : Addr} {oI oC oD : Obj} : ∃ b ob, (b, ob) ∈ (I, oI) :: (C, oC) :: (D, oD) :: l ∧ @LE.le Nat _ I b ∧ @LE.le Nat _ C b ∧ @LE.le Nat _ D b := by
 refine @dropI _ ?_ ?_
 ·
  by_cases h1 : @LE.le Nat _ I C
  · by_cases h2 : @LE.le Nat _ C D
    · exact ⟨D, oD, by simp, Nat.le_trans h1 h2, h2, Nat.le_refl _⟩
    · exact ⟨C, oC, by simp, h1, Nat.le_refl _, Nat.le_of_not_le h2⟩
  · by_cases h2 : @LE.le Nat _ I D
    · exact ⟨D, oD, by simp, h2, Nat.le_trans (Nat.le_of_not_le h1) h2, Nat.le_refl _⟩
    · exact ⟨I, oI, by simp, Nat.le_refl _, Nat.le_of_not_le h1, Nat.le_of_not_le h2⟩
 · intro T x h; refine dropT ?zB ?zA; simpa only using (h : DropP ?zA x); assumption
theorem zip_at {α β : Type} {l : List α} : ∀ {m : List β} {i : Nat} {a : α} {b : β}, l[i]? = some a → m[i]? = some b → (l.zip m)[i]? = some (a, b) := by
 refine @dropI _ ?_ ?_
 ·
  induction l with
  | nil => intro m i a b h1; exact nomatch h1
  | cons x l ih => intro m i a b h1 h2; cases m with
    | nil => exact nomatch h2
    | cons y m => cases i with
      | zero => cases h1; cases h2; rfl
      | succ i => exact ih h1 h2
 · intro T x h; refine dropT ?zB ?zA; simpa only using (h : DropP ?zA x); assumption
theorem RowOut.mono {RS : RowSpec w p loose mean mg mb R ρ} {n0 l l' : Led} {v : Value} {q : Value × ρ} (hs : ∀ x ∈ l, x ∈ l') (h : RowOut RS n0 l v q) : RowOut RS n0 l' v q :=
  by obtain ⟨a, n, nv, sv, b, k, c, e, m1, m2, e2, m3⟩ := h; exact ⟨a, n, nv, sv, b, k, c, e, hs _ m1, RS.postMono hs m2, e2, m3⟩
theorem settled_rows (RS : RowSpec w p loose mean mg mb R ρ) (n0 : Led) (lr b0 : Addr) (ob0 : Obj) (vs : List Value) (n : Nat) (qs : List ρ) (hsz : qs.length ≤ 100) :
    SpecX w p loose mean mg mb 419 [.ref R, .ref lr] 32 (8 * 32) (fun news => (lr, lstO vs n) ∈ news ∧ All2 (RowIn RS n0) vs qs ∧ (∀ x ∈ n0, x ∈ news) ∧ (b0, ob0) ∈ news) (∃ q ∈ qs, RS.Bad q) (fun news r => ∃ l k ys, r = .ref l ∧ (l, lstO ys k) ∈ above b0 news ∧ All2 (RowOut RS n0 (above b0 news)) ys (vs.zip qs)) := by
 refine @dropI _ ?_ ?_
 ·
  unfold SpecX
  intro dp un gd cn cs a ccd cl outer A₀ base h₀ L m news s Q E B F X N T hk hPre hd hu hret hraise
  refine sealG fun pS hS9 => ?_
  first | (refine and4 hPre ?_; clear hPre; intro h1 h2 hn0 hb0) | (obtain ⟨h1, h2, hn0, hb0⟩ := hPre)
  refine hS9 ?_
  clear hS9 pS
  refine wpAny_call ?_
  k_dflt (refine' code_defC ?k1 ?k2 ?k3 ?k4 ?k5 ?kA ?kF ?kK ?k6 ?k7 ?k8 ?k9 ?kB ?kD ?_ ?c2 ?c3 ?c4; (case kA => exact rfl); (case kF => exact rfl); (case kK => assumption); (case k1 => k_asm); (case k2 => k_asm); (case k3 => k_asm); (case k4 => k_asm); (case k5 => k_asm); (case k6 => k_is); (case k7 => k_is); (case k8 => ktr_room); (case k9 => exact BindsTo.of_eq rfl); (case kB => exact rfl); (case kD => decide +kernel); (case c2 => exact rfl); (case c3 => exact rfl); (case c4 => exact rfl); k_whole; intro g' L' h' tk' cells' FG' F' N' Y' B' X' T' l1; (try k_lt l1); k_cells Y'; (try simp only [List.cons_append, List.nil_append] at N'); (try dsimp only); (try k_lift B'); (try k_fold))
  rename Fr h₀ L _ m => hFG9
  rename Below _ base (envX _ _ _ _ _ _ :: outer) _ => hB9
  k_steps
  unfold Stopped
  refine' comp_eval_raise (led := _ :: news) (news := news) hB9 hFG9 rfl ?cF ?cN ?csub ?chs hraise _ _ ?cclos ?ccell ?ckind ?cnm ?cB ?_ ; (case cF => k_asm); (case cN => k_asm); (case csub => exact fun q hq => List.mem_cons_of_mem _ hq); (case chs => exact fun _ _ => rfl); (case cclos => with_unfolding_all rfl); (case ccell => decide); (case ckind => rfl); (case cnm => decide); (case cB => refine' binds_three ?b1 ?b2 ?b3 ?b4 ?b5 ?b6 ?b7 ?b8; (case b1 => rfl); (case b2 => rfl); (case b3 => rfl); (case b4 => rfl); (case b5 => rfl); (case b6 => decide); (case b7 => decide); (case b8 => decide))
  intro E₁ hE₁
  k_steps
  refine CompIn.intro (fun i ys news' => ys.length = i ∧ All2 (RowOut RS n0 (above b0 news')) ys ((vs.zip qs).take i)) (by rfl) (by k_asm) (by k_asm) (.inl (by k_mem)) (by have := h2.length; rw [sizeLine_eq]; omega) ⟨rfl, .nil⟩ (fun i ys _ h => Nat.le_of_eq h.1) ?_ ?_ ?_
  · intro v hv news' hsub
    refine sealG fun pS hS9 => ?_
    obtain ⟨j, hj⟩ := List.getElem?_of_mem hv
    obtain ⟨q, _, a, n, nv, sv, rfl, hm, _⟩ := h2.get hj
    refine hS9 ?_
    clear hS9 pS
    exact ⟨_, _, _, a, n, rfl, hsub _ (List.mem_cons_of_mem _ (hn0 _ hm))⟩
  · intro g8 i v ys news' I8 oI C8 oC D8 m₂ h8 tk8 hi hJ hsub hlt hC hB F8 N8 o8 d8
    refine sealG fun pS hS9 => ?_
    obtain ⟨q, hqi, a, n, nv, sv, rfl, hm0, hpre0⟩ := h2.get hi
    refine hS9 ?_
    clear hS9 pS
    have hm := hn0 _ hm0
    have hpre := RS.preMono hn0 hpre0
    refine sealG fun pS hS9 => ?_
    obtain ⟨x1, x2, x3, ⟨ax', n', e9, hm'⟩, y1, y2, y3⟩ := hB
    refine hS9 ?_
    clear hS9 pS
    cases e9
    have w1 : ∀ p ∈ news, p ∈ news' := fun p hp => hsub p (List.mem_cons_of_mem _ hp)
    have e10 := (N8 _ (List.mem_cons_of_mem _ (List.mem_cons_of_mem _ (List.mem_cons_of_mem _ hm')))).1.symm.trans (N8 _ (List.mem_cons_of_mem _ (List.mem_cons_of_mem _ (List.mem_cons_of_mem _ (w1 _ hm))))).1
    obtain ⟨rfl, rfl, rfl⟩ : x1 = nv ∧ x2 = sv ∧ x3 = .none := by simpa using tup_inj e10
    have w0 := hsub _ List.mem_cons_self
    have hNC := N8 (C8, oC) (List.mem_cons_of_mem _ List.mem_cons_self)
    have hRE := hE₁ C8 oC m₂ ((I8, oI) :: (C8, oC) :: (D8, PyProof.Rows.LCg.lst ys) :: news') _ (List.mem_cons_of_mem _ List.mem_cons_self) hC hNC.2.2 hNC.2.1 (fun p hp => List.mem_cons_of_mem _ (List.mem_cons_of_mem _ (List.mem_cons_of_mem _ (hsub p hp)))) (fun p hp => (o8.mem p (hsub p hp)).2.1) (fun _ _ => rfl)
    have hRF := fun hb : RS.Bad q => hRE ⟨q, List.mem_of_getElem? hqi, hb⟩
    refine sealG fun pS hS9 => ?_
    obtain ⟨b9, ob9, hb9, hbI, hbC, hbD⟩ := max_three (l := news') (I := I8) (C := C8) (D := D8) (oI := oI) (oC := oC) (oD := PyProof.Rows.LCg.lst ys)
    refine hS9 ?_
    clear hS9 pS
    have hp' : RS.Pre ((I8, oI) :: (C8, oC) :: (D8, PyProof.Rows.LCg.lst ys) :: news') x2 q ∧ (b9, ob9) ∈ (I8, oI) :: (C8, oC) :: (D8, PyProof.Rows.LCg.lst ys) :: news' := ⟨RS.preMono (fun p hp => List.mem_cons_of_mem _ (List.mem_cons_of_mem _ (List.mem_cons_of_mem _ (w1 p hp)))) hpre, hb9⟩
    rw [List.forIn_nil]
    refine wpAny_pure ?_
    rw [if_pos rfl]
    k_steps
    rename RS.Post _ _ _ _ => hP9
    rename ∀ q ∈ (I8, oI) :: (C8, oC) :: (D8, PyProof.Rows.LCg.lst ys) :: news', ∀ p ∈ _, _ => l9
    rename AllLt _ (_ ++ (I8, oI) :: (C8, oC) :: (D8, PyProof.Rows.LCg.lst ys) :: news') => l10
    replace l10 := tb_ltOf l10
    rename News g' L' _ (_ :: (_ ++ (I8, oI) :: _)) => N10
    refine turn_more (news' := news') (_ :: _) rfl (by k_asm) N10 ?_ o8 ⟨by rw [List.length_append, hJ.1]; rfl, ?_⟩
    · intro p hp
      rcases List.mem_cons.mp hp with rfl | hp
      · exact ⟨l10 _ (List.mem_append_right _ List.mem_cons_self), l10 _ (List.mem_append_right _ (List.mem_cons_of_mem _ List.mem_cons_self)), l10 _ (List.mem_append_right _ (List.mem_cons_of_mem _ (List.mem_cons_of_mem _ List.mem_cons_self)))⟩
      · exact ⟨l9 _ List.mem_cons_self p hp, l9 _ (List.mem_cons_of_mem _ List.mem_cons_self) p hp, l9 _ (List.mem_cons_of_mem _ (List.mem_cons_of_mem _ List.mem_cons_self)) p hp⟩
    · rw [take_snoc (zip_at hi hqi)]
      refine (hJ.2.imp fun _ _ h => RowOut.mono (above_sub fun p hp => List.mem_append_right _ hp) h).snoc ⟨_, _, _, _, _, _, _, rfl, mem_above.mpr ⟨List.mem_append_left _ List.mem_cons_self, ?_⟩, RS.postMono (fun x hx => ?_) hP9, rfl, hm0⟩
      · exact Nat.lt_trans (hlt _ (List.mem_cons_of_mem _ hb0)) (l10 _ (List.mem_append_right _ (List.mem_cons_of_mem _ (List.mem_cons_of_mem _ List.mem_cons_self))))
      obtain ⟨hx, hbx⟩ := mem_above.mp hx
      refine mem_above.mpr ⟨?_, Nat.lt_trans (Nat.lt_of_lt_of_le (hlt _ (List.mem_cons_of_mem _ hb0)) hbD) hbx⟩
      rcases List.mem_append.mp hx with hx | hx
      · exact List.mem_append_left _ (List.mem_cons_of_mem _ hx)
      · rcases List.mem_cons.mp hx with rfl | hx
        · exact absurd hbI (Nat.not_le.mpr hbx)
        · rcases List.mem_cons.mp hx with rfl | hx
          · exact absurd hbC (Nat.not_le.mpr hbx)
          · rcases List.mem_cons.mp hx with rfl | hx
            · exact absurd hbD (Nat.not_le.mpr hbx)
            · exact List.mem_append_right _ hx
  · intro g8 D8 h8 tk8 ys news' N8 o8 hsub hlt hord hJ h7 tk7 F9 N9
    have w1 : ∀ p ∈ news, p ∈ news' := fun p hp => hsub p (List.mem_cons_of_mem _ hp)
    k_steps
    refine ret_grown (news := news) (Post := fun news r => ∃ l k ys, r = .ref l ∧ (l, lstO ys k) ∈ above b0 news ∧ All2 (RowOut RS n0 (above b0 news)) ys (vs.zip qs)) hret rfl (by k_asm) (by k_asm) ?_ ?_ ?_
    · intro p hp
      have h8 := w1 p hp; k_mem
    · intro p hp
      have hD : ∀ q ∈ news, @LT.lt Nat _ q.1 D8 := fun q hq => hlt q (List.mem_cons_of_mem _ hq)
      rcases List.mem_cons.mp hp with rfl | hp
      · exact .inr hD
      · rcases hord p hp with h | h
        · rcases List.mem_cons.mp h with rfl | h
          · exact .inr fun q hq => Nat.lt_succ_of_lt (tb_ltOf l1 q hq)
          · exact .inl h
        · exact .inr fun q hq => Nat.lt_trans (hD q hq) h
    · intro FL' hFL
      refine ⟨D8, ys.length, ys, rfl, mem_above.mpr ⟨hFL _ List.mem_cons_self, hlt _ (List.mem_cons_of_mem _ hb0)⟩, ?_⟩
      have := hJ.2
      rw [List.take_of_length_le (by rw [List.length_zip]; omega)] at this
      exact this.imp fun _ _ h => RowOut.mono (above_sub fun p hp => hFL p (List.mem_cons_of_mem _ hp)) h
 · intro T x h; refine dropT ?zB ?zA; simpa only using (h : DropP ?zA x); assumption
end
section
example : True := by
  w_top off
  trivial
theorem sW1.hW1 : True := trivial
open sW1
variable {w : World} {p : Program} {loose : List Str} {mean : ExcName → Option Value} {mg mb : Str → Option Value}
abbrev RowSubW (W dW : Addr) (esW : List DictEntry) (nW : Nat) (news : Led) (Sx dSx I cx lx : Addr) (esx : List DictEntry) (nx ncx nlx : Nat) (txx : Tok) (vs : List Value) (ps : List (Str × Part)) : Prop :=
  Inst news Sx 222 dSx esx nx ∧ getL "type" esx = some (some (.ref I)) ∧ getL "constraint" esx = some (some (.ref cx)) ∧ (cx, tupO [.str "discs" txx, .ref lx] ncx) ∈ news ∧ (lx, lstO vs nlx) ∈ news ∧ All2 (PairAt W news) vs ps ∧ Inst news W 201 dW esW nW
def KindIs (news : Led) (v : Value) : Bool → Prop
  | true => ∃ a vs n, v = .ref a ∧ (a, tupO vs n) ∈ news
  | false => (∃ i t, v = .int i t) ∨ (∃ x t, v = .str x t)
def Part.isTup : Part → Bool
  | .num _ => false
  | _ => true
theorem part_kind {W : Addr} {news : Led} {v : Value} {x : Part} (h : PartAt W news v x) : KindIs news v x.isTup := by
 refine @dropI _ ?_ ?_
 ·
  cases x with
  | num _ => obtain ⟨t, e⟩ := h; exact .inl ⟨_, t, e⟩
  | obj => obtain ⟨a, n, _, _, _, e, h⟩ := h; exact ⟨a, _, n, e, h⟩
  | disc => obtain ⟨a, n, _, _, e, h⟩ := h; exact ⟨a, _, n, e, h⟩
 · intro T x h; refine dropT ?zB ?zA; simpa only using (h : DropP ?zA x); assumption
theorem All2.append {α β : Type} {R : α → β → Prop} {a b : List α} {c d : List β} (h : All2 R a c) (h' : All2 R b d) : All2 R (a ++ b) (c ++ d) := by
  induction h with
  | nil => exact h'
  | cons x _ ih => exact .cons x ih
theorem pairs_kinds {W : Addr} {news : Led} {vs : List Value} {ps : List (Str × Part)} (h : All2 (PairAt W news) vs ps) :
    ∃ vss : List (List Value), All2 (fun v its => TupIn v its news) vs vss ∧ All2 (KindIs news) vss.flatten (ps.flatMap fun q => [false, q.2.isTup]) ∧ vss.flatten.length = 2 * ps.length := by
 refine @dropI _ ?_ ?_
 ·
  induction h with
  | nil => exact ⟨[], .nil, .nil, rfl⟩
  | cons x _ ih =>
    refine sealG fun pS hS9 => ?_
    obtain ⟨vss, h1, h2, h3⟩ := ih
    obtain ⟨a, n, t, pv, e, hm, hp⟩ := x
    refine hS9 ?_
    clear hS9 pS
    exact ⟨[.str _ t, pv] :: vss, .cons ⟨a, n, e, hm⟩ h1, (All2.append (.cons (.inr ⟨_, _, rfl⟩) (.cons (part_kind hp) .nil)) h2), by simp [h3]; omega⟩
 · intro T x h; refine dropT ?zB ?zA; simpa only using (h : DropP ?zA x); assumption
theorem any_tups (ps : List (Str × Part)) : (ps.flatMap fun q => [false, q.2.isTup]).any id = ps.any fun q => q.2.isTup := by
  induction ps with
  | nil => rfl
  | cons q r ih => simp [ih]
theorem eq_empty {prog : Program} {w : World} {A : Around} {E : Value → Shared → Prop} {s : Shared} {D e : Addr} {vs : List Value} {Q : Value → Shared → Prop} (hD : s.heap.IsList D vs.toArray) (he : s.heap.IsList e #[]) (hu : A.units < cLine) (h : Q (.bool vs.isEmpty) s) :
    wpAny (model prog w) A (compareOp .Eq (.ref D) (.ref e)) Q E s := by
 refine @dropI _ ?_ ?_
 ·
  cases vs with
  | nil => exact SeqAt.RcAt.lists (e := fun _ => true) hD he rfl hu (fun j h1 _ => absurd h1 (by simp)) prog w E Q (by simpa using h)
  | cons v r => exact SeqAt.RcAt.lists_lengths hD he (by simp) hu prog w E Q (by simpa using h)
 · intro T x h; refine dropT ?zB ?zA; simpa only using (h : DropP ?zA x); assumption
theorem slice_from {prog : Program} {w : World} {A : Around} {E : Value → Shared → Prop} {s : Shared} {h₀ : Heap} {L t : Addr} {m : Str → Option Value} {news : Led} {value slice : Expr} {vs : List Value} {n : Nat} {x : Int} {u : Tok} {Q : Value → Shared → Prop}
    (F : Fr h₀ L s.heap m) (N : News h₀ L s.heap news) (hm : (t, tupO vs n) ∈ news) (h1 : 1 ≤ x) (ha : x.toNat ≤ vs.length)
    (h : ∀ D h', Fr h₀ L h' m → News h₀ L h' ((D, tupO (vs.drop x.toNat)) :: news) → (∀ p ∈ news, @LT.lt Nat _ p.1 D) → Q (.ref D) { s with heap := h' })
    (hs : subscripted slice false (.ref t) (.ref s.heap.objs.size) = operate [.ref s.heap.objs.size, .ref t] (getItem (.ref t) (.ref s.heap.objs.size)))
    (hg : ∀ r, letTemporaryGo value (.ref t) r = pure ()) (hsz : vs.length ≤ sizeLine) :
    wpAny (model prog w) A (subscriptTail value slice (.ref t) (.ref s.heap.objs.size)) Q E { s with heap := s.heap.push { cls := .type "slice", data := .fields #[.int x u, .none, .none] } } := by
 refine @dropI _ ?_ ?_
 ·
  obtain ⟨a, rfl⟩ : ∃ a : Nat, x = (a : Int) := ⟨x.toNat, by omega⟩
  exact slice_tuple_from F N ⟨_, (N _ hm).1, rfl, n, rfl⟩ (by omega) (by simpa using ha) (fun h' F' N' => h _ h' F' (by simpa using N') fun p hp => Nat.lt_succ_of_lt (Heap.lt_size (N p hp).1)) hs hg (by simpa using hsz)
 · intro T x h; refine dropT ?zB ?zA; simpa only using (h : DropP ?zA x); assumption
theorem empty_of {ys : List Value} {b : Bool} (h : ys = [] ↔ b = false) : ys.isEmpty = !b := by cases b <;> cases ys <;> simp_all
theorem any_more {rs : List Bool} {i : Nat} {b : Bool} (h : rs[i]? = some b) : (rs.take (i + 1)).any id = ((rs.take i).any id || b) := by
  rw [List.take_add_one, List.any_append, h]; simp
example : True := by
  k_with "compareOp Eq ref ref" =>
    (guard_expr hW1 = hW1)
    (k_here; k_dflt (refine' eq_empty (by first | ((exact ⟨_, (News.get (by k_asm) (by k_mem)), rfl, _, rfl⟩); done) | fail "by") (by first | ((exact ⟨_, (News.get (by k_asm) (by k_mem)), rfl, _, rfl⟩); done) | fail "by") (by first | ((ktr_units); done) | fail "by") ?_))
  trivial
example : True := by
  k_with "callWith ref" =>
    (guard_expr hW1 = hW1)
    (k_here; k_dflt (first
      | refine' callWith_K (by first | ((k_asm); done) | fail "by") (by first | ((k_is); done) | fail "by") ?_; k_whole
      | refine' callWith_K0 (by first | ((k_in); done) | fail "by") (by first | ((k_is); done) | fail "by") ?_; k_whole))
  trivial
example : True := by
  k_with "call ref" =>
    (guard_expr hW1 = hW1)
    (k_here; k_dflt (first
    | (guard_target =~ wpAny _ _ (call (Value.ref 402) _) _ _ _; (refine' specV_useE (hangs_range _ _ _ _ _ _ _) (by first | ((k_asm); done) | fail "by") (by first | ((k_asm); done) | fail "by") (by first | ((k_asm); done) | fail "by") (by first | ((k_asm); done) | fail "by") (by first | ((k_asm); done) | fail "by") (by first | ((first | exact rfl | assumption); done) | fail "by") (by first | (((repeat' (first | exact trivial | k_mem | assumption | exact rfl | k_dflt k_get | refine And.intro ?_ ?_ | omega))); done) | fail "by") (by first | ((ktr_room); done) | fail "by") (by first | ((ktr_units); done) | fail "by") ?_; k_whole; intro h9ₖ tk9ₖ F9ₖ N9ₖ; (try dsimp only); (try k_fold)))
      | (guard_target =~ wpAny _ _ (call (Value.ref 402) _) _ _ _; (refine' specV_useE (hangs_con _ _ _ _ _ _ (by assumption)) (by first | ((k_asm); done) | fail "by") (by first | ((k_asm); done) | fail "by") (by first | ((k_asm); done) | fail "by") (by first | ((k_asm); done) | fail "by") (by first | ((k_asm); done) | fail "by") (by first | ((first | exact rfl | assumption); done) | fail "by") (by first | (((repeat' (first | exact trivial | k_mem | assumption | exact rfl | k_dflt k_get | refine And.intro ?_ ?_ | omega))); done) | fail "by") (by first | ((ktr_room); done) | fail "by") (by first | ((ktr_units); done) | fail "by") ?_; k_whole; intro h9ₖ tk9ₖ F9ₖ N9ₖ; (try dsimp only); (try k_fold)))
      | (refine' call_cls0 (by first | ((k_asm); done) | fail "by") (by first | ((k_asm); done) | fail "by") (by first | ((k_asm); done) | fail "by") (by first | ((k_is); done) | fail "by") (by first | ((k_is); done) | fail "by") ?_; k_whole; intro x'ₖ d'ₖ h'ₖ F'ₖ N'ₖ l1ₖ l2ₖ; (try k_lt l1ₖ); (try k_lt2 l2ₖ); (try k_sweep))
      | (refine' call_cls (by first | ((k_asm); done) | fail "by") (by first | ((k_asm); done) | fail "by") (by first | ((k_asm); done) | fail "by") (by first | ((k_is); done) | fail "by") (by first | ((k_is); done) | fail "by") (by first | ((k_is); done) | fail "by") ?_; k_whole; intro x'ₖ d'ₖ h'ₖ F'ₖ N'ₖ l1ₖ l2ₖ; (try k_lt l1ₖ); (try k_lt2 l2ₖ); (try k_sweep); k_enter)
      | (refine wpAny_call ?_; k_enter)))
  trivial
example : True := by
  k_with "eval ListComp" =>
    (guard_expr hW1 = hW1)
    (k_here; refine stop_here ?_)
  trivial
example : True := by
  k_with "subscriptTail Name Slice ref ref" =>
    (guard_expr hW1 = hW1)
    (k_here; refine stop_here ?_)
  trivial
theorem worked_disc (W dW Sx dSx I cx lx : Addr) (esW esx : List DictEntry) (nW nx ncx nlx : Nat) (txx : Tok) (vs : List Value) (ps : List (Str × Part)) (hps : ps.length ≤ 2) (hd : (ps.any fun q => q.2.isDisc) = true) :
    SpecV w p loose mean mg mb 431 [.ref Sx] 10 (8 * 10) (fun news => RowSubW W dW esW nW news Sx dSx I cx lx esx nx ncx nlx txx vs ps) (fun r => r = .bool true) := by
 refine @dropI _ ?_ ?_
 ·
  unfold SpecV
  intro dp un gd cn cs a ccd cl outer A₀ base h₀ L m news s Q E B F X N T hk hPre hd hu hret
  refine sealG fun pS hS9 => ?_
  first | (refine and8 hPre ?_; clear hPre; intro hc19 c3 c4 c5 c6 hps2 d1 d2) | (obtain ⟨hc19, c3, c4, c5, c6, hps2, d1, d2⟩ := hPre)
  obtain ⟨c1, c2⟩ := hc19
  refine hS9 ?_
  clear hS9 pS
  refine wpAny_call ?_
  k_dflt ktr_enter
  have hcon : ConAt W news (.ref cx) ps := ⟨cx, ncx, txx, _, rfl, c5, lx, nlx, vs, rfl, c6, hps2⟩
  k_steps
  all_goals (first | (refine hret _ _ _ (by k_asm) (news_sub (by k_asm) (by intro p9 h9; k_mem)) ?_; first | rfl | exact ⟨_, rfl⟩))
 · intro T x h; refine dropT ?zB ?zA; simpa only using (h : DropP ?zA x); assumption
theorem worked_num (W dW Sx dSx I cx lx : Addr) (esW esx : List DictEntry) (nW nx ncx nlx : Nat) (txx : Tok) (vs : List Value) (ps : List (Str × Part)) (hps : ps.length ≤ 2) (hd : (ps.any fun q => q.2.isDisc) = false) :
    SpecV w p loose mean mg mb 431 [.ref Sx] 10 (8 * 10) (fun news => RowSubW W dW esW nW news Sx dSx I cx lx esx nx ncx nlx txx vs ps) (fun r => r = .bool (!(ps.any fun q => q.2.isTup))) := by
 refine @dropI _ ?_ ?_
 ·
  unfold SpecV
  intro dp un gd cn cs a ccd cl outer A₀ base h₀ L m news s Q E B F X N T hk hPre hd hu hret
  refine sealG fun pS hS9 => ?_
  first | (refine and8 hPre ?_; clear hPre; intro hc29 c3 c4 c5 c6 hps2 d1 d2) | (obtain ⟨hc29, c3, c4, c5, c6, hps2, d1, d2⟩ := hPre)
  obtain ⟨c1, c2⟩ := hc29
  refine hS9 ?_
  clear hS9 pS
  refine wpAny_call ?_
  k_dflt ktr_enter
  have hcon : ConAt W news (.ref cx) ps := ⟨cx, ncx, txx, _, rfl, c5, lx, nlx, vs, rfl, c6, hps2⟩
  refine sealG fun pS hS9 => ?_
  obtain ⟨vss, hv1, hv2, hv3⟩ := pairs_kinds hps2
  refine hS9 ?_
  clear hS9 pS
  k_steps
  unfold Stopped
  k_dflt (refine' comp_two ?cF ?cclos ?ccell ?ckind ?cnm ?cx ?cy ?cmark ?chh ?cdx ?cdy ?_ ?chs; (case cF => k_asm); (case chs => intro _; rfl); (case cclos => with_unfolding_all rfl); (case ccell => decide); (case ckind => rfl); (case cnm => decide); (case cx => rfl); (case cy => rfl); (case cmark => rfl); (case chh => rfl); (case cdx => decide); (case cdy => decide))
  k_steps
  refine ⟨_, vs, nlx, vss, _, rfl, (by k_asm), (by k_asm), c6, ?_, ?_, hv1, ?_⟩
  · have := hps2.length; rw [sizeLine_eq]; omega
  · rw [sizeLine_eq]; omega
  intro D h7 tk7 F9 N9 hlt
  k_steps
  unfold Stopped
  (k_here; k_dflt (refine comp_eval (by k_asm) _ _ (fun _ _ _ => False) (by with_unfolding_all rfl) (by decide) (by rfl) (by decide) (binds_name (by rfl) (by rfl)) Passes.never ?_))
  k_steps
  refine CompIn.intro (fun i ys _ => ys.length ≤ i ∧ (ys = [] ↔ ((ps.flatMap fun q => [false, q.2.isTup]).take i).any id = false)) (by rfl) (by k_asm) (by k_asm) (.inl (by k_mem)) (by rw [hv3, sizeLine_eq]; omega) ⟨Nat.le_refl _, by simp⟩ (fun i ys _ h => h.1) (fun _ _ _ _ => trivial) ?_ ?_
  · intro g8 i v ys news' I8 oI C8 oC D8 m₂ h8 tk8 hi hJ hsub hlt hC hB F8 N8 o8 d8
    obtain ⟨b9, hb9, hk9⟩ := All2.get hv2 hi
    have hst := any_more hb9
    cases b9
    · rcases hk9 with ⟨z, tz, rfl⟩ | ⟨z, tz, rfl⟩
      all_goals (refine wpAny_tests_one ?_; k_steps)
      all_goals (first | (exact ⟨_, _, _, rfl, by k_asm, news_sub (by k_asm) (by intro p9 h9; first | k_mem | (simp only [List.mem_cons] at h9 ⊢; simp only [h9, or_true])), by assumption, fun _ h => h, fun _ h => .inl h, (by first | exact filt_no hJ hst rfl | exact filt_yes hJ hst rfl)⟩))
    · obtain ⟨a9, vs9, n9, rfl, hm9⟩ := hk9
      have w9 := hsub _ (by k_mem : (a9, tupO vs9 n9) ∈ _)
      refine wpAny_tests_one ?_
      k_steps
      all_goals (first | (exact ⟨_, _, _, rfl, by k_asm, news_sub (by k_asm) (by intro p9 h9; first | k_mem | (simp only [List.mem_cons] at h9 ⊢; simp only [h9, or_true])), by assumption, fun _ h => h, fun _ h => .inl h, (by first | exact filt_no hJ hst rfl | exact filt_yes hJ hst rfl)⟩))
  · intro g8 D8 h8 tk8 ys news' N8 o8 hsub hlt hord hJ h7 tk7 F9 N9
    k_steps
    have e9 := All2.length hv2
    have hq : ys = [] ↔ ((ps.flatMap fun q => [false, q.2.isTup]).take (ps.flatMap fun q => [false, q.2.isTup]).length).any id = false := by rw [← e9]; exact hJ.2
    rw [List.take_length] at hq
    k_steps
    refine hret _ _ _ (by k_asm) (news_sub (by k_asm) (by intro p9 h9; have h8 := hsub p9 (by k_mem); k_mem)) ?_
    (try rw [any_tups] at hq)
    exact congrArg Value.bool (empty_of hq)
 · intro T x h; refine dropT ?zB ?zA; simpa only using (h : DropP ?zA x); assumption
theorem worked_few (S dS c : Addr) (esS : List DictEntry) (nS nc : Nat) (t1 t2 t3 : Tok) :
    SpecV w p loose mean mg mb 431 [.ref S] 10 (8 * 10) (fun news => Inst news S 222 dS esS nS ∧ getL "constraint" esS = some (some (.ref c)) ∧ (c, tupO [.str "range" t1, .int 1 t2, .int 5 t3] nc) ∈ news) (fun r => r = .bool true) := by
 refine @dropI _ ?_ ?_
 ·
  unfold SpecV
  intro dp un gd cn cs a ccd cl outer A₀ base h₀ L m news s Q E B F X N T hk hPre hd hu hret
  refine sealG fun pS hS9 => ?_
  first | (refine and3 hPre ?_; clear hPre; intro hc39 c3 c4) | (obtain ⟨hc39, c3, c4⟩ := hPre)
  obtain ⟨c1, c2⟩ := hc39
  refine hS9 ?_
  clear hS9 pS
  refine wpAny_call ?_
  k_dflt ktr_enter
  k_steps
  unfold Stopped
  (k_dflt (refine' slice_from ?sF ?sN ?sl ?sp ?sq ?_ ?ss ?st ?sz; (case sF => k_asm); (case sN => k_asm); (case sl => k_mem); (case sp => decide); (case sq => exact Nat.le_of_ble_eq_true rfl); (case ss => with_unfolding_all rfl); (case st => intro _; with_unfolding_all rfl); (case sz => exact Nat.le_of_ble_eq_true rfl)); intro D' h' F' N' l1; (try k_lt l1); (try simp only [Int.reduceToNat, List.drop_succ_cons, List.drop_zero]))
  k_steps
  (k_here; k_dflt (refine comp_eval (by k_asm) _ _ (fun _ _ _ => False) (by with_unfolding_all rfl) (by decide) (by rfl) (by decide) (binds_name (by rfl) (by rfl)) Passes.never ?_))
  k_steps
  have hv2 : All2 (KindIs news) [.int 1 t2, .int 5 t3] [false, false] := .cons (.inl ⟨_, _, rfl⟩) (.cons (.inl ⟨_, _, rfl⟩) .nil)
  refine CompIn.intro (fun i ys _ => ys.length ≤ i ∧ (ys = [] ↔ ([false, false].take i).any id = false)) (by rfl) (by k_asm) (by k_asm) (.inr (by k_mem)) (Nat.le_of_ble_eq_true rfl) ⟨Nat.le_refl _, by simp⟩ (fun i ys _ h => h.1) (fun _ _ _ _ => trivial) ?_ ?_
  · intro g8 i v ys news' I8 oI C8 oC D8 m₂ h8 tk8 hi hJ hsub hlt hC hB F8 N8 o8 d8
    obtain ⟨b9, hb9, hk9⟩ := All2.get hv2 hi
    have hst := any_more hb9
    cases b9
    · rcases hk9 with ⟨z, tz, rfl⟩ | ⟨z, tz, rfl⟩
      all_goals (refine wpAny_tests_one ?_; k_steps)
      all_goals (first | (exact ⟨_, _, _, rfl, by k_asm, news_sub (by k_asm) (by intro p9 h9; first | k_mem | (simp only [List.mem_cons] at h9 ⊢; simp only [h9, or_true])), by assumption, fun _ h => h, fun _ h => .inl h, (by first | exact filt_no hJ hst rfl | exact filt_yes hJ hst rfl)⟩))
    · obtain ⟨a9, vs9, n9, rfl, hm9⟩ := hk9
      have w9 := hsub _ (by k_mem : (a9, tupO vs9 n9) ∈ _)
      refine wpAny_tests_one ?_
      k_steps
      all_goals (first | (exact ⟨_, _, _, rfl, by k_asm, news_sub (by k_asm) (by intro p9 h9; first | k_mem | (simp only [List.mem_cons] at h9 ⊢; simp only [h9, or_true])), by assumption, fun _ h => h, fun _ h => .inl h, (by first | exact filt_no hJ hst rfl | exact filt_yes hJ hst rfl)⟩))
  · intro g8 D8 h8 tk8 ys news' N8 o8 hsub hlt hord hJ h7 tk7 F9 N9
    k_steps
    have e9 := All2.length hv2
    have hq : ys = [] ↔ ([false, false].take [false, false].length).any id = false := by rw [← e9]; exact hJ.2
    rw [List.take_length] at hq
    k_steps
    refine hret _ _ _ (by k_asm) (news_sub (by k_asm) (by intro p9 h9; have h8 := hsub p9 (by k_mem); k_mem)) ?_
    (try rw [any_tups] at hq)
    exact congrArg Value.bool (empty_of hq)
 · intro T x h; refine dropT ?zB ?zA; simpa only using (h : DropP ?zA x); assumption
end
section
example : True := by
  w_top off
  trivial
theorem sL1.hL1 : True := trivial
open sL1
variable {w : World} {p : Program} {loose : List Str} {mean : ExcName → Option Value} {mg mb : Str → Option Value}
structure WorkSpec (w : World) (p : Program) (loose : List Str) (mean : ExcName → Option Value) (mg mb : Str → Option Value) where
  Pre : Led → Value → Bool → Prop
  mono : ∀ {l l' : Led} {v : Value} {b : Bool}, (∀ x ∈ l, x ∈ l') → Pre l v b → Pre l' v b
  spec : ∀ (v : Value) (b : Bool), SpecV w p loose mean mg mb 431 [v] 10 (8 * 10) (fun news => Pre news v b) (fun r => r = .bool b)
inductive RowW (WS : WorkSpec w p loose mean mg mb) (news : Led) (v : Value) (b : Bool) : Prop
  | mk (a n nv sv dv : _) (c09 : v = .ref a) (c19 : (a, tupO [nv, sv, dv] n) ∈ news) (c29 : WS.Pre news sv b)
theorem RowW.mono {WS : WorkSpec w p loose mean mg mb} {l l' : Led} {v : Value} {b : Bool} (hs : ∀ x ∈ l, x ∈ l') (h : RowW WS l v b) : RowW WS l' v b :=
  by obtain ⟨a, n, nv, sv, dv, e, m1, m2⟩ := h; exact ⟨a, n, nv, sv, dv, e, hs _ m1, WS.mono hs m2⟩
abbrev LeftAt (news : Led) (T dT lx lD lC : Addr) (esT : List DictEntry) (nT nx nD nC : Nat) (vD vC : List Value) : Prop :=
  Inst news T 201 dT esT nT ∧ getL "index" esT = some (some (.ref lx)) ∧ (lx, lstO [] nx) ∈ news ∧ getL "discriminants" esT = some (some (.ref lD)) ∧ (lD, lstO vD nD) ∈ news ∧ getL "components" esT = some (some (.ref lC)) ∧ (lC, lstO vC nC) ∈ news ∧
  getL "variant" esT = some (some .none) ∧ getL "component" esT = some (some .none)
theorem add_any {prog : Program} {A : Around} {E : Value → Shared → Prop} {s : Shared} {h₀ : Heap} {L a b : Addr} {m : Str → Option Value} {news : Led} {vs us : List Value} {n1 n2 : Nat} {Q : Value → Shared → Prop} (F : Fr h₀ L s.heap m) (N : News h₀ L s.heap news) (h1 : (a, lstO vs n1) ∈ news) (h2 : (b, lstO us n2) ∈ news) (hz : vs.length + us.length ≤ sizeLine)
    (h : ∀ D h', Fr h₀ L h' m → News h₀ L h' ((D, lstO (vs ++ us)) :: news) → (∀ p ∈ news, @LT.lt Nat _ p.1 D) → Q (.ref D) { s with heap := h' }) : wpAny (model prog w) A (binaryOp .Add (.ref a) (.ref b)) Q E s :=
  kmk_add_lit F N ⟨_, (N _ h1).1, rfl, n1, rfl⟩ ⟨_, (N _ h2).1, rfl, n2, rfl⟩ rfl h hz
example : True := by
  k_with "binaryOp Add ref ref" =>
    (guard_expr hL1 = hL1)
    (k_here; k_dflt (refine' add_any (by first | ((k_asm); done) | fail "by") (by first | ((k_asm); done) | fail "by") (by first | ((k_mem); done) | fail "by") (by first | ((k_mem); done) | fail "by") (by first | ((simp only [List.length_append, List.length_cons, List.length_nil, sizeLine_eq]; omega); done) | fail "by") ?_); intro D'ₖ h'ₖ F'ₖ N'ₖ l1ₖ; (try k_lt l1ₖ))
  trivial
example : True := by
  k_with "callWith ref" =>
    (guard_expr hL1 = hL1)
    (k_here; k_dflt (first
      | refine' callWith_K (by first | ((k_asm); done) | fail "by") (by first | ((k_is); done) | fail "by") ?_; k_whole
      | refine' callWith_K0 (by first | ((k_in); done) | fail "by") (by first | ((k_is); done) | fail "by") ?_; k_whole))
  trivial
example : True := by
  k_with "call ref" =>
    (guard_expr hL1 = hL1)
    (k_here; k_dflt (first
    | (refine' specV_useE (WorkSpec.spec ‹WorkSpec _ _ _ _ _ _› _ _) (by first | ((k_asm); done) | fail "by") (by first | ((k_asm); done) | fail "by") (by first | ((k_asm); done) | fail "by") (by first | ((k_asm); done) | fail "by") (by first | ((k_asm); done) | fail "by") (by first | ((first | exact rfl | assumption); done) | fail "by") (by first | (((repeat' (first | exact trivial | k_mem | assumption | exact rfl | k_dflt k_get | refine And.intro ?_ ?_ | omega))); done) | fail "by") (by first | ((ktr_room); done) | fail "by") (by first | ((ktr_units); done) | fail "by") ?_; k_whole; intro h9ₖ tk9ₖ F9ₖ N9ₖ; (try dsimp only); (try k_fold))
      | (refine' call_cls0 (by first | ((k_asm); done) | fail "by") (by first | ((k_asm); done) | fail "by") (by first | ((k_asm); done) | fail "by") (by first | ((k_is); done) | fail "by") (by first | ((k_is); done) | fail "by") ?_; k_whole; intro x'ₖ d'ₖ h'ₖ F'ₖ N'ₖ l1ₖ l2ₖ; (try k_lt l1ₖ); (try k_lt2 l2ₖ); (try k_sweep))
      | (refine' call_cls (by first | ((k_asm); done) | fail "by") (by first | ((k_asm); done) | fail "by") (by first | ((k_asm); done) | fail "by") (by first | ((k_is); done) | fail "by") (by first | ((k_is); done) | fail "by") (by first | ((k_is); done) | fail "by") ?_; k_whole; intro x'ₖ d'ₖ h'ₖ F'ₖ N'ₖ l1ₖ l2ₖ; (try k_lt l1ₖ); (try k_lt2 l2ₖ); (try k_sweep); k_enter)
      | (refine wpAny_call ?_; k_enter)))
  trivial
example : True := by
  k_with "eval ListComp" =>
    (guard_expr hL1 = hL1)
    (k_here; refine stop_here ?_)
  trivial
example : True := by
  k_with "compareOp NotEq ref ref" =>
    (guard_expr hL1 = hL1)
    (k_here; k_dflt (refine' ne_empty (by first | ((exact ⟨_, (News.get (by k_asm) (by k_mem)), rfl, _, rfl⟩); done) | fail "by") (by first | ((exact ⟨_, (News.get (by k_asm) (by k_mem)), rfl, _, rfl⟩); done) | fail "by") (by first | ((ktr_units); done) | fail "by") ?_))
  trivial
theorem is_left (WS : WorkSpec w p loose mean mg mb) (T dT lx lD lC : Addr) (esT : List DictEntry) (nT nx nD nC : Nat) (vD vC : List Value) (bD bC : List Bool) (hD : vD.length ≤ 100) (hC : vC.length ≤ 100) :
    SpecV w p loose mean mg mb 443 [.ref T] 14 (8 * 14) (fun news => LeftAt news T dT lx lD lC esT nT nx nD nC vD vC ∧ All2 (RowW WS news) vD bD ∧ All2 (RowW WS news) vC bC) (fun r => r = .bool ((bD ++ bC).any not)) := by
 refine @dropI _ ?_ ?_
 ·
  unfold SpecV
  intro dp un gd cn cs a ccd cl outer A₀ base h₀ L m news s Q E B F X N T hk hPre hd hu hret
  refine sealG fun pS hS9 => ?_
  first | (refine and3 hPre ?_; clear hPre; intro hc19 hvD hvC) | (obtain ⟨hc19, hvD, hvC⟩ := hPre)
  first | (refine and9 hc19 ?_; clear hc19; intro hc29 a3 a4 a5 a6 a7 a8 a9 a10) | (obtain ⟨hc29, a3, a4, a5, a6, a7, a8, a9, a10⟩ := hc19)
  obtain ⟨a1, a2⟩ := hc29
  refine hS9 ?_
  clear hS9 pS
  refine wpAny_call ?_
  k_dflt ktr_enter
  k_steps
  unfold Stopped
  (k_here; k_dflt (refine comp_eval (by k_asm) _ _ (fun _ _ _ => False) (by with_unfolding_all rfl) (by decide) (by rfl) (by decide) (binds_name (by rfl) (by rfl)) Passes.never ?_))
  k_steps
  have hv : All2 (RowW WS news) (vD ++ vC ++ []) (bD ++ bC) := by rw [List.append_nil]; exact hvD.append hvC
  refine CompIn.intro (fun i ys news' => ys.length = i ∧ All2 (WS.Pre news') ys ((bD ++ bC).take i)) (by rfl) (by k_asm) (by k_asm) (.inl (by k_mem)) (by simp only [List.length_append, List.length_nil, sizeLine_eq]; omega) ⟨rfl, .nil⟩ (fun i ys _ h => Nat.le_of_eq h.1) (fun _ _ _ _ => trivial) ?_ ?_
  · intro g8 i v ys news' I8 oI C8 oC D8 m₂ h8 tk8 hi hJ hsub hlt hC8 hB F8 N8 o8 d8
    refine sealG fun pS hS9 => ?_
    obtain ⟨b, hb, a, n, nv, sv, dv, rfl, hm, hp⟩ := hv.get hi
    refine hS9 ?_
    clear hS9 pS
    have w1 : ∀ p ∈ news, p ∈ news' := fun p hp => hsub p (by k_mem)
    have w2 := w1 _ hm
    rw [List.forIn_nil]
    refine wpAny_pure ?_
    rw [if_pos rfl]
    k_steps
    (exact ⟨_, _, _, rfl, by k_asm, news_sub (by k_asm) (by intro p9 h9; first | k_mem | (simp only [List.mem_cons] at h9 ⊢; simp only [h9, or_true])), by assumption, fun _ h => h, fun _ h => .inl h, (⟨by rw [List.length_append, hJ.1]; rfl, by rw [take_snoc hb]; exact hJ.2.snoc (WS.mono w1 hp)⟩)⟩)
  · intro g8 D8 h8 tk8 ys news' N8 o8 hsub hlt hord hJ h7 tk7 F9 N9
    have hyl := hJ.1
    simp only [List.length_append, List.length_nil] at hyl
    have hbl : (bD ++ bC).length = vD.length + vC.length := by rw [List.length_append, hvD.length, hvC.length]
    have hys : All2 (WS.Pre news') ys (bD ++ bC) := by
      have := hJ.2
      rwa [List.take_of_length_le (by rw [hbl, List.length_append, List.length_append]; exact Nat.le_refl _)] at this
    have w1 : ∀ p ∈ news, p ∈ news' := fun p hp => hsub p (by k_mem)
    have v2 := w1 _ a2
    have v1 := w1 _ a1
    have v4 := w1 _ a4
    k_steps
    unfold Stopped
    (k_here; k_dflt (refine comp_eval (by k_asm) _ _ (fun _ _ _ => False) (by with_unfolding_all rfl) (by decide) (by rfl) (by decide) (binds_name (by rfl) (by rfl)) Passes.never ?_))
    k_steps
    refine CompIn.intro (fun i zs _ => zs.length ≤ i ∧ (zs = [] ↔ ((bD ++ bC).take i).any not = false)) (by rfl) (by k_asm) (by k_asm) (.inl (by k_mem)) (by simp only [List.length_append, List.length_nil, sizeLine_eq]; omega) ⟨Nat.le_refl _, by simp⟩ (fun i ys _ h => h.1) (fun _ _ _ _ => trivial) ?_ ?_
    · intro g8 i v zs news'' I8 oI C8 oC E8 m₂ h8 tk8 hi hJ2 hsub2 hlt2 hC8 hB F8 N8 o8 d8
      obtain ⟨b, hb, hp⟩ := All2.get hys (by simpa using hi)
      have hst : ((bD ++ bC).take (i + 1)).any not = (((bD ++ bC).take i).any not || !b) := by rw [take_snoc hb, List.any_append]; simp
      have hp' : WS.Pre ((I8, oI) :: (C8, oC) :: (E8, PyProof.Rows.LCg.lst zs) :: news'') v b := WS.mono (fun p hp => List.mem_cons_of_mem _ (List.mem_cons_of_mem _ (List.mem_cons_of_mem _ (hsub2 p (by k_mem))))) hp
      cases b
      all_goals (refine wpAny_tests_one ?_; k_steps)
      all_goals (first | (exact ⟨_, _, _, rfl, by k_asm, news_sub (by k_asm) (by intro p9 h9; first | k_mem | (simp only [List.mem_cons] at h9 ⊢; simp only [h9, or_true])), by assumption, fun _ h => h, fun _ h => .inl h, (by first | exact filt_no hJ2 hst rfl | exact filt_yes hJ2 hst rfl)⟩))
    · intro g8 E8 h8 tk8 zs news'' N8 o8 hsub2 hlt2 hord2 hJ2 h6 tk6 F8 N8
      have hq : zs = [] ↔ (bD ++ bC).any not = false := by
        have := hJ2.2
        rwa [List.take_of_length_le (by rw [hbl, List.nil_append, hyl]; exact Nat.le_refl _)] at this
      k_steps
      refine hret _ _ _ (by k_asm) (news_sub (by k_asm) (fun p hp => ?_)) ?_
      · have h1 := hsub2 p (by have h8 := w1 p hp; k_mem)
        k_mem
      · have := empty_of hq
        rw [this, Bool.not_not]
 · intro T x h; refine dropT ?zB ?zA; simpa only using (h : DropP ?zA x); assumption
end
section
example : True := by
  w_top off
  trivial
variable {w : World} {p : Program} {loose : List Str} {mean : ExcName → Option Value} {mg mb : Str → Option Value}
theorem specX_of_O {f : Addr} {args : List Value} {du uu : Nat} {Pre : Led → Prop} {Bad : Prop} {Post : Led → Value → Prop} (S : SpecO w p loose mean mg mb f args du uu Pre Post) : SpecX w p loose mean mg mb f args du uu Pre Bad Post := by
  intro dp un gd cn cs a ccd cl outer A₀ base h₀ L m news s Q E B F X N T hk hP hd hu hret hraise
  exact S dp un gd cn cs a ccd cl outer A₀ base h₀ L m news s Q E B F X N T hk hP hd hu hret
theorem specX_cases {f : Addr} {args : List Value} {du uu : Nat} {Pre : Led → Prop} {Bad : Prop} {Post : Led → Value → Prop}
    (h : ∀ news, Pre news → ∃ (Pre' : Led → Prop) (du' uu' : Nat) (Bad' : Prop) (Post' : Led → Value → Prop), Pre' news ∧ du' ≤ du ∧ uu' ≤ uu ∧ SpecX w p loose mean mg mb f args du' uu' Pre' Bad' Post' ∧ (Bad' → Bad) ∧ (∀ n r, Post' n r → Post n r)) : SpecX w p loose mean mg mb f args du uu Pre Bad Post := by
 refine @dropI _ ?_ ?_
 ·
  intro dp un gd cn cs a ccd cl outer A₀ base h₀ L m news s Q E B F X N T hk hP hd hu hret hraise
  refine sealG fun pS hS9 => ?_
  obtain ⟨P', du', uu', B', Po', hP', h1, h2, S, hb, hpo⟩ := h news hP
  refine hS9 ?_
  clear hS9 pS
  exact S dp un gd cn cs a ccd cl outer A₀ base h₀ L m news s Q E B F X N T hk hP' (by omega) (by omega) (fun r tl h' tk' F' N' hl hr => hret r tl h' tk' F' N' hl (hpo _ _ hr)) (fun b => hraise (hb b))
 · intro T x h; refine dropT ?zB ?zA; simpa only using (h : DropP ?zA x); assumption
structure Par where
  (R W I S dR nd fh ch cv dI lD dS dW c : Addr)
  (esR esI esS esW : List DictEntry)
  (nR nI nD nS nW nc : Nat)
  (ond och ocv : Obj)
  (oc : Value)
  (od : Option Addr)
  (fd : FuncData)
  (osl : Array (Option Value))
  (kv : List (Str × Value))
  (V lo hi : Int)
  (tV tk t1 t2 t3 t4 t5 t6 : Tok)
  (vd : List Value)
  (ns : List Str)
structure Par.Ok (P : Par) (w : World) (p : Program) (loose : List Str) (mean : ExcName → Option Value) (mg mb : Str → Option Value) : Prop where
  held : HeldSpec w p loose mean mg mb P.R P.W P.fh (HeldAt P.fh P.ch P.cv ⟨P.oc, P.od, .func P.fd, P.osl⟩ P.och P.ocv) P.V P.tV
  nodes : P.ond.IsDictOf (strKind PR w) P.kv
  obj : valueAt P.kv "obj" = some (.ref P.fh)
  low : P.lo ≤ 1
  high : 5 ≤ P.hi
  names : P.ns.Nodup
  few : P.ns.length ≤ 2
def Par.At (P : Par) (news : Led) : Prop := RunAt P.R P.dR P.nd P.esR P.nR P.ond news ∧ HeldAt P.fh P.ch P.cv ⟨P.oc, P.od, .func P.fd, P.osl⟩ P.och P.ocv news ∧ RecAt news P.I P.dI P.lD P.S P.esI P.nI P.nD P.tk P.vd P.ns ∧
  FewAt news P.S P.dS P.W P.dW P.c P.esS P.esW P.nS P.nW P.nc P.t1 P.t2 P.t3 P.t4 P.t5 P.t6 P.lo P.hi
theorem Par.At.mono {P : Par} {l l' : Led} (hs : ∀ x ∈ l, x ∈ l') (h : P.At l) : P.At l' := by
 refine @dropI _ ?_ ?_
 ·
  refine sealG fun pS hS9 => ?_
  obtain ⟨⟨⟨a1, a2⟩, a3, a4⟩, ⟨b1, b2, b3⟩, ⟨⟨d1, d2⟩, d3, d4, d5, d6, d7⟩, ⟨⟨e1, e2⟩, e3, e4, e5, ⟨e6, e7⟩, e8, e9, e10, e11⟩⟩ := h
  refine hS9 ?_
  clear hS9 pS
  exact ⟨⟨⟨hs _ a1, hs _ a2⟩, a3, hs _ a4⟩, ⟨hs _ b1, hs _ b2, hs _ b3⟩, ⟨⟨hs _ d1, hs _ d2⟩, d3, d4, d5, hs _ d6, d7.mono hs⟩, ⟨⟨hs _ e1, hs _ e2⟩, e3, e4, hs _ e5, ⟨hs _ e6, hs _ e7⟩, e8, e9, e10, e11⟩⟩
 · intro T x h; refine dropT ?zB ?zA; simpa only using (h : DropP ?zA x); assumption
inductive Par.Sub (P : Par) (news : Led) (v : Value) (ps : List (Str × Part)) : Prop
  | mk (Sx dSx cx lx esx nx ncx nlx txx vs : _) (c09 : v = .ref Sx) (c19 : RowSub P.W news Sx dSx P.I cx lx esx nx ncx nlx txx vs ps) (c29 : ps.map (·.1) = P.ns)
theorem Par.Sub.mono {P : Par} {l l' : Led} {v : Value} {ps : List (Str × Part)} (hs : ∀ x ∈ l, x ∈ l') (h : P.Sub l v ps) : P.Sub l' v ps :=
  by obtain ⟨Sx, dSx, cx, lx, esx, nx, ncx, nlx, txx, vs, e, ⟨⟨c1, c2⟩, c3, c4, c5, c6, c7⟩, hn⟩ := h; exact ⟨Sx, dSx, cx, lx, esx, nx, ncx, nlx, txx, vs, e, ⟨⟨hs _ c1, hs _ c2⟩, c3, c4, hs _ c5, hs _ c6, c7.imp fun _ _ z => z.mono hs⟩, hn⟩
def hasDisc (ps : List (Str × Part)) : Bool := ps.any fun q => q.2.isDisc
theorem noDisc_of {ps : List (Str × Part)} (h : hasDisc ps = false) : NoDisc ps := fun q hq => by
  have := List.any_eq_false.mp h q hq
  simpa using this
def inFew (V : Int) (ps : List (Str × Part)) : Prop := ∀ q ∈ settled V ps, 1 ≤ q.2 ∧ q.2 ≤ 5
def compSpec (P : Par) (ok : P.Ok w p loose mean mg mb) : RowSpec w p loose mean mg mb P.R (List (Str × Part)) where
  Pre news v ps := P.At news ∧ P.Sub news v ps
  Bad ps := hasDisc ps = false ∧ ¬ inFew P.V ps
  Post news v r ps := (hasDisc ps = true → r = v) ∧ (hasDisc ps = false → SubNum news r P.I (settled P.V ps) ∧ inFew P.V ps)
  preMono hs h := ⟨h.1.mono hs, h.2.mono hs⟩
  postMono hs h := ⟨h.1, fun hd => ⟨(h.2 hd).1.mono hs, (h.2 hd).2⟩⟩
  spec v ps b ob := by
    refine specX_cases fun news hP => ?_
    refine sealG fun pS hS9 => ?_
    obtain ⟨⟨⟨hA, hH, hR, hF⟩, Sx, dSx, cx, lx, esx, nx, ncx, nlx, txx, vs, rfl, hS, hns⟩, hb⟩ := hP
    refine hS9 ?_
    clear hS9 pS
    have hl : ps.length ≤ 2 := by rw [← List.length_map (f := (·.1)), hns]; exact ok.few
    cases hd : hasDisc ps with
    | true =>
      refine ⟨_, 10, 80, False, _, ?_, by decide, by decide, specX_of_V (settle_hang (.ref P.R) P.W P.dW Sx dSx P.I cx lx P.esW esx P.nW nx ncx nlx txx vs ps hl hd), fun h => h.elim, fun _ _ h => ⟨fun _ => h, fun h' => nomatch h'⟩⟩
      exact ⟨hS, hF.2.2.2.2.1⟩
    | false =>
      refine ⟨_, 28, 8 * 28, _, _, ?_, Nat.le_refl _, Nat.le_refl _, settle_num (dR := P.dR) (nd := P.nd) (esR := P.esR) (nR := P.nR) ok.held ok.nodes ok.obj Sx dSx cx lx P.I P.dI P.lD P.S P.dS P.dW P.c b ob esx P.esI P.esS P.esW nx ncx nlx P.nI P.nD P.nS P.nW P.nc txx P.tk P.t1 P.t2 P.t3 P.t4 P.t5 P.t6 P.lo P.hi P.vd vs ps ok.low ok.high (by rw [hns]; exact ok.names) hl (noDisc_of hd),
        fun h => ⟨rfl, h⟩, fun _ _ h => ⟨fun h' => (nomatch h'), fun _ => h⟩⟩
      exact ⟨hA, hH, hS, by rw [hns]; exact hR, hF, hb⟩
def fewSpec (P : Par) (ok : P.Ok w p loose mean mg mb) : RowSpec w p loose mean mg mb P.R Unit where
  Pre news v _ := P.At news ∧ v = .ref P.S
  Bad _ := False
  Post _ _ _ _ := True
  preMono hs h := ⟨h.1.mono hs, h.2⟩
  postMono _ h := h
  spec v ps b ob := by
    refine specX_cases fun news hP => ?_
    refine sealG fun pS hS9 => ?_
    obtain ⟨⟨⟨hA, hH, hR, hF⟩, rfl⟩, hb⟩ := hP
    refine hS9 ?_
    clear hS9 pS
    refine ⟨_, 16, 128, False, _, ?_, by decide, by decide, specX_of_O (settle_few (.ref P.R) P.S P.dS P.W P.dW P.c P.esS P.esW P.nS P.nW P.nc P.t1 P.t2 P.t3 P.t4 P.t5 P.t6 P.lo P.hi), fun h => h, fun _ _ _ => trivial⟩
    exact ⟨hF, ok.low, by decide, ok.high⟩
def workSpec (P : Par) (ok : P.Ok w p loose mean mg mb) : WorkSpec w p loose mean mg mb where
  Pre news v b := P.At news ∧ ((v = .ref P.S ∧ b = true) ∨ ∃ ps, P.Sub news v ps ∧ b = (hasDisc ps || !(ps.any fun q => q.2.isTup)))
  mono hs h := ⟨h.1.mono hs, h.2.imp id fun ⟨ps, h1, h2⟩ => ⟨ps, h1.mono hs, h2⟩⟩
  spec v b := by
    refine specV_cases fun news hP => ?_
    obtain ⟨⟨hA, hH, hR, ⟨hf1, hf2, hf3, hf4, hf5⟩⟩, (⟨rfl, rfl⟩ | ⟨ps, ⟨Sx, dSx, cx, lx, esx, nx, ncx, nlx, txx, vs, rfl, hS, hns⟩, rfl⟩)⟩ := hP
    · refine ⟨_, 10, 80, ?_, by decide, by decide, worked_few P.S P.dS P.c P.esS P.nS P.nc P.t1 P.t2 P.t3⟩
      exact ⟨hf1, hf3, hf4⟩
    · have hl : ps.length ≤ 2 := by rw [← List.length_map (f := (·.1)), hns]; exact ok.few
      have hSW : RowSubW P.W P.dW P.esW P.nW news Sx dSx P.I cx lx esx nx ncx nlx txx vs ps := ⟨hS.1, hS.2.1, hS.2.2.1, hS.2.2.2.1, hS.2.2.2.2.1, hS.2.2.2.2.2, hf5.1⟩
      cases hd : hasDisc ps with
      | true => exact ⟨_, 10, 80, hSW, by decide, by decide, worked_disc P.W P.dW Sx dSx P.I cx lx P.esW esx P.nW nx ncx nlx txx vs ps hl hd⟩
      | false => exact ⟨_, 10, 80, hSW, by decide, by decide, worked_num P.W P.dW Sx dSx P.I cx lx P.esW esx P.nW nx ncx nlx txx vs ps hl hd⟩
end
section
example : True := by
  w_top off
  trivial
theorem sE1.hE1 : True := trivial
open sE1
variable {w : World} {p : Program} {loose : List Str} {mean : ExcName → Option Value} {mg mb : Str → Option Value}
structure Out where
  (T dT lx lD lC dop : Addr)
  (esT : List DictEntry)
  (nT nx nD nC : Nat)
  (oop : Obj)
  (vD vC : List Value)
  (tk : Tok)
  (name number parent low high literals modulus small is_constrained designated is_tagged wide is_limited is_private is_abstract is_constant is_late : Value)
def Out.At (O : Out) (news : Led) : Prop :=
  Inst news O.T 201 O.dT O.esT O.nT ∧ (O.lx, lstO [] O.nx) ∈ news ∧ (O.lD, lstO O.vD O.nD) ∈ news ∧ (O.lC, lstO O.vC O.nC) ∈ news ∧ (O.dop, O.oop) ∈ news
structure Out.Has (O : Out) (w : World) : Prop where
  f1 : getL "kind" O.esT = some (some (.str "record" O.tk))
  f2 : getL "name" O.esT = some (some O.name)
  f3 : getL "number" O.esT = some (some O.number)
  f4 : getL "parent" O.esT = some (some .none)
  f5 : getL "low" O.esT = some (some O.low)
  f6 : getL "high" O.esT = some (some O.high)
  f7 : getL "literals" O.esT = some (some O.literals)
  f8 : getL "modulus" O.esT = some (some O.modulus)
  f9 : getL "small" O.esT = some (some O.small)
  f10 : getL "index" O.esT = some (some (.ref O.lx))
  f11 : getL "component" O.esT = some (some .none)
  f12 : getL "is_constrained" O.esT = some (some O.is_constrained)
  f13 : getL "discriminants" O.esT = some (some (.ref O.lD))
  f14 : getL "components" O.esT = some (some (.ref O.lC))
  f15 : getL "variant" O.esT = some (some .none)
  f16 : getL "designated" O.esT = some (some O.designated)
  f17 : getL "is_tagged" O.esT = some (some O.is_tagged)
  f18 : getL "wide" O.esT = some (some O.wide)
  f19 : getL "is_limited" O.esT = some (some O.is_limited)
  f20 : getL "is_private" O.esT = some (some O.is_private)
  f21 : getL "is_abstract" O.esT = some (some O.is_abstract)
  f22 : getL "is_constant" O.esT = some (some O.is_constant)
  f23 : getL "is_late" O.esT = some (some O.is_late)
  f24 : getL "operations" O.esT = some (some (.ref O.dop))
  f25 : handedIn O.name = true
  f26 : handedIn O.number = true
  f27 : handedIn O.parent = true
  f28 : handedIn O.low = true
  f29 : handedIn O.high = true
  f30 : handedIn O.literals = true
  f31 : handedIn O.modulus = true
  f32 : handedIn O.small = true
  f33 : handedIn O.is_constrained = true
  f34 : handedIn O.designated = true
  f35 : handedIn O.is_tagged = true
  f36 : handedIn O.wide = true
  f37 : handedIn O.is_limited = true
  f38 : handedIn O.is_private = true
  f39 : handedIn O.is_abstract = true
  f40 : handedIn O.is_constant = true
  f41 : handedIn O.is_late = true
  f42 : (O.dop == sysModules) = false
  f43 : O.oop.IsDictOf (strKind PR w) []
theorem dict_empty {src : Addr} {os : Obj} {A : Around} {E : Value → Shared → Prop} {s : Shared} {h₀ : Heap} {L : Addr} {m : Str → Option Value} {news : Led} {Q : Value → Shared → Prop} (F : Fr h₀ L s.heap m) (N : News h₀ L s.heap news) (T : Top p loose mean mg mb h₀) (lo : (src == sysModules) = false) (hm : (src, os) ∈ news) (hd : os.IsDictOf (strKind PR w) [])
    (k : ∀ d h' o, Fr h₀ L h' m → News h₀ L h' ((d, o) :: news) → (∀ p ∈ news, @LT.lt Nat _ p.1 d) → Q (.ref d) { s with heap := h' }) : wpAny (model PR w) A (call (.type "dict") [.ref src]) Q E s :=
  kt_dict_K (knd := PySem.strKind PR w) (enc := PyData.str) (D := []) F N (Top.nolimit T) ⟨lo, [], Heap.dictOf_iff.mpr ⟨os, (N _ hm).1, hd⟩, .nil⟩ (Nat.zero_le _)
    fun d h' o kvs F' N' l _ _ _ => k d h' o F' N' l
example : True := by
  k_with "call type:dict" =>
    (guard_expr hE1 = hE1)
    (k_here; (with_reducible show wpAny _ _ (call (Value.type "dict") [Value.ref _]) _ _ _); k_dflt (refine' dict_empty (by first | ((k_asm); done) | fail "by") (by first | ((k_asm); done) | fail "by") (by first | ((k_asm); done) | fail "by") (by first | ((assumption); done) | fail "by") (by first | ((k_mem); done) | fail "by") (by first | ((assumption); done) | fail "by") ?_); intro d'ₖ h'ₖ o'ₖ F'ₖ N'ₖ l1ₖ; (try k_lt l1ₖ))
  trivial
theorem upd_app {d : Addr} {o o' : Obj} {r r' : Led} : ∀ {tl : Led}, (∀ p ∈ tl, p.1 ≠ d) → Upd d o o' r r' → Upd d o o' (tl ++ r) (tl ++ r')
  | [], _, h => h
  | x :: _, hn, h => .tail (hn x List.mem_cons_self) (upd_app (fun p hp => hn p (List.mem_cons_of_mem _ hp)) h)
theorem hide_led {p : Led → Prop} {A : Led} (h : p A) : ∃ B, (∀ x ∈ B, x ∈ A) ∧ p B := ⟨A, fun _ h => h, h⟩
theorem leall_self {D : Addr} {o : Obj} {led : Led} (l : LeAll D led) : LeAll D ((D, o) :: led) := l.cons (Nat.le_refl _)
theorem leall_of {D : Addr} {led tl9 tl8 : Led} (_ : ∀ q ∈ tl9 ++ led, ∀ p ∈ tl8, @LT.lt Nat _ q.1 p.1) (h : LeAll D led) : LeAll D led := h
theorem upd_over {d : Addr} {o o' : Obj} {r r' tl led : Led} (l : ∀ q ∈ led, ∀ p ∈ tl, @LT.lt Nat _ q.1 p.1) (hm : ∃ o₀, (d, o₀) ∈ led) (h : Upd d o o' r r') : Upd d o o' (tl ++ r) (tl ++ r') :=
  by obtain ⟨_, hm⟩ := hm; exact upd_app (fun p hp => Nat.ne_of_gt (l _ hm p hp)) h
theorem updF_app {d : Addr} {o : Obj} {r : Led} {g : Obj → Led} : ∀ {tl : Led}, (∀ p ∈ tl, p.1 ≠ d) → UpdF d o r g → UpdF d o (tl ++ r) (fun o' => tl ++ g o')
  | [], _, h => h
  | x :: _, hn, h => .tail (hn x List.mem_cons_self) (updF_app (fun p hp => hn p (List.mem_cons_of_mem _ hp)) h)
theorem updF_over {d : Addr} {o : Obj} {r tl led : Led} {g : Obj → Led} (l : ∀ q ∈ led, ∀ p ∈ tl, @LT.lt Nat _ q.1 p.1) (hm : ∃ o₀, (d, o₀) ∈ led) (h : UpdF d o r g) : UpdF d o (tl ++ r) (fun o' => tl ++ g o') :=
  by obtain ⟨_, hm⟩ := hm; exact updF_app (fun p hp => Nat.ne_of_gt (l _ hm p hp)) h
theorem news_back {h₀ h : Heap} {L : Addr} {q : Addr × Obj} {led news' : Led} (N : News h₀ L h (q :: news')) (hs : ∀ p ∈ led, p ∈ news') : News h₀ L h (q :: led) := fun p hp => by
  rcases List.mem_cons.mp hp with rfl | hp
  · exact N _ List.mem_cons_self
  · exact N p (List.mem_cons_of_mem _ (hs p hp))
theorem RowIn.mono {RS : RowSpec w p loose mean mg mb R ρ} {l l' : Led} {v : Value} {q : ρ} (hs : ∀ x ∈ l, x ∈ l') (h : RowIn RS l v q) : RowIn RS l' v q :=
  by obtain ⟨a, n, nv, sv, e, m1, m2⟩ := h; exact ⟨a, n, nv, sv, e, hs _ m1, RS.preMono hs m2⟩
example : True := by
  k_with "callWith ref" =>
    (guard_expr hE1 = hE1)
    (k_here; first
      | ((with_reducible refine' callWith_K (by first | (k_dflt k_asm; done) | fail "by") (by first | (k_dflt k_is; done) | fail "by") ?_ (by first | (k_dflt rfl; done) | fail "by") (by first | (k_dflt rfl; done) | fail "by")); k_whole)
      | ((with_reducible refine' callWith_K0 (by first | (k_dflt k_in; done) | fail "by") (by first | (k_dflt k_is; done) | fail "by") ?_); k_whole)
      | (k_dflt (first
      | refine' callWith_K (by first | (k_asm; done) | fail "by") (by first | (k_is; done) | fail "by") ?_; k_whole
      | refine' callWith_K0 (by first | (k_in; done) | fail "by") (by first | (k_is; done) | fail "by") ?_; k_whole)))
  trivial
example : True := by
  k_with "setAttr ref" =>
    (guard_expr hE1 = hE1)
    (k_here; k_dflt (refine' set_map (by first | (k_asm; done) | fail "by") (by first | (k_asm; done) | fail "by") (by first | (k_asm; done) | fail "by") (by first | (k_mem; done) | fail "by") (by first | (k_mem; done) | fail "by") (by first | (with_reducible assumption; done) | fail "by") (by first | (kernel_rfl; done) | fail "by") (by first | (k_updF; done) | fail "by") (by first | (exact rfl; done) | fail "by") ?_; k_whole; intro esₖ nₖ h'ₖ tk'ₖ M'ₖ F'ₖ N'ₖ; (try dsimp only at N'ₖ); (try k_sweep)))
  trivial
example : True := by
  k_with "call ref" =>
    (guard_expr hE1 = hE1)
    (k_here; k_dflt (first
    | ((with_reducible show wpAny _ _ (call (Value.ref 419) _) _ _ _); refine stop_here ?_)
      | (guard_target =~ wpAny _ _ (call (Value.ref 201) _) _ _ _; refine' type_new (by first | ((k_asm); done) | fail "by") (by first | ((k_asm); done) | fail "by") (by first | ((k_asm); done) | fail "by") (by first | ((k_asm); done) | fail "by") (by first | ((k_asm); done) | fail "by") (by first | ((first | exact rfl | assumption); done) | fail "by") (by first | ((ktr_room); done) | fail "by") (by first | ((ktr_units); done) | fail "by") ?_; k_whole; intro Tₖ dTₖ lXₖ lDₖ lCₖ dOₖ esₖ nₖ oOₖ lLₖ tSₖ t1ₖ t2ₖ h'ₖ tk'ₖ F'ₖ N'ₖ l1ₖ l2ₖ l3ₖ l4ₖ l5ₖ l6ₖ M'ₖ loₖ opₖ; have hneₖ := ne_all l1ₖ; (try k_lt l1ₖ); (try dsimp only); (try k_sweep); (try k_fold))
      | (refine' call_cls0 (by first | ((k_asm); done) | fail "by") (by first | ((k_asm); done) | fail "by") (by first | ((k_asm); done) | fail "by") (by first | ((k_is); done) | fail "by") (by first | ((k_is); done) | fail "by") ?_; k_whole; intro x'ₖ d'ₖ h'ₖ F'ₖ N'ₖ l1ₖ l2ₖ; (try k_lt l1ₖ); (try k_lt2 l2ₖ); (try k_sweep))
      | (refine' call_clsM (by first | ((k_asm); done) | fail "by") (by first | ((k_asm); done) | fail "by") (by first | ((k_asm); done) | fail "by") (by first | ((k_is); done) | fail "by") (by first | ((k_is); done) | fail "by") (by first | ((k_is); done) | fail "by") ?_; k_whole; intro x'ₖ d'ₖ es'ₖ n'ₖ h'ₖ M'ₖ F'ₖ N'ₖ l1ₖ l2ₖ; have hneₖ := ne_all l1ₖ; (try k_lt l1ₖ); (try k_lt2 l2ₖ); (try k_sweep); k_enter)
      | (refine wpAny_call ?_; k_enter)))
  trivial
example : True := by
  k_with "eval ListComp" =>
    (guard_expr hE1 = hE1)
    (k_here; refine stop_here ?_)
  trivial
example : True := by
  k_with "k_updF" => (guard_expr hE1 = hE1); (guard_target =~ UpdF _ _ (_ ++ _) _; refine' updF_over (by first | (assumption; done) | fail "by") (by first | (exact ⟨_, by k_mem⟩; done) | fail "by") (by first | (k_updF; done) | fail "by"))
  trivial
theorem elab_copy (P : Par) (ok : P.Ok w p loose mean mg mb) (O : Out) (hO : O.Has w) (n0 : Led) (b0 : Addr) (ob0 : Obj) (qs : List (List (Str × Part))) (hqs : qs.length ≤ 100) :
    SpecX w p loose mean mg mb 455 [.ref P.R, .ref O.T] 40 (8 * 40) (fun news => P.At n0 ∧ O.At n0 ∧ All2 (RowIn (fewSpec P ok) n0) O.vD [()] ∧ All2 (RowIn (compSpec P ok) n0) O.vC qs ∧ (∀ x ∈ n0, x ∈ news) ∧ (b0, ob0) ∈ news) (∃ q ∈ qs, (compSpec P ok).Bad q) (fun news r => ∃ M dM esM nM lM nl ys, r = .ref M ∧ Inst (above b0 news) M 201 dM esM nM ∧ getL "components" esM = some (some (.ref lM)) ∧ (lM, lstO ys nl) ∈ above b0 news ∧ All2 (RowOut (compSpec P ok) n0 (above b0 news)) ys (O.vC.zip qs)) := by
 refine @dropI _ ?_ ?_
 ·
  refine sealG fun pS hS9 => ?_
  obtain ⟨T, dT, lx, lD, lC, dop, esT, nT, nx, nD, nC, oop, vD, vC, tk, v1, v2, v3, v4, v5, v6, v7, v8, v9, v10, v11, v12, v13, v14, v15, v16, v17⟩ := O
  obtain ⟨g1, g2, g3, g4, g5, g6, g7, g8, g9, g10, g11, g12, g13, g14, g15, g16, g17, g18, g19, g20, g21, g22, g23, g24, k1, k2, k3, k4, k5, k6, k7, k8, k9, k10, k11, k12, k13, k14, k15, k16, k17, hlo, hoop⟩ := hO
  refine hS9 ?_
  clear hS9 pS
  dsimp only at g1 g2 g3 g4 g5 g6 g7 g8 g9 g10 g11 g12 g13 g14 g15 g16 g17 g18 g19 g20 g21 g22 g23 g24 k1 k2 k3 k4 k5 k6 k7 k8 k9 k10 k11 k12 k13 k14 k15 k16 k17 hlo hoop ⊢
  unfold SpecX
  intro dp un gd cn cs a ccd cl outer A₀ base h₀ L m news s Q E B F X N T hk hPre hd hu hret hraise
  refine sealG fun pS hS9 => ?_
  first | (refine and6 hPre ?_; clear hPre; intro hP hc19 hD hC hn0 hb0) | (obtain ⟨hP, hc19, hD, hC, hn0, hb0⟩ := hPre)
  first | (refine and5 hc19 ?_; clear hc19; intro hc29 o3 o4 o5 o6) | (obtain ⟨hc29, o3, o4, o5, o6⟩ := hc19)
  obtain ⟨o1, o2⟩ := hc29
  refine hS9 ?_
  clear hS9 pS
  refine wpAny_call ?_
  k_dflt (refine' code_defC ?k1 ?k2 ?k3 ?k4 ?k5 ?kA ?kF ?kK ?k6 ?k7 ?k8 ?k9 ?kB ?kD ?_ ?c2 ?c3 ?c4; (case kA => exact rfl); (case kF => exact rfl); (case kK => assumption); (case k1 => k_asm); (case k2 => k_asm); (case k3 => k_asm); (case k4 => k_asm); (case k5 => k_asm); (case k6 => k_is); (case k7 => k_is); (case k8 => ktr_room); (case k9 => exact BindsTo.of_eq rfl); (case kB => exact rfl); (case kD => decide +kernel); (case c2 => exact rfl); (case c3 => exact rfl); (case c4 => exact rfl); k_whole; intro g' L' h' tk' cells' FG' F' N' Y' B' X' T' l1; (try k_lt l1); k_cells Y'; (try simp only [List.cons_append, List.nil_append] at N'); (try dsimp only); (try k_lift B'); (try k_fold))
  rename Fr h₀ L _ m => hFG9
  rename Below _ base (envX _ _ _ _ _ _ :: outer) _ => hB9
  dsimp only at o1 o2 o3 o4 o5 o6 hD hC
  replace o1 := hn0 _ o1
  replace o2 := hn0 _ o2
  replace o3 := hn0 _ o3
  replace o4 := hn0 _ o4
  replace o5 := hn0 _ o5
  replace o6 := hn0 _ o6
  k_steps
  unfold Stopped
  refine' comp_eval (by k_asm) _ _ (fun _ _ _ => False) ?cclos ?ccell ?ckind ?cnm (binds_name (by rfl) (by rfl)) Passes.never ?_ ?chs; (case cclos => with_unfolding_all rfl); (case ccell => decide); (case ckind => rfl); (case cnm => decide); (case chs => intro _; rfl)
  k_steps
  refine CompIn.intro (its := []) (fun i ys news' => ys = []) (by rfl) (by k_asm) (by k_asm) (.inl (by k_mem)) (Nat.zero_le _) rfl (fun i ys _ h => by rw [h]; exact Nat.zero_le _) (fun _ _ _ _ => trivial) ?_ ?_
  · intro g i v ys news' I oI C oC D m₂ h tk hi
    exact nomatch hi
  · intro gg8 D8 h8 tk8 ys news' N8 o8 hsub hlt hord hJ h7 tk7 F9 N9
    subst hJ
    have N10 := news_back N9 hsub
    clear N9 N8 hord o8
    have hLD : @LT.lt Nat _ (L' + 1) D8 := hlt (L' + 1, _) (by k_mem)
    have l10 := hlt
    k_lt l10
    clear hsub
    k_steps
    unfold Stopped
    (refine' specX_use (settled_rows (fewSpec P ok) n0 lD _ _ vD nD [()] (by decide)) ?Ba1 ?Fa1 ?Xa1 ?Na1 ?Ta1 ?ka1 ?pa1 ?da1 ?ua1 ?reta1 ?raisea1; (case Ba1 => k_asm); (case Fa1 => k_asm); (case Xa1 => k_asm); (case Na1 => k_asm); (case Ta1 => k_asm); (case ka1 => first | exact rfl | assumption); (case pa1 => (refine ⟨by k_mem, hD, fun x hx => ?_, by k_mem⟩; have h8 := hn0 x hx; k_mem)); (case da1 => ktr_room); (case ua1 => ktr_units); (case raisea1 => (intro hb; obtain ⟨_, _, hf⟩ := hb; exact hf.elim)))
    intro r9 tl9 h9 tk9 F9 N9 l9 hR79
    refine sealG fun pS hS9 => ?_
    obtain ⟨lA, kA, ysA, e9, mA, aA⟩ := hR79
    refine hS9 ?_
    clear hS9 pS
    subst e9
    clear mA aA
    k_steps
    unfold Stopped
    (refine' specX_use (settled_rows (compSpec P ok) n0 lC _ _ vC nC qs hqs) ?Ba2 ?Fa2 ?Xa2 ?Na2 ?Ta2 ?ka2 ?pa2 ?da2 ?ua2 ?reta2 ?raisea2; (case Ba2 => k_asm); (case Fa2 => k_asm); (case Xa2 => k_asm); (case Na2 => k_asm); (case Ta2 => k_asm); (case ka2 => first | exact rfl | assumption); (case pa2 => (refine ⟨by k_mem, hC, fun x hx => ?_, by k_mem⟩; have h8 := hn0 x hx; k_mem)); (case da2 => ktr_room); (case ua2 => ktr_units); (case raisea2 => (intro hb9 e9 dx9 es9 n9 h9 tk9 hw9 hx9 R9 U9 m9; refine' raise_on hB9 hFG9 ?rf R9 U9 hw9 hx9 ?rs ?re (hraise hb9); (case rf => exact rfl); (case rs => intro p9 h9; simp only [List.mem_cons, List.mem_append, h9, or_true]); (case re => exact rfl))))
    intro r8 tl8 h8 tk8 F8 N8 l8 hR79
    refine sealG fun pS hS9 => ?_
    obtain ⟨lB, kB, ysB, e8, mB, aB⟩ := hR79
    refine hS9 ?_
    clear hS9 pS
    subst e8
    have hle : LeAll D8 ((D8, PyProof.Rows.LCg.lst []) :: _) := leall_of l8 (by (repeat' (first | with_reducible refine leall_self ?_ | refine LeAll.cons (by omega) ?_ | (intro q9 hq9; first | k_extra "q" | (have hz9 : @LT.lt Nat _ q9.1 L' := tb_ltOf l1 q9 hq9; omega)))))
    refine sealG fun pS hS9 => ?_
    obtain ⟨BB, hBB, mB, aB⟩ := hide_led (p := fun A => (lB, lstO ysB kB) ∈ A ∧ All2 (RowOut (compSpec P ok) n0 A) ysB (vC.zip qs)) ⟨mB, aB⟩
    refine hS9 ?_
    clear hS9 pS
    k_steps
    have hbD : @LT.lt Nat _ b0 D8 := hlt (b0, ob0) (by k_mem)
    refine ret_grown (news := news) (Post := fun news r => ∃ M dM esM nM lM nl ys, r = .ref M ∧ Inst (above b0 news) M 201 dM esM nM ∧ getL "components" esM = some (some (.ref lM)) ∧ (lM, lstO ys nl) ∈ above b0 news ∧ All2 (RowOut (compSpec P ok) n0 (above b0 news)) ys (vC.zip qs)) hret rfl (by k_asm) (by k_asm) (by (intro p9 hp9; repeat' (first | exact hp9 | refine List.mem_cons_of_mem _ ?_ | refine List.mem_append_right _ ?_))) (show Cov _ _ by (repeat' (first | exact Cov.self | refine Cov.cons (by first | with_reducible assumption | (intro q9 hq9; first | k_extra "q" | (have hz9 : @LT.lt Nat _ q9.1 L' := tb_ltOf l1 q9 hq9; omega))) ?_ | refine Cov.app (by assumption) (by (intro p9 hp9; repeat' (first | exact hp9 | refine List.mem_cons_of_mem _ ?_ | refine List.mem_append_right _ ?_))) ?_))) ?_
    intro FL' hFL
    have hup : ∀ x ∈ BB, x ∈ above b0 FL' := by
      intro x hx
      obtain ⟨hx1, hx2⟩ := mem_above.mp (hBB _ hx)
      rcases List.mem_append.mp hx1 with hx1 | hx1
      · exact mem_above.mpr ⟨hFL _ (List.mem_append_left _ hx1), Nat.lt_trans hbD hx2⟩
      rcases List.mem_append.mp hx1 with hx1 | hx1
      · exact mem_above.mpr ⟨hFL _ (List.mem_append_right _ (List.mem_append_left _ hx1)), Nat.lt_trans hbD hx2⟩
      exact absurd hx2 (Nat.not_lt.mpr (hle _ hx1))
    have hz9 : @LT.lt Nat _ b0 L' := tb_ltOf l1 (b0, ob0) hb0
    exact ⟨_, _, _, _, lB, kB, ysB, rfl, ⟨mem_above.mpr ⟨hFL _ (by k_mem), by dsimp only; omega⟩, mem_above.mpr ⟨hFL _ (by k_mem), by dsimp only; omega⟩⟩, by k_get, hup _ mB, aB.imp fun _ _ h => h.mono hup⟩
 · intro T x h; refine dropT ?zB ?zA; simpa only using (h : DropP ?zA x); assumption
end
section
example : True := by
  w_top off
  trivial
theorem sE2.hE2 : True := trivial
open sE2
variable {w : World} {p : Program} {loose : List Str} {mean : ExcName → Option Value} {mg mb : Str → Option Value}
def late (b : Bool) (es : List DictEntry) : List DictEntry := putL "is_late" 0 .none (.bool b) es
theorem any_of_getL {x : Str} {es : List DictEntry} {v : Value} (h : getL x es = some (some v)) : es.any (·.key.isStr x) = true := by
 refine @dropI _ ?_ ?_
 ·
  unfold getL at h
  cases hf : es.find? (·.key.isStr x) with
  | none => rw [hf] at h; dsimp only at h; split at h <;> cases h
  | some e => exact List.any_eq_true.mpr ⟨e, List.mem_of_find?_eq_some hf, List.find?_some (p := fun d : DictEntry => d.key.isStr x) hf⟩
 · intro T x h; refine dropT ?zB ?zA; simpa only using (h : DropP ?zA x); assumption
theorem putL_has {x : Str} {h : Int} {k v : Value} : ∀ {es : List DictEntry}, es.any (·.key.isStr x) = true → putL x h k v es = putL x 0 .none v es
  | [], e => nomatch e
  | d :: r, e => by
    unfold putL
    by_cases hd : d.key.isStr x = true
    · rw [if_pos hd, if_pos hd]
    · rw [if_neg hd, if_neg hd, putL_has (by simpa [hd] using e)]
theorem getL_put_self {x : Str} {h : Int} {k v : Value} : ∀ {es : List DictEntry}, es.any (·.key.isStr x) = true → getL x (putL x h k v es) = some (some v)
  | [], e => nomatch e
  | d :: r, e => by
    unfold putL
    by_cases hd : d.key.isStr x = true
    · rw [if_pos hd]; unfold getL; rw [List.find?_cons_of_pos (p := fun d : DictEntry => d.key.isStr x) (a := ⟨d.hash, d.key, v⟩) hd]
    · rw [if_neg hd]
      have ih := getL_put_self (h := h) (k := k) (v := v) (es := r) (by simpa [hd] using e)
      unfold getL at ih ⊢
      rw [List.find?_cons_of_neg (p := fun d : DictEntry => d.key.isStr x) hd]
      cases hf : List.find? (fun x_1 => x_1.key.isStr x) (putL x h k v r) with
      | none => rw [hf] at ih; dsimp only at ih; split at ih <;> cases ih
      | some e' => rw [hf] at ih; exact ih
theorem put_length {x : Str} {h : Int} {k v : Value} : ∀ {es : List DictEntry}, es.any (·.key.isStr x) = true → (putL x h k v es).length = es.length
  | [], e => nomatch e
  | d :: r, e => by
    unfold putL
    by_cases hd : d.key.isStr x = true
    · rw [if_pos hd]; rfl
    · rw [if_neg hd]; simp [put_length (h := h) (k := k) (v := v) (es := r) (by simpa [hd] using e)]
theorem put_refKey {x : Str} {h : Int} {k v : Value} : ∀ {es : List DictEntry}, es.any (·.key.isStr x) = true → (putL x h k v es).any (·.refKey) = es.any (·.refKey)
  | [], e => nomatch e
  | d :: r, e => by
    unfold putL
    by_cases hd : d.key.isStr x = true
    · rw [if_pos hd]; rfl
    · rw [if_neg hd]; simp [put_refKey (h := h) (k := k) (v := v) (es := r) (by simpa [hd] using e)]
theorem getL_put_ne {x y : Str} {h : Int} {k v : Value} (hne : x ≠ y) : ∀ {es : List DictEntry}, es.any (·.key.isStr y) = true → getL x (putL y h k v es) = getL x es := by
 refine @dropI _ ?_ ?_
 ·
  have aux : ∀ {es : List DictEntry}, es.any (·.key.isStr y) = true → ((putL y h k v es).find? (·.key.isStr x)).map (·.val) = (es.find? (·.key.isStr x)).map (·.val) := by
    intro es
    induction es with
    | nil => intro e; cases e
    | cons d r ih =>
      intro e
      unfold putL
      by_cases hd : d.key.isStr y = true
      · rw [if_pos hd]
        have hx : ¬ d.key.isStr x = true := fun hx => hne (by
          cases hk : d.key <;> rw [hk] at hd hx <;> simp [Value.isStr] at hd hx
          rw [← hx, ← hd])
        rw [List.find?_cons_of_neg (p := fun d : DictEntry => d.key.isStr x) (by exact hx), List.find?_cons_of_neg (p := fun d : DictEntry => d.key.isStr x) hx]
      · rw [if_neg hd]
        by_cases hx : d.key.isStr x = true
        · rw [List.find?_cons_of_pos (p := fun d : DictEntry => d.key.isStr x) hx, List.find?_cons_of_pos (p := fun d : DictEntry => d.key.isStr x) hx]
        · rw [List.find?_cons_of_neg (p := fun d : DictEntry => d.key.isStr x) hx, List.find?_cons_of_neg (p := fun d : DictEntry => d.key.isStr x) hx]
          exact ih (by simpa [hd] using e)
  intro es he
  have h1 := aux he
  have h2 := put_refKey (h := h) (k := k) (v := v) he
  unfold getL
  cases ha : (putL y h k v es).find? (·.key.isStr x) <;> cases hb : es.find? (·.key.isStr x) <;> rw [ha, hb] at h1 <;> simp at h1
  · dsimp only; rw [h2]
  · dsimp only; rw [h1]
 · intro T x h; refine dropT ?zB ?zA; simpa only using (h : DropP ?zA x); assumption
theorem empty_any {w : World} {o : Obj} (h : o.IsDictOf (strKind PR w) []) : o.IsDictOf (intKind PR w) [] := by
 refine @dropI _ ?_ ?_
 ·
  refine sealG fun pS hS9 => ?_
  obtain ⟨es, ep, h1, h2, h3, h4, h5⟩ := h
  refine hS9 ?_
  clear hS9 pS
  have he : es.toList = [] := by
    cases hl : es.toList with
    | nil => rfl
    | cons a r => rw [hl] at h4; cases h4
  refine ⟨es, ep, h1, h2, fun e hm => ?_, by rw [he]; exact .nil, List.nodup_nil⟩
  have : e ∈ es.toList := by simpa using hm
  rw [he] at this
  cases this
 · intro T x h; refine dropT ?zB ?zA; simpa only using (h : DropP ?zA x); assumption
example : True := by
  k_with "callWith ref" =>
    (guard_expr hE2 = hE2)
    (k_here; k_dflt (first
      | refine' callWith_K (by first | ((k_asm); done) | fail "by") (by first | ((k_is); done) | fail "by") ?_; k_whole
      | refine' callWith_K0 (by first | ((k_in); done) | fail "by") (by first | ((k_is); done) | fail "by") ?_; k_whole))
  trivial
example : True := by
  k_with "call ref" =>
    (guard_expr hE2 = hE2)
    (k_here; k_dflt (first
    | ((with_reducible show wpAny _ _ (call (Value.ref 455) _) _ _ _); refine stop_here ?_)
      | ((with_reducible show wpAny _ _ (call (Value.ref 443) _) _ _ _); refine stop_here ?_)
      | (refine' call_cls0 (by first | ((k_asm); done) | fail "by") (by first | ((k_asm); done) | fail "by") (by first | ((k_asm); done) | fail "by") (by first | ((k_is); done) | fail "by") (by first | ((k_is); done) | fail "by") ?_; k_whole; intro x'ₖ d'ₖ h'ₖ F'ₖ N'ₖ l1ₖ l2ₖ; (try k_lt l1ₖ); (try k_lt2 l2ₖ); (try k_sweep))
      | (refine' call_cls (by first | ((k_asm); done) | fail "by") (by first | ((k_asm); done) | fail "by") (by first | ((k_asm); done) | fail "by") (by first | ((k_is); done) | fail "by") (by first | ((k_is); done) | fail "by") (by first | ((k_is); done) | fail "by") ?_; k_whole; intro x'ₖ d'ₖ h'ₖ F'ₖ N'ₖ l1ₖ l2ₖ; (try k_lt l1ₖ); (try k_lt2 l2ₖ); (try k_sweep); k_enter)
      | (refine wpAny_call ?_; k_enter)))
  trivial
abbrev TaskAt (news : Led) (esR : List DictEntry) (K dK Fm dFm dTy : Addr) (esK esFm : List DictEntry) (nK nFm : Nat) (oTy : Obj) : Prop :=
  getL "task" esR = some (some (.ref K)) ∧ Inst news K 501 dK esK nK ∧ getL "frame" esK = some (some (.ref Fm)) ∧ Inst news Fm 138 dFm esFm nFm ∧ getL "types" esFm = some (some (.ref dTy)) ∧ (dTy, oTy) ∈ news
example : True := by
  k_with "setAttr ref" =>
    (guard_expr hE2 = hE2)
    (k_here; (with_reducible show wpAny _ _ (setAttr (Value.ref _) (PySem.Str.ofString "is_late") _) _ _ _); refine stop_here ?_)
  trivial
theorem good_of {P : Par} (ok : P.Ok w p loose mean mg mb) {n0 n1 l : Led} {vC ys : List Value} {qs : List (List (Str × Part))} (hC : All2 (RowIn (compSpec P ok) n0) vC qs) (m5 : All2 (RowOut (compSpec P ok) n1 l) ys (vC.zip qs)) : ∀ q ∈ qs, hasDisc q = true ∨ inFew P.V q := fun q hq => by
  obtain ⟨i, hi⟩ := List.getElem?_of_mem hq
  have hlt := (List.getElem?_eq_some_iff.mp hi).1
  have h1 := hC.length
  have h2 := m5.length
  rw [List.length_zip] at h2
  have hv : vC[i]? = some vC[i] := by simp
  have hy : ys[i]? = some ys[i] := by simp
  obtain ⟨z, hz, hr⟩ := m5.get hy
  rw [zip_at hv hi] at hz
  cases hz
  refine sealG fun pS hS9 => ?_
  obtain ⟨_, _, _, _, _, _, _, _, _, hp, _⟩ := hr
  refine hS9 ?_
  clear hS9 pS
  cases hd : hasDisc q with
  | true => exact .inl rfl
  | false => exact .inr (hp.2 hd).2
theorem elab_type (P : Par) (ok : P.Ok w p loose mean mg mb) (O : Out) (hO : O.Has w) (qs : List (List (Str × Part))) (hqs : qs.length ≤ 100) (K dK Fm dFm dTy : Addr) (esK esFm : List DictEntry) (nK nFm : Nat) (oTy : Obj) (hTy : oTy.IsDictOf (intKind PR w) []) (tn : Tok) (hnum : O.number = .int 32 tn)
    (bD bC : List Bool) (b : Bool) (hb : b = (bD ++ bC).any not) (hlen : O.esT.length ≤ 100)
    (dp un : Nat) (gd : Option (List Code)) (cn : Str) (cs : Scope) (a : Addr) (ccd : Value) (cl : List (Str × Addr)) (outer : List Env) (A₀ : Around) (base h₀ : Heap) (L : Addr) (m : Str → Option Value) (news n1 : Led) (g : Obj → Led) (b0 : Addr) (ob0 : Obj) (s : Shared)
    (Q E : Value → Shared → Prop)
    (B : Below A₀ base outer h₀) (F : Fr h₀ L s.heap m) (X : (hd.heap_1_39 w.params).In h₀) (N : News h₀ L s.heap news) (T : Top p loose mean mg mb h₀) (hk : cs.kind = .function)
    (hP : P.At news) (hOA : O.At news) (hTA : TaskAt news P.esR K dK Fm dFm dTy esK esFm nK nFm oTy) (hD : All2 (RowIn (fewSpec P ok) news) O.vD [()]) (hC : All2 (RowIn (compSpec P ok) news) O.vC qs) (hWD : All2 (RowW (workSpec P ok) news) O.vD bD) (hWC : All2 (RowW (workSpec P ok) news) O.vC bC)
    (hvD : O.vD.length ≤ 100) (hvC : O.vC.length ≤ 100) (hb0 : (b0, ob0) ∈ news) (hmax : LeAll b0 news) (hne : ∀ x ∈ [P.R, P.dR, K, dK, Fm, dFm, O.T, dTy], x ≠ O.dT)
    (U1 : Upd O.dT (dictOf O.esT O.nT) (dictOf (late b O.esT) O.nT) news n1) (U2 : UpdF dTy oTy n1 g)
    (hd : dp + 50 < recursionLimit) (hu : un + 8 * 50 < cLine)
    (hret : ∀ v tl o' h' tk', (∀ q ∈ qs, hasDisc q = true ∨ inFew P.V q) → Fr h₀ L h' m → News h₀ L h' (tl ++ g o') → (∀ q ∈ news, ∀ p ∈ tl, @LT.lt Nat _ q.1 p.1) → o'.IsDictOf (intKind PR w) [(32, v)] →
      (b = false → v = .ref O.T) → (b = true → ∃ M dM esM nM lM nl ys, v = .ref M ∧ Inst tl M 201 dM esM nM ∧ getL "components" esM = some (some (.ref lM)) ∧ (lM, lstO ys nl) ∈ tl ∧ All2 (RowOut (compSpec P ok) news tl) ys (O.vC.zip qs)) → Q .none { s with heap := h', toks := tk' })
    (hraise : (∃ q ∈ qs, (compSpec P ok).Bad q) → RaiseK base (envX cn cs L a ccd cl :: outer) h₀ L m news E s) :
    wpAny (model PR w) (ktrTop dp un gd cn cs L a ccd cl outer) (call (.ref 462) [.ref P.R, .ref O.T]) Q E s := by
 refine @dropI _ ?_ ?_
 ·
  have hE := fun n0 b0 ob0 => elab_copy P ok O hO n0 b0 ob0 qs hqs
  have hOA0 := hOA
  have hL := is_left (workSpec P ok) O.T O.dT O.lx O.lD O.lC O.esT O.nT O.nx O.nD O.nC O.vD O.vC bD bC hvD hvC
  have hWCi : ∀ l, (∀ x ∈ news, x ∈ l) → All2 (RowW (workSpec P ok) l) O.vD bD ∧ All2 (RowW (workSpec P ok) l) O.vC bC := fun l hs => ⟨hWD.imp fun _ _ h => h.mono hs, hWC.imp fun _ _ h => h.mono hs⟩
  refine sealG fun pS hS9 => ?_
  obtain ⟨T₀, dT, lx, lD, lC, dop, esT, nT, nx, nD, nC, oop, vD, vC, tk, v1, v2, v3, v4, v5, v6, v7, v8, v9, v10, v11, v12, v13, v14, v15, v16, v17⟩ := O
  obtain ⟨g1, g2, g3, g4, g5, g6, g7, g8, g9, g10, g11, g12, g13, g14, g15, g16, g17, g18, g19, g20, g21, g22, g23, g24, k1, k2, k3, k4, k5, k6, k7, k8, k9, k10, k11, k12, k13, k14, k15, k16, k17, hlo, hoop⟩ := hO
  refine hS9 ?_
  clear hS9 pS
  dsimp only at hE hL hWCi hnum hlen hP hOA hD hC hWD hWC hvD hvC U1 hret hraise g1 g2 g3 g4 g5 g6 g7 g8 g9 g10 g11 g12 g13 g14 g15 g16 g17 g18 g19 g20 g21 g22 g23 g24 k1 k2 k3 k4 k5 k6 k7 k8 k9 k10 k11 k12 k13 k14 k15 k16 k17 hlo hoop ⊢
  refine sealG fun pS hS9 => ?_
  obtain ⟨⟨⟨a1, a2⟩, a3, a4⟩, _⟩ := id hP
  obtain ⟨t1, ⟨t2, t3⟩, t4, ⟨t5, t6⟩, t7, t8⟩ := hTA
  obtain ⟨⟨o1, o2⟩, o3, o4, o5, o6⟩ := hOA
  refine hS9 ?_
  clear hS9 pS
  dsimp only at o1 o2 o3 o4 o5 o6
  refine wpAny_call ?_
  k_dflt ktr_enter
  rename Fr h₀ L _ m => hFG9
  rename Below _ base (envX _ _ _ _ _ _ :: outer) _ => hB9
  k_steps
  unfold Stopped
  (refine' specX_use (hE news b0 ob0) ?Bb1 ?Fb1 ?Xb1 ?Nb1 ?Tb1 ?kb1 ?pb1 ?db1 ?ub1 ?retb1 ?raiseb1; (case Bb1 => k_asm); (case Fb1 => k_asm); (case Xb1 => k_asm); (case Nb1 => k_asm); (case Tb1 => k_asm); (case kb1 => first | exact rfl | assumption); (case pb1 => (exact ⟨hP, ⟨⟨o1, o2⟩, o3, o4, o5, o6⟩, hD, hC, fun _ h => h, hb0⟩)); (case db1 => ktr_room); (case ub1 => ktr_units); (case raiseb1 => (intro hb9 e9 dx9 es9 n9 h9 tk9 hw9 hx9 R9 U9 m9; refine' raise_on hB9 hFG9 ?rf R9 U9 hw9 hx9 ?rs ?re (hraise hb9); (case rf => exact rfl); (case rs => intro p9 h9; exact h9); (case re => exact rfl))))
  intro r9 tl9 h9 tk9 F9 N9 l9 hR79
  refine sealG fun pS hS9 => ?_
  obtain ⟨M, dM, esM, nM, lM, nl, ys, e9, ⟨m1, m2⟩, m3, m4, m5⟩ := hR79
  refine hS9 ?_
  clear hS9 pS
  subst e9
  have up : ∀ x ∈ above b0 (tl9 ++ news), x ∈ tl9 := fun x hx => by
    obtain ⟨hx1, hx2⟩ := mem_above.mp hx
    rcases List.mem_append.mp hx1 with hx1 | hx1
    · exact hx1
    · exact absurd hx2 (Nat.not_lt.mpr (hmax x hx1))
  have hgood : ∀ q ∈ qs, hasDisc q = true ∨ inFew P.V q := good_of ok hC m5
  replace m1 := up _ m1
  replace m2 := up _ m2
  replace m4 := up _ m4
  replace m5 := m5.imp fun _ _ h => h.mono up
  clear up
  k_steps
  unfold Stopped
  refine' specV_use hL ?Bc ?Fc ?Xc ?Nc ?Tc ?kc ?pc ?dc ?uc ?_; (case Bc => k_asm); (case Fc => k_asm); (case Xc => k_asm); (case Nc => k_asm); (case Tc => k_asm); (case kc => exact rfl); (case pc => exact ⟨⟨⟨List.mem_append_right _ o1, List.mem_append_right _ o2⟩, g10, List.mem_append_right _ o3, g13, List.mem_append_right _ o4, g14, List.mem_append_right _ o5, g15, g11⟩, hWCi _ fun x hx => List.mem_append_right _ hx⟩); (case dc => ktr_room); (case uc => ktr_units)
  intro r8 h8 tk8 F8 N8 e8
  rw [← hb] at e8
  subst e8
  k_steps
  unfold Stopped
  have hany := any_of_getL g23
  have hneT : ∀ p ∈ tl9, p.1 ≠ dT := fun p hp => Nat.ne_of_gt (l9 _ o2 p hp)
  have U3 := upd_app hneT U1
  refine' set_dict (es' := late b esT) (n' := nT) ?q1 ?q2 ?q3 ?q4 ?q5 ?q6 ?q7 ?q8 ?q9 ?q10 ?q11 U3 ?q13 ?_; (case q1 => k_asm); (case q2 => k_asm); (case q3 => k_asm); (case q4 => k_inst); (case q5 => exact rfl); (case q6 => k_is); (case q7 => k_is); (case q8 => k_is); (case q9 => k_is); (case q10 => rw [g23]; rfl); (case q11 => unfold late putN; rw [putL_has hany, if_pos hany]); (case q13 => show (late b esT).length ≤ 1000; unfold late; rw [put_length hany]; omega)
  intro h7 F7 N7
  clear N8
  have hg1 : getL "is_late" (late b esT) = some (some (.bool b)) := getL_put_self hany
  have hg2 : getL "number" (late b esT) = some (some (.int 32 tn)) := (getL_put_ne (by decide) hany).trans (by rw [g3, hnum])
  have w0 := upd_new U1
  have w1 := upd_keep U1 _ a1 (hne _ (by simp))
  have w2 := upd_keep U1 _ a2 (hne _ (by simp))
  have w3 := upd_keep U1 _ t2 (hne _ (by simp))
  have w4 := upd_keep U1 _ t3 (hne _ (by simp))
  have w5 := upd_keep U1 _ t5 (hne _ (by simp))
  have w6 := upd_keep U1 _ t6 (hne _ (by simp))
  have w7 := upd_keep U1 _ o1 (hne _ (by simp))
  have w8 := upd_keep U1 _ t8 (hne _ (by simp))
  have hneTy : ∀ p ∈ tl9, p.1 ≠ dTy := fun p hp => Nat.ne_of_gt (l9 _ t8 p hp)
  have U4 := updF_app hneTy U2
  clear a1 a2 t2 t3 t5 t6 o1 o2 t8
  cases b
  all_goals k_steps
  all_goals (refine' kda_set (knd := PySem.intKind PR w) (kvs := []) ?sF ?sN U4 hTy (intKind_is _ _ _ _) (Nat.zero_le _) ?_; (case sF => k_asm); (case sN => k_asm); intro h6 o6 F6 N6 hd6; k_steps)
  all_goals (first | exact hret (.ref T₀) tl9 _ _ _ hgood (by k_asm) (by k_asm) l9 (by assumption) (fun _ => rfl) (fun h => nomatch h) | exact hret (.ref M) tl9 _ _ _ hgood (by k_asm) (by k_asm) l9 (by assumption) (fun h => nomatch h) (fun _ => ⟨M, dM, esM, nM, lM, nl, ys, rfl, ⟨m1, m2⟩, m3, m4, m5⟩))
 · intro T x h; refine dropT ?zB ?zA; simpa only using (h : DropP ?zA x); assumption
end
section
example : True := by
  w_top off
  trivial
theorem sV1.hV1 : True := trivial
open sV1
variable {w : World} {p : Program} {loose : List Str} {mean : ExcName → Option Value} {mg mb : Str → Option Value}
example : True := by
  k_with "callWith ref" =>
    (guard_expr hV1 = hV1)
    (k_here; k_dflt (first
      | refine' callWith_K (by first | ((k_asm); done) | fail "by") (by first | ((k_is); done) | fail "by") ?_; k_whole
      | refine' callWith_K0 (by first | ((k_in); done) | fail "by") (by first | ((k_is); done) | fail "by") ?_; k_whole))
  trivial
example : True := by
  k_with "call ref" =>
    (guard_expr hV1 = hV1)
    (k_here; k_dflt (first
      | (refine' call_cls0 (by first | ((k_asm); done) | fail "by") (by first | ((k_asm); done) | fail "by") (by first | ((k_asm); done) | fail "by") (by first | ((k_is); done) | fail "by") (by first | ((k_is); done) | fail "by") ?_; k_whole; intro x'ₖ d'ₖ h'ₖ F'ₖ N'ₖ l1ₖ l2ₖ; (try k_lt l1ₖ); (try k_lt2 l2ₖ); (try k_sweep))
      | (refine' call_cls (by first | ((k_asm); done) | fail "by") (by first | ((k_asm); done) | fail "by") (by first | ((k_asm); done) | fail "by") (by first | ((k_is); done) | fail "by") (by first | ((k_is); done) | fail "by") (by first | ((k_is); done) | fail "by") ?_; k_whole; intro x'ₖ d'ₖ h'ₖ F'ₖ N'ₖ l1ₖ l2ₖ; (try k_lt l1ₖ); (try k_lt2 l2ₖ); (try k_sweep); k_enter)
      | (refine wpAny_call ?_; k_enter)))
  trivial
theorem spot_val {a b : Value} : valueAt [(("cells" : Str), a), (("spot" : Str), b)] "spot" = some b := rfl
theorem cells_val {a b : Value} : valueAt [(("cells" : Str), a), (("spot" : Str), b)] "cells" = some a := rfl
theorem spot_stored {a b c : Value} : stored [(("cells" : Str), a), (("spot" : Str), b)] "spot" c = [(("cells" : Str), a), (("spot" : Str), c)] := rfl
section
variable {A : Around} {E : Value → Shared → Prop} {s : Shared} {h₀ : Heap} {L : Addr} {m : Str → Option Value} {news : Led}
theorem get_there {D : Addr} {o : Obj} {x : Str} {t : Tok} {v : Value} {kvs : List (Str × Value)} {Q : Value → Shared → Prop} (N : News h₀ L s.heap news) (hd : o.IsDictOf (strKind PR w) kvs) (hv : valueAt kvs x = some v) (hm : (D, o) ∈ news)
    (h : Q v { s with toks := s.toks + 1 }) : wpAny (model PR w) A (getItem (.ref D) (.str x t)) Q E s :=
  wpAny_getItem_of (strKind_is PR w x t) (Heap.DictOf.mapOf (Heap.dictOf_iff.mpr ⟨o, (N _ hm).1, hd⟩)) hv h
theorem spot_set {D cl : Addr} {o oc : Obj} {t : Tok} {a b v : Value} {g : Obj → Led} {Q : Unit → Shared → Prop} (F : Fr h₀ L s.heap m) (N : News h₀ L s.heap news) (U : UpdF D o news g) (hd : o.IsDictOf (strKind PR w) [(("cells" : Str), a), (("spot" : Str), b)]) (hg : ∀ o', (cl, oc) ∈ g o' ∧ (D, o') ∈ g o')
    (h : ∀ h' o', Fr h₀ L h' m → News h₀ L h' (g o') → o'.IsDictOf (strKind PR w) [(("cells" : Str), a), (("spot" : Str), v)] → (cl, oc) ∈ g o' → (D, o') ∈ g o' → Q () { s with heap := h', toks := s.toks + 1 }) : wpAny (model PR w) A (setItem (.ref D) (.str "spot" t) v) Q E s :=
  kda_set (knd := strKind PR w) F N U hd (strKind_is PR w _ t) (by rw [sizeLine_eq]; exact Nat.le_of_ble_eq_true rfl) fun h' o' F' N' hd' => h h' o' F' N' (by rw [spot_stored] at hd'; exact hd') (hg o').1 (hg o').2
theorem len_at {D : Addr} {vs : List Value} {n : Nat} {Q : Value → Shared → Prop} (N : News h₀ L s.heap news) (hm : (D, lstO vs n) ∈ news) (hz : vs.length ≤ 10000)
    (h : Q (.int vs.length (s.toks + 1)) { s with toks := s.toks + 1 + 1 }) : wpAny (model PR w) A (call (.builtin "len") [.ref D]) Q E s :=
  call_len_list ⟨_, (N _ hm).1, rfl, n, rfl⟩ (by rw [List.size_toArray]; omega) (by rw [List.size_toArray]; exact h)
theorem sub_ints {value slice : Expr} {D : Addr} {vs : List Value} {cs : List Int} {n : Nat} {k : Int} {u : Tok} {Q : Value → Shared → Prop} (N : News h₀ L s.heap news) (hm : (D, lstO vs n) ∈ news) (hI : IntsAre vs cs) (h0 : 0 ≤ k) (h1 : k < cs.length) (hfit : k < 2 ^ 63)
    (h : ∀ t, Q (.int (cs.getD k.toNat 0) t) s) (hs : subscripted slice false (.ref D) (.int k u) = operate [.ref D, .int k u] (getItem (.ref D) (.int k u)) := by with_unfolding_all rfl) :
    wpAny (model PR w) A (subscriptTail value slice (.ref D) (.int k u)) Q E s := by
 refine @dropI _ ?_ ?_
 ·
  obtain ⟨t, hx⟩ := hI.get k.toNat _ (ints_getD h0 h1)
  have hl : s.heap.IsList D vs.toArray := ⟨_, (N _ hm).1, rfl, n, rfl⟩
  exact tail_any hl.typeIs slot_list_getitem.lookup (wpAny_getItem_list hl h0 hfit (by simpa using hx) (h t)) hs
 · intro T x h; refine dropT ?zB ?zA; simpa only using (h : DropP ?zA x); assumption
end
example : True := by
  k_with "call builtin:len" =>
    (guard_expr hV1 = hV1)
    (k_here; k_dflt (refine' len_at (by first | ((k_asm); done) | fail "by") (by first | ((k_mem); done) | fail "by") (by first | ((omega); done) | fail "by") ?_))
  trivial
example : True := by
  k_with "subscriptTail" =>
    (guard_expr hV1 = hV1)
    (k_here; (with_reducible show wpAny _ _ (subscriptTail _ _ (Value.ref _) (Value.int _ _)) _ _ _); k_dflt (refine' sub_ints (by first | ((k_asm); done) | fail "by") (by first | ((k_mem); done) | fail "by") (by first | ((assumption); done) | fail "by") (by first | ((assumption); done) | fail "by") (by first | ((assumption); done) | fail "by") (by first | ((omega); done) | fail "by") ?_); intro t'ₖ)
  trivial
example : True := by
  k_with "subscriptTail" =>
    (guard_expr hV1 = hV1)
    (k_here; (with_reducible show wpAny _ _ (subscriptTail _ _ (Value.ref _) (Value.str _ _)) _ _ _); k_dflt (refine' item_there (by first | ((k_asm); done) | fail "by") (by first | ((assumption); done) | fail "by") (by first | ((first | exact spot_val | exact cells_val); done) | fail "by") (by first | ((k_mem); done) | fail "by") ?_))
  trivial
example : True := by
  k_with "getItem ref str" =>
    (guard_expr hV1 = hV1)
    (k_here; k_dflt (refine' get_there (by first | ((k_asm); done) | fail "by") (by first | ((assumption); done) | fail "by") (by first | ((first | exact spot_val | exact cells_val); done) | fail "by") (by first | ((k_mem); done) | fail "by") ?_))
  trivial
example : True := by
  k_with "setItem ref str" =>
    (guard_expr hV1 = hV1)
    (k_here; k_dflt (refine' spot_set (by first | ((k_asm); done) | fail "by") (by first | ((k_asm); done) | fail "by") (by first | ((assumption); done) | fail "by") (by first | ((assumption); done) | fail "by") (by first | ((assumption); done) | fail "by") ?_); intro h'ₖ o'ₖ F'ₖ N'ₖ hd'ₖ hc'ₖ hk'ₖ)
  trivial
def KegIs (w : World) (o : Obj) (cl : Addr) (k : Int) : Prop := ∃ t, o.IsDictOf (strKind PR w) [(("cells" : Str), .ref cl), (("spot" : Str), .int k t)]
theorem pour_low (kg cl : Addr) (ok : Obj) (k many : Int) (tm : Tok) (vs : List Value) (cs : List Int) (n : Nat) (h0 : 0 ≤ k) (hk100 : k ≤ 10000) (hm : 0 < many) (hm2 : many ≤ 100) (hI : IntsAre vs cs) (hlen : cs.length ≤ 30) (hlow : k < cs.length) (tk0 : Tok) (hok : ok.IsDictOf (strKind PR w) [(("cells" : Str), .ref cl), (("spot" : Str), .int k tk0)])
    (dp un : Nat) (gd : Option (List Code)) (cn : Str) (cs' : Scope) (a : Addr) (ccd : Value) (cl' : List (Str × Addr)) (outer : List Env) (A₀ : Around) (base h₀ : Heap) (L : Addr) (m : Str → Option Value) (news : Led) (g : Obj → Led) (s : Shared)
    (Q E : Value → Shared → Prop)
    (B : Below A₀ base outer h₀) (F : Fr h₀ L s.heap m) (X : (hd.heap_1_39 w.params).In h₀) (N : News h₀ L s.heap news) (T : Top p loose mean mg mb h₀) (hk : cs'.kind = .function)
    (hcl : (cl, lstO vs n) ∈ news) (hkg : (kg, ok) ∈ news) (hgcl : ∀ o', (cl, lstO vs n) ∈ g o' ∧ (kg, o') ∈ g o') (U : UpdF kg ok news g) (lo : (kg == sysModules) = false)
    (hd : dp + 5 < recursionLimit) (hu : un + 8 * 5 < cLine)
    (hret : ∀ v tv o' h' tk', KegIs w o' cl (k + 1) → 0 ≤ v → v < many → Fr h₀ L h' m → News h₀ L h' (g o') → Q (.int v tv) { s with heap := h', toks := tk' }) :
    wpAny (model PR w) (ktrTop dp un gd cn cs' L a ccd cl' outer) (call (.ref 513) [.ref kg, .int many tm]) Q E s := by
 refine @dropI _ ?_ ?_
 ·
  have hvl := hI.length
  have hlow' : k < (vs.length : Int) := by rw [hvl]; exact hlow
  refine wpAny_call ?_
  k_dflt ktr_enter
  k_steps
  exact hret _ _ _ _ _ ⟨_, by assumption⟩ (Int.fmod_nonneg_of_pos _ hm) (Int.fmod_lt_of_pos _ hm) (by k_asm) (by k_asm)
 · intro T x h; refine dropT ?zB ?zA; simpa only using (h : DropP ?zA x); assumption
theorem pour_high (kg cl : Addr) (ok : Obj) (k many : Int) (tm : Tok) (vs : List Value) (cs : List Int) (n : Nat) (h0 : 0 ≤ k) (hk100 : k ≤ 10000) (hm : 0 < many) (hm2 : many ≤ 100) (hI : IntsAre vs cs) (hlen : cs.length ≤ 30) (hlow : ¬ k < cs.length) (tk0 : Tok) (hok : ok.IsDictOf (strKind PR w) [(("cells" : Str), .ref cl), (("spot" : Str), .int k tk0)])
    (dp un : Nat) (gd : Option (List Code)) (cn : Str) (cs' : Scope) (a : Addr) (ccd : Value) (cl' : List (Str × Addr)) (outer : List Env) (A₀ : Around) (base h₀ : Heap) (L : Addr) (m : Str → Option Value) (news : Led) (g : Obj → Led) (s : Shared)
    (Q E : Value → Shared → Prop)
    (B : Below A₀ base outer h₀) (F : Fr h₀ L s.heap m) (X : (hd.heap_1_39 w.params).In h₀) (N : News h₀ L s.heap news) (T : Top p loose mean mg mb h₀) (hk : cs'.kind = .function)
    (hcl : (cl, lstO vs n) ∈ news) (hkg : (kg, ok) ∈ news) (hgcl : ∀ o', (cl, lstO vs n) ∈ g o' ∧ (kg, o') ∈ g o') (U : UpdF kg ok news g) (lo : (kg == sysModules) = false)
    (hd : dp + 5 < recursionLimit) (hu : un + 8 * 5 < cLine)
    (hret : ∀ v tv o' h' tk', KegIs w o' cl (k + 1) → 0 ≤ v → v < many → Fr h₀ L h' m → News h₀ L h' (g o') → Q (.int v tv) { s with heap := h', toks := tk' }) :
    wpAny (model PR w) (ktrTop dp un gd cn cs' L a ccd cl' outer) (call (.ref 513) [.ref kg, .int many tm]) Q E s := by
 refine @dropI _ ?_ ?_
 ·
  have hvl := hI.length
  have hlow' : ¬ k < (vs.length : Int) := by rw [hvl]; exact hlow
  by_cases h6 : k < 6
  all_goals refine wpAny_call ?_
  all_goals k_dflt ktr_enter
  all_goals k_steps
  all_goals exact hret _ _ _ _ _ ⟨_, by assumption⟩ (Int.fmod_nonneg_of_pos _ hm) (Int.fmod_lt_of_pos _ hm) (by k_asm) (by k_asm)
 · intro T x h; refine dropT ?zB ?zA; simpa only using (h : DropP ?zA x); assumption
theorem pour (kg cl : Addr) (ok : Obj) (k many : Int) (tm : Tok) (vs : List Value) (cs : List Int) (n : Nat) (h0 : 0 ≤ k) (hk100 : k ≤ 10000) (hm : 0 < many) (hm2 : many ≤ 100) (hI : IntsAre vs cs) (hlen : cs.length ≤ 30) (tk0 : Tok) (hok : ok.IsDictOf (strKind PR w) [(("cells" : Str), .ref cl), (("spot" : Str), .int k tk0)])
    (dp un : Nat) (gd : Option (List Code)) (cn : Str) (cs' : Scope) (a : Addr) (ccd : Value) (cl' : List (Str × Addr)) (outer : List Env) (A₀ : Around) (base h₀ : Heap) (L : Addr) (m : Str → Option Value) (news : Led) (g : Obj → Led) (s : Shared)
    (Q E : Value → Shared → Prop)
    (B : Below A₀ base outer h₀) (F : Fr h₀ L s.heap m) (X : (hd.heap_1_39 w.params).In h₀) (N : News h₀ L s.heap news) (T : Top p loose mean mg mb h₀) (hk : cs'.kind = .function)
    (hcl : (cl, lstO vs n) ∈ news) (hkg : (kg, ok) ∈ news) (hgcl : ∀ o', (cl, lstO vs n) ∈ g o' ∧ (kg, o') ∈ g o') (U : UpdF kg ok news g) (lo : (kg == sysModules) = false)
    (hd : dp + 5 < recursionLimit) (hu : un + 8 * 5 < cLine)
    (hret : ∀ v tv o' h' tk', KegIs w o' cl (k + 1) → 0 ≤ v → v < many → Fr h₀ L h' m → News h₀ L h' (g o') → Q (.int v tv) { s with heap := h', toks := tk' }) :
    wpAny (model PR w) (ktrTop dp un gd cn cs' L a ccd cl' outer) (call (.ref 513) [.ref kg, .int many tm]) Q E s := by
 refine @dropI _ ?_ ?_
 ·
  by_cases hlow : k < cs.length
  · exact pour_low kg cl ok k many tm vs cs n h0 hk100 hm hm2 hI hlen hlow tk0 hok dp un gd cn cs' a ccd cl' outer A₀ base h₀ L m news g s Q E B F X N T hk hcl hkg hgcl U lo hd hu hret
  · exact pour_high kg cl ok k many tm vs cs n h0 hk100 hm hm2 hI hlen hlow tk0 hok dp un gd cn cs' a ccd cl' outer A₀ base h₀ L m news g s Q E B F X N T hk hcl hkg hgcl U lo hd hu hret
 · intro T x h; refine dropT ?zB ?zA; simpa only using (h : DropP ?zA x); assumption
theorem pourL {kg cl : Addr} {ok : Obj} {k many : Int} {tm tk0 : Tok} {vs : List Value} {cs : List Int} {n : Nat} {dp un : Nat} {gd : Option (List Code)} {cn : Str} {cs' : Scope} {a : Addr} {ccd : Value} {cl' : List (Str × Addr)} {outer : List Env} {A₀ : Around} {base h₀ : Heap} {L : Addr} {m : Str → Option Value} {news : Led} {g : Obj → Led} {s : Shared}
    {Q E : Value → Shared → Prop} (N : News h₀ L s.heap news) (U : UpdF kg ok news g) (hok : ok.IsDictOf (strKind PR w) [(("cells" : Str), .ref cl), (("spot" : Str), .int k tk0)]) (hcl : (cl, lstO vs n) ∈ news) (hne : cl ≠ kg)
    (h0 : 0 ≤ k) (hk100 : k ≤ 10000) (hm : 0 < many) (hm2 : many ≤ 100) (hI : IntsAre vs cs) (hlen : cs.length ≤ 30)
    (B : Below A₀ base outer h₀) (F : Fr h₀ L s.heap m) (X : (hd.heap_1_39 w.params).In h₀) (T : Top p loose mean mg mb h₀) (hk : cs'.kind = .function) (lo : (kg == sysModules) = false) (hd : dp + 5 < recursionLimit) (hu : un + 8 * 5 < cLine)
    (hret : ∀ v tv o' h' tk', KegIs w o' cl (k + 1) → 0 ≤ v → v < many → Fr h₀ L h' m → News h₀ L h' (g o') → Q (.int v tv) { s with heap := h', toks := tk' }) :
    wpAny (model PR w) (ktrTop dp un gd cn cs' L a ccd cl' outer) (call (.ref 513) [.ref kg, .int many tm]) Q E s := by
 refine @dropI _ ?_ ?_
 ·
  refine sealG fun pS hS9 => ?_
  obtain ⟨pre, post, e1, e2, a1, a2⟩ := U.split
  refine hS9 ?_
  clear hS9 pS
  refine pour kg cl ok k many tm vs cs n h0 hk100 hm hm2 hI hlen tk0 hok dp un gd cn cs' a ccd cl' outer A₀ base h₀ L m news g s Q E B F X N T hk hcl (by rw [e1]; exact List.mem_append_right _ List.mem_cons_self) (fun o' => ?_) U lo hd hu hret
  rw [e2]
  refine ⟨?_, List.mem_append_right _ List.mem_cons_self⟩
  rw [e1] at hcl
  rcases List.mem_append.mp hcl with h | h
  · exact List.mem_append_left _ h
  · rcases List.mem_cons.mp h with h | h
    · exact absurd (congrArg (·.1) h) hne
    · exact List.mem_append_right _ (List.mem_cons_of_mem _ h)
 · intro T x h; refine dropT ?zB ?zA; simpa only using (h : DropP ?zA x); assumption
end
section
example : True := by
  w_top off
  trivial
open PySem.SeqAt
theorem rc_disc {A : Around} {s : Shared} {W : Addr} {led : Led} (hN : ∀ p ∈ led, s.heap.get? p.1 = some p.2) {v : Value} {D : Addr} {k : Nat} {u1 u2 : Tok} (hu : A.units < cLine) (hD : s.heap.get? D = some (tupO [.str "disc" u1, .ref W, .str "e" u2] k)) :
    ∀ {x : Part}, PartAt W led v x → RcAt A s v (.ref D) x.isDisc
  | .num i, h => by obtain ⟨t, e⟩ := h; subst e; exact RcAt.int_tuple i t ⟨_, hD, rfl, k, rfl⟩ hu
  | .obj, h => by
    refine sealG fun pS hS9 => ?_
    obtain ⟨a, n, t1, t2, t3, e, h⟩ := h
    refine hS9 ?_
    clear hS9 pS
    subst e
    have h := RcAt.tuples (A := A) (s := s) (l := a) (b := D) (e := fun j => j == 1) ⟨_, hN _ h, rfl, n, rfl⟩ ⟨_, hD, rfl, k, rfl⟩ hu fun j h1 h2 => by
      rcases j with _ | _ | _ | j
      · have h := EqAt.str_str (A := A.in1) (s := s) "obj" t1 "disc" u1; exact h
      · exact EqAt.same _
      · exact EqAt.int_str _ _ _ _
      · simp at h2; omega
    exact h
  | .disc, h => by
    refine sealG fun pS hS9 => ?_
    obtain ⟨a, n, t1, t2, e, h⟩ := h
    refine hS9 ?_
    clear hS9 pS
    subst e
    have h := RcAt.tuples (A := A) (s := s) (l := a) (b := D) (e := fun j => true) ⟨_, hN _ h, rfl, n, rfl⟩ ⟨_, hD, rfl, k, rfl⟩ hu fun j h1 h2 => by
      rcases j with _ | _ | _ | j
      · have h := EqAt.str_str (A := A.in1) (s := s) "disc" t1 "disc" u1; rwa [beq_self_eq_true] at h
      · exact EqAt.same _
      · have h := EqAt.str_str (A := A.in1) (s := s) "e" t2 "e" u2; rwa [beq_self_eq_true] at h
      · simp at h2; omega
    exact h
def DueAt (V : Int) (W : Addr) (led : Led) (v : Value) (q : List (Str × Part)) : Prop :=
  (hasDisc q = true → PairsAt W led v q) ∧ (hasDisc q = false → ∃ l n vs, v = .ref l ∧ (l, lstO vs n) ∈ led ∧ NumPairs led vs (settled V q))
theorem DueAt.mono {V : Int} {W : Addr} {l l' : Led} {v : Value} {q : List (Str × Part)} (hs : ∀ x ∈ l, x ∈ l') (h : DueAt V W l v q) : DueAt V W l' v q :=
  ⟨fun e => (h.1 e).mono hs, fun e => by obtain ⟨a, n, vs, e1, m, hp⟩ := h.2 e; exact ⟨a, n, vs, e1, hs _ m, hp.mono hs⟩⟩
theorem eq_nums {A : Around} {s : Shared} {led : Led} (hN : ∀ p ∈ led, s.heap.get? p.1 = some p.2) {a b : Addr} {xs ys : List Value} {n k : Nat} (hu : A.units < cLine) (hu1 : A.in1.units < cLine) {ps : List (Str × Int)} (ma : (a, lstO xs n) ∈ led) (mb : (b, lstO ys k) ∈ led) (h : NumPairs led xs ps) (h' : NumPairs led ys ps) : EqAt A s (.ref a) (.ref b) true := by
 refine @dropI _ ?_ ?_
 ·
  refine eq_lst (hN _ ma) (hN _ mb) (h.length.trans h'.length.symm) hu fun j x y hx hy => ?_
  refine sealG fun pS hS9 => ?_
  obtain ⟨q, hq, a1, n1, t1, t2, rfl, m1⟩ := h.get hx
  obtain ⟨q', hq', a2, n2, u1, u2, rfl, m2⟩ := h'.get hy
  refine hS9 ?_
  clear hS9 pS
  rw [hq] at hq'
  cases hq'
  refine eq_tup (hN _ m1) (hN _ m2) rfl hu1 fun j x y hx hy => ?_
  rcases j with _ | _ | j <;> simp at hx hy <;> subst hx hy
  · have h := EqAt.str_str (A := A.in1.in1) (s := s) q.1 t1 q.1 u1; rwa [beq_self_eq_true] at h
  · have h := EqAt.int_int (A := A.in1.in1) (s := s) q.2 t2 q.2 u2; rwa [beq_self_eq_true] at h
 · intro T x h; refine dropT ?zB ?zA; simpa only using (h : DropP ?zA x); assumption
theorem eq_due {A : Around} {s : Shared} {V : Int} {W : Addr} {led : Led} (hN : ∀ p ∈ led, s.heap.get? p.1 = some p.2) {v u : Value} (hu : A.units < cLine) (hu1 : A.in1.units < cLine) (hu2 : A.in1.in1.units < cLine) {q : List (Str × Part)} (h : DueAt V W led v q) (h' : DueAt V W led u q) : EqAt A s v u true := by
 refine @dropI _ ?_ ?_
 ·
  cases hd : hasDisc q with
  | true => exact eq_pairs hN hu hu1 hu2 (h.1 hd) (h'.1 hd)
  | false =>
    refine sealG fun pS hS9 => ?_
    obtain ⟨l, n, vs, rfl, m, hp⟩ := h.2 hd
    obtain ⟨l', n', us, rfl, m', hp'⟩ := h'.2 hd
    refine hS9 ?_
    clear hS9 pS
    exact eq_nums hN hu hu1 m m' hp hp'
 · intro T x h; refine dropT ?zB ?zA; simpa only using (h : DropP ?zA x); assumption
theorem ne_lst {A : Around} {s : Shared} {a b : Addr} {xs ys : List Value} {n k : Nat} (ha : s.heap.get? a = some (lstO xs n)) (hb : s.heap.get? b = some (lstO ys k)) (hl : xs.length = ys.length) (hu : A.units < cLine)
    (he : ∀ (j : Nat) (x y : Value), xs[j]? = some x → ys[j]? = some y → EqAt A.in1 s x y true) : RcNeAt A s (.ref a) (.ref b) false := by
 refine @dropI _ ?_ ?_
 ·
  have h := RcNeAt.lists (A := A) (s := s) (l := a) (b := b) (items := xs.toArray) (items2 := ys.toArray) (e := fun _ => true) ⟨_, ha, rfl, n, rfl⟩ ⟨_, hb, rfl, k, rfl⟩ (by simpa using hl) hu
  have h2 := h (fun j h1 h2 => he j _ _ (by simp) (by simp))
  rwa [show (!((List.range xs.toArray.size).all (fun _ => true))) = false from by simp] at h2
 · intro T x h; refine dropT ?zB ?zA; simpa only using (h : DropP ?zA x); assumption
theorem ne_dues {A : Around} {s : Shared} {V : Int} {W : Addr} {led : Led} (hN : ∀ p ∈ led, s.heap.get? p.1 = some p.2) {a b : Addr} {xs ys : List Value} {n k : Nat} (hu : A.units < cLine) (hu1 : A.in1.units < cLine) (hu2 : A.in1.in1.units < cLine) (hu3 : A.in1.in1.in1.units < cLine) {qs : List (List (Str × Part))} (ma : (a, lstO xs n) ∈ led) (mb : (b, lstO ys k) ∈ led) (h : All2 (DueAt V W led) xs qs) (h' : All2 (DueAt V W led) ys qs) : RcNeAt A s (.ref a) (.ref b) false := by
 refine @dropI _ ?_ ?_
 ·
  refine ne_lst (hN _ ma) (hN _ mb) (h.length.trans h'.length.symm) hu fun j x y hx hy => ?_
  refine sealG fun pS hS9 => ?_
  obtain ⟨q, hq, h1⟩ := h.get hx
  obtain ⟨q', hq', h2⟩ := h'.get hy
  refine hS9 ?_
  clear hS9 pS
  rw [hq] at hq'
  cases hq'
  exact eq_due hN hu1 hu2 hu3 h1 h2
 · intro T x h; refine dropT ?zB ?zA; simpa only using (h : DropP ?zA x); assumption
theorem ne_told {A : Around} {s : Shared} {W : Addr} {led : Led} (hN : ∀ p ∈ led, s.heap.get? p.1 = some p.2) {a b : Addr} {xs ys : List Value} {n k : Nat} (hu : A.units < cLine) (hu1 : A.in1.units < cLine) (hu2 : A.in1.in1.units < cLine) (hu3 : A.in1.in1.in1.units < cLine) {qs : List (List (Str × Part))} (ma : (a, lstO xs n) ∈ led) (mb : (b, lstO ys k) ∈ led) (h : All2 (PairsAt W led) xs qs) (h' : All2 (PairsAt W led) ys qs) : RcNeAt A s (.ref a) (.ref b) false := by
 refine @dropI _ ?_ ?_
 ·
  refine ne_lst (hN _ ma) (hN _ mb) (h.length.trans h'.length.symm) hu fun j x y hx hy => ?_
  refine sealG fun pS hS9 => ?_
  obtain ⟨q, hq, h1⟩ := h.get hx
  obtain ⟨q', hq', h2⟩ := h'.get hy
  refine hS9 ?_
  clear hS9 pS
  rw [hq] at hq'
  cases hq'
  exact eq_pairs hN hu1 hu2 hu3 h1 h2
 · intro T x h; refine dropT ?zB ?zA; simpa only using (h : DropP ?zA x); assumption
theorem nums_of {V : Int} {W : Addr} {led : Led} {vs : List Value} {ps : List (Str × Part)} (h : All2 (PairAt W led) vs ps) (hn : (ps.any fun q => q.2.isTup) = false) : NumPairs led vs (settled V ps) := by
 refine @dropI _ ?_ ?_
 ·
  induction h with
  | nil => exact .nil
  | @cons v q _ _ x _ ih =>
    simp only [List.any_cons, Bool.or_eq_false_iff] at hn
    refine .cons ?_ (ih hn.2)
    refine sealG fun pS hS9 => ?_
    obtain ⟨a, n, t, pv, e, m, hp⟩ := x
    refine hS9 ?_
    clear hS9 pS
    cases hq : q.2 with
    | num i =>
      rw [hq] at hp
      obtain ⟨t2, rfl⟩ := hp
      exact ⟨a, n, t, t2, e, by simp only [hq, settle]; exact m⟩
    | obj => rw [hq] at hn; cases hn.1
    | disc => rw [hq] at hn; cases hn.1
 · intro T x h; refine dropT ?zB ?zA; simpa only using (h : DropP ?zA x); assumption
def lateB (qs : List (List (Str × Part))) : Bool := qs.any fun q => !hasDisc q && q.any fun x => x.2.isTup
end
section
example : True := by
  w_top off
  trivial
variable {w : World} {p : Program} {loose : List Str} {mean : ExcName → Option Value} {mg mb : Str → Option Value}
section
variable {M : Model} {A : Around} {E : Value → Shared → Prop} {s : Shared}
theorem matches_mine {C e : Addr} {oe : Obj} {Q : Bool → Shared → Prop} (Y : MakesE M s.heap C) (he : s.heap.get? e = some oe) (hcls : oe.cls = .ref C) (hq : Q true s) : wpAny M A (excMatches (.ref e) (.ref C)) Q E s := by
 refine @dropI _ ?_ ?_
 ·
  have bexc := Y.bexc
  have self := Y.self
  have typ := Y.typ
  have f := tc_notTuple
  refine sealG fun pS hS9 => ?_
  obtain ⟨hh, g, d, t, os⟩ := s
  refine hS9 ?_
  clear hS9 pS
  dsimp only at bexc self typ he Y
  refine sealG fun pS hS9 => ?_
  obtain ⟨oc, od, cd, sl', hC, e1, e2, e4, eh, rfl⟩ := Y.obj
  refine hS9 ?_
  clear hS9 pS
  have he' : Looks M hh (typeOf (.ref e)) (.ref C) := by
    rw [← hcls]
    exact (Looks.ld he).andThen .now
  unfold excMatches
  repeat (first | (with_reducible refine Looks.at (by assumption) ?_) | (with_reducible refine wpAny_loadPart_at hC ?_) | wp_step)
  exact hq
 · intro T x h; refine dropT ?zB ?zA; simpa only using (h : DropP ?zA x); assumption
end
theorem land {g B h : Heap} {outer : List Env} {env : Env} {L e dx C : Addr} {m : Str → Option Value} {led : Led} (hB : g.StaysIn B) (hl : ∀ q ∈ led, B.get? q.1 = some q.2 ∧ g.get? q.1 = none) (hf : env.frame = some L) (hfl : FlyingD B (env :: outer) e C dx h) (hn : h.Ns L m) (ha : g.objs.size ≤ L) :
    ∃ vs sl, Fr g L h m ∧ News g L h ((e, ⟨.ref C, some dx, .fields vs, sl⟩) :: led) ∧ ∀ q ∈ led, q.1 ≠ e := by
 refine @dropI _ ?_ ?_
 ·
  refine sealG fun pS hS9 => ?_
  obtain ⟨f1, f2, f3, fl, sl, vs, T, oT, ts, he, -⟩ := hfl
  obtain ⟨b1, o, ho, hnf⟩ := f3.mem (List.mem_filterMap.mpr ⟨env, List.mem_cons_self, hf⟩)
  refine hS9 ?_
  clear hS9 pS
  have hL : e ≠ L := fun q => by subst q; rw [he] at ho; cases ho; exact hnf vs rfl
  refine ⟨vs, sl, ⟨hn, fun b o q => f1 _ _ (hB b o q), ha⟩, fun q hq => ?_, fun q hq z => ?_⟩
  · rcases List.mem_cons.mp hq with rfl | hq
    · exact ⟨he, hL, fresh_of_stays hB f2⟩
    · obtain ⟨h1, h2⟩ := hl q hq
      exact ⟨f1 _ _ h1, (fun z => (by rw [z, b1] at h1; cases h1)), h2⟩
  · have h1 := (hl q hq).1
    rw [z, f2] at h1
    cases h1
 · intro T x h; refine dropT ?zB ?zA; simpa only using (h : DropP ?zA x); assumption
section
variable {prog : Program} {w : World} {A₀ : Around} {E : Value → Shared → Prop} {s' : Shared} {g h : Heap} {outer : List Env} {env : Env} {L e dx C : Addr} {m : Str → Option Value} {n : Str} {t : Expr} {b₀ : Stmt} {suite : List Stmt} {pos : Pos} {rest : List ExceptHandler} {Q : Flow → Shared → Prop} {led : Led} {K : Frag}
theorem caught_mine (KB : Below A₀ g outer g) (X : K.In g) (hmk : makesE K C = true) (hf : env.frame = some L) (hLe : env.locals = L) (hlo : env.kindOf n = some .local) (hp : (env.scope.kind == .class || (env.scope.kind == .module && env.locals != env.globals)) = false) (ha : g.objs.size ≤ L)
    (R : RaisedA g (env :: outer) e C dx led s'.heap) (hn : s'.heap.Ns L m)
    (hev : ∀ (h : Heap) (Q' E' : Value → Shared → Prop), Fr g L h m → Q' (.ref C) { s' with heap := h } → wpAny (model prog w) ((A₀.deeper env).mark (some (.ref e))) (eval t env) Q' E' { s' with heap := h })
    (k : ∀ h' vs sl tk, Fr g L h' (fun y => if y = n then some (.ref e) else m y) → News g L h' ((e, ⟨.ref C, some dx, .fields vs, sl⟩) :: led) →
      wpAny (model prog w) ((A₀.deeper env).mark (some (.ref e))) (execs (b₀ :: suite) env)
        (fun f s₄ => wpAny (model prog w) (A₀.deeper env) (do bindName env n .none; unbindBehindTheSuite env n pos) (fun _ s₅ => Q f s₅) E s₄)
        (AsSuiteRaised (model prog w) ((A₀.deeper env).mark (some (.ref e))) env n pos (notedBy (model prog w) ((A₀.deeper env).mark (some (.ref e))) env (cameBackBy (model prog w) (A₀.deeper env) env E)))
        { s' with heap := h', toks := tk }) :
    wpAny (model prog w) (A₀.deeper env) (noteFrame (.ref e) env)
      (fun _ s₂ => wpAny (model prog w) (A₀.deeper env) (setFlight (.ref e) none) (fun _ s₃ =>
        wpAny (model prog w) (A₀.deeper env) (handleBy (.ref e) env (.ExceptHandler (some t) (some n) (b₀ :: suite) pos :: rest)) Q E s₃) E s₂) E s' := by
 refine @dropI _ ?_ ?_
 ·
  refine sealG fun pS hS9 => ?_
  obtain ⟨B, hB, hl, hfl⟩ := R
  refine hS9 ?_
  clear hS9 pS
  refine noteD_fly (Around.frames_deeper KB.stack) hf hfl fun h₁ f₁ u₁ => ?_
  refine flightD_any f₁ fun h₂ f₂ u₂ => ?_
  have n₂ := (u₁.trans u₂).ns hn
  refine sealG fun pS hS9 => ?_
  obtain ⟨vs₂, sl₂, F₂, N₂, -⟩ := land hB hl hf f₂ n₂ ha
  refine hS9 ?_
  clear hS9 pS
  refine wpAny_handleBy_cons (codeAny_handlers_test (hev h₂ _ _ F₂ (matches_mine (makesE_of (X.keeps F₂.keep) hmk) (N₂ _ List.mem_cons_self).1 rfl (codeAny_handlers_suite_as ?_)))) (by intro q; cases q)
  refine flightD_any f₂ fun h₃ f₃ u₃ => ?_
  refine sealG fun pS hS9 => ?_
  obtain ⟨vs₃, sl₃, F₃, N₃, -⟩ := land hB hl hf f₃ (u₃.ns n₂) ha
  refine hS9 ?_
  clear hS9 pS
  subst hLe
  refine wpAny_storeName_local hlo F₃.ns (fun h₄ hn₄ hs₄ => ?_) hp
  exact k h₄ vs₃ sl₃ _ (F₃.set hn₄ hs₄) (N₃.set hs₄)
 · intro T x h; refine dropT ?zB ?zA; simpa only using (h : DropP ?zA x); assumption
end
section
variable {prog : Program} {w : World} {A : Around} {E : Value → Shared → Prop} {s : Shared} {K : Frag} {C L x : Addr} {h₀ : Heap} {m : Str → Option Value} {news : Led} {Q : Value → Shared → Prop}
theorem getE_own {fs : Array Value} {osl : Array (Option Value)} {dx : Addr} {name : Str} {expr : Bool} {v : Value} {es : List DictEntry} {n : Nat} {attr : Option Value} (F : Fr h₀ L s.heap m) (X₀ : K.In h₀) (N : News h₀ L s.heap news)
    (hx : (x, (⟨.ref C, some dx, .fields fs, osl⟩ : Obj)) ∈ news) (hd : (dx, dictOf es n) ∈ news) (hm : makesE K C = true) (hga : findIn K (.ref C) "__getattribute__" = some (some (.builtin "BaseException.__getattribute__"))) (hgh : findIn K (.ref C) "__getattr__" = some none) (hh : hasDictIn K C = true) (ha : findIn K (.ref C) name = some attr) (hn : noGet K attr = true) (hl : getL name es = some (some v)) (hv : handedIn v = true)
    (h : Q v { s with toks := s.toks + 1 }) : wpAny (model prog w) A (getAttr (.ref x) name expr) Q E s := by
 refine @dropI _ ?_ ?_
 ·
  have X := X₀.keeps F.keep
  have I : W.InstAt s.heap x ⟨.ref C, some dx, .fields fs, osl⟩ C (some (dictOf es n)) := ⟨(N _ hx).1, rfl, rfl, (N _ hd).1⟩
  have Y := makesE_of (M := model prog w) X hm
  have bexc := Y.bexc
  have L0 := I.type (M := model prog w)
  have L1 := looks_findIn (M := model prog w) X hga
  have L2 := looks_findIn (M := model prog w) X hgh
  have L3 := looks_find (M := model prog w) X I (name := name) (findObj_own hh ha hn (by rw [lookIn_dict]; exact hl))
  have FB := PySem.F.attr_Exception
  have f3 := FB.ga.bind (.ref x)
  refine sealG fun pS hS9 => ?_
  obtain ⟨hh', g, d, t, os⟩ := s
  refine hS9 ?_
  clear hS9 pS
  have hx0 : (expr && onTheHeap (Value.builtin "BaseException.__getattribute__")) = false := by cases expr <;> rfl
  have hx2 : (Value.builtin "BaseException.__getattribute__" == Value.builtin "object.__getattribute__") = false := by decide +kernel
  have hx1 : (onTheHeap (Value.ref C) && Value.builtin "BaseException.__getattribute__" == Value.builtin "object.__getattribute__") = false := by rw [hx2]; rfl
  have hho : (handedOut v : Sem Value) = pure v := handedOut_of hv
  unfold getAttr
  repeat (any_goals (first | assumption | (with_reducible refine Looks.at (by assumption) ?_) | wp_step))
  have hk : builtinKind "BaseException.__getattribute__" = some .slot := by decide +kernel
  have hsplit : splitId "BaseException.__getattribute__" = some ("BaseException", "__getattribute__") := by decide +kernel
  have hao := PySem.F.args_bexc_ga (.ref x) (.str name t)
  refine codeAny_call_builtin FB.ga.plain PySem.F.entry_bexc_ga ?_
  simp only [checkBuiltinCall, hk, hsplit]
  refine wpAny_bind ?_
  unfold isInstance
  repeat (first | (with_reducible refine Looks.at (by assumption) ?_) | wp_step)
  exact h
 · intro T x h; refine dropT ?zB ?zA; simpa only using (h : DropP ?zA x); assumption
end
end
section
example : True := by
  w_top off
  trivial
theorem sB1.hB1 : True := trivial
open sB1
variable {w : World} {p : Program} {loose : List Str} {mean : ExcName → Option Value} {mg mb : Str → Option Value}
theorem fr_chain {h₀ h : Heap} {L : Addr} {m : Str → Option Value} {x : Str} {v : Value} (hx : m x = some v) (F : Fr h₀ L h m) : Fr h₀ L h (fun y => if y = x then some v else m y) := by
  rw [chain_eq hx]; exact F
abbrev LawLed (L : Addr) (oV oF oW : Obj) (kg : Addr) (ok : Obj) (news : Led) : Led := (L + 3, oV) :: (L + 2, oF) :: (L + 1, oW) :: (515, tabObj #[]) :: (kg, ok) :: news
theorem keg_upd {L kg : Addr} {oV oF oW ok : Obj} {news : Led} (l0 : @LT.lt Nat _ 515 L) (hkg : @LT.lt Nat _ (L + 3) kg) (hne : ∀ p ∈ news, p.1 ≠ kg) : UpdF kg ok (LawLed L oV oF oW kg ok news) (fun o' => LawLed L oV oF oW kg o' news) :=
  .tail (by show @Ne Nat _ _; omega) (.tail (by show @Ne Nat _ _; omega) (.tail (by show @Ne Nat _ _; omega) (.tail (by show @Ne Nat _ _; omega) (.head hne))))
def StrsAre2 (vs : List Value) (ns : List Str) : Prop := All2 (fun v x => ∃ t, v = .str x t) vs ns
theorem All2.drop {α β : Type} {R : α → β → Prop} {l : List α} {m : List β} (h : All2 R l m) : ∀ k, All2 R (l.drop k) (m.drop k) := by
  induction h with
  | nil => intro k; cases k <;> exact .nil
  | cons x t ih =>
    intro k
    cases k with
    | zero => exact .cons x t
    | succ k => exact ih k
theorem All2.take {α β : Type} {R : α → β → Prop} {l : List α} {m : List β} (h : All2 R l m) : ∀ k, All2 R (l.take k) (m.take k) := by
  induction h with
  | nil => intro k; cases k <;> exact .nil
  | cons x _ ih =>
    intro k
    cases k with
    | zero => exact .nil
    | succ k => exact .cons x (ih k)
theorem list_of {A : Around} {E : Value → Shared → Prop} {s : Shared} {h₀ : Heap} {L b : Addr} {m : Str → Option Value} {news : Led} {vs : List Value} {n : Nat} {Q : Value → Shared → Prop} (F : Fr h₀ L s.heap m) (N : News h₀ L s.heap news) (hb : (b, lstO vs n) ∈ news) (hz : vs.length ≤ 10000)
    (h : ∀ D c h', Fr h₀ L h' m → News h₀ L h' ((D, lstO vs c) :: news) → (∀ q ∈ news, @LT.lt Nat _ q.1 D) → Q (.ref D) { s with heap := h' }) : wpAny (model PR w) A (call (.type "list") [.ref b]) Q E s :=
  kup_listOf F N hb (by simp) h (by rw [sizeLine_eq]; simp; omega)
def over (L kg : Addr) (l : Led) : Led := l.filter fun p => !(p.1 == kg) && Nat.blt (L + 3) p.1
theorem mem_over {L kg : Addr} {l : Led} {x : Addr × Obj} : x ∈ over L kg l ↔ x ∈ l ∧ x.1 ≠ kg ∧ @LT.lt Nat _ (L + 3) x.1 := by
 refine @dropI _ ?_ ?_
 ·
  unfold over
  rw [List.mem_filter]
  constructor
  · intro hR09
    obtain ⟨h1, h2⟩ := hR09
    rw [Bool.and_eq_true] at h2
    exact ⟨h1, by simpa using h2.1, by simpa [Nat.blt_eq] using h2.2⟩
  · intro hR09
    obtain ⟨h1, h2, h3⟩ := hR09
    refine ⟨h1, ?_⟩
    rw [Bool.and_eq_true]
    exact ⟨by simpa using h2, by simpa [Nat.blt_eq] using h3⟩
 · intro T x h; refine dropT ?zB ?zA; simpa only using (h : DropP ?zA x); assumption
theorem over_sub {L kg : Addr} {l l' : Led} (h : ∀ x ∈ l, x ∈ l') : ∀ x ∈ over L kg l, x ∈ over L kg l' := fun x hx => mem_over.mpr ⟨h x (mem_over.mp hx).1, (mem_over.mp hx).2⟩
theorem law_led {h₀ h : Heap} {L kg : Addr} {oV oF oW ok : Obj} {FL : Led} (N : News h₀ L h FL) (hl : ∀ p ∈ LawLed L oV oF oW kg ok [], p ∈ FL) : News h₀ L h (LawLed L oV oF oW kg ok (over L kg FL)) := fun p hp => by
  simp only [LawLed, List.mem_cons, List.not_mem_nil, or_false] at hl hp
  rcases hp with h | h | h | h | h | h
  · exact N p (hl p (.inl h))
  · exact N p (hl p (.inr (.inl h)))
  · exact N p (hl p (.inr (.inr (.inl h))))
  · exact N p (hl p (.inr (.inr (.inr (.inl h)))))
  · exact N p (hl p (.inr (.inr (.inr (.inr h)))))
  · exact N p (mem_over.mp h).1
theorem led_order {h₀ h : Heap} {L : Addr} {x y a b c d k : Addr × Obj} {news : Led} (N : News h₀ L h (x :: y :: a :: b :: c :: d :: k :: news)) : News h₀ L h (a :: b :: c :: d :: k :: x :: news) := news_sub N fun p hp => by
  simp only [List.mem_cons] at hp ⊢
  rcases hp with h | h | h | h | h | h | h <;> simp only [h, true_or, or_true]
theorem names_cut {v1 v2 : Int} (h1 : 0 ≤ v1) (h2 : v1 < 5) (h3 : 0 ≤ v2) (h4 : v2 < 2) : 1 ≤ min (min (v1 + 1 + v2).toNat 5 - v1.toNat) (5 - v1.toNat) ∧ min (min (v1 + 1 + v2).toNat 5 - v1.toNat) (5 - v1.toNat) ≤ 2 ∧ min (v1 + 1 + v2).toNat 5 - v1.toNat ≠ 5 := by
 refine @dropI _ ?_ ?_
 ·
  refine sealG fun pS hS9 => ?_
  obtain ⟨a, rfl⟩ := Int.eq_ofNat_of_zero_le h1
  obtain ⟨b, rfl⟩ := Int.eq_ofNat_of_zero_le h3
  refine hS9 ?_
  clear hS9 pS
  exact (by decide : ∀ a < 5, ∀ b < 2, 1 ≤ min (min (a + 1 + b) 5 - a) (5 - a) ∧ min (min (a + 1 + b) 5 - a) (5 - a) ≤ 2 ∧ min (a + 1 + b) 5 - a ≠ 5) a (Int.ofNat_lt.mp h2) b (Int.ofNat_lt.mp h4)
 · intro T x h; refine dropT ?zB ?zA; simpa only using (h : DropP ?zA x); assumption
example : True := by
  k_with "callWith ref" =>
    (guard_expr hB1 = hB1)
    (k_here; k_dflt (first
      | refine' callWith_K (by first | ((k_asm); done) | fail "by") (by first | ((k_is); done) | fail "by") ?_; k_whole
      | refine' callWith_K0 (by first | ((k_in); done) | fail "by") (by first | ((k_is); done) | fail "by") ?_; k_whole))
  trivial
example : True := by
  k_with "call ref" =>
    (guard_expr hB1 = hB1)
    (k_here; k_dflt (first
    | ((with_reducible show wpAny _ _ (call (Value.ref 513) _) _ _ _); refine stop_here ?_)
      | (refine' call_cls0 (by first | ((k_asm); done) | fail "by") (by first | ((k_asm); done) | fail "by") (by first | ((k_asm); done) | fail "by") (by first | ((k_is); done) | fail "by") (by first | ((k_is); done) | fail "by") ?_; k_whole; intro x'ₖ d'ₖ h'ₖ F'ₖ N'ₖ l1ₖ l2ₖ; (try k_lt l1ₖ); (try k_lt2 l2ₖ); (try k_sweep))
      | (refine' call_cls (by first | ((k_asm); done) | fail "by") (by first | ((k_asm); done) | fail "by") (by first | ((k_asm); done) | fail "by") (by first | ((k_is); done) | fail "by") (by first | ((k_is); done) | fail "by") (by first | ((k_is); done) | fail "by") ?_; k_whole; intro x'ₖ d'ₖ h'ₖ F'ₖ N'ₖ l1ₖ l2ₖ; (try k_lt l1ₖ); (try k_lt2 l2ₖ); (try k_sweep); k_enter)
      | (refine wpAny_call ?_; k_enter)))
  trivial
example : True := by
  k_with "subscriptTail" =>
    (guard_expr hB1 = hB1)
    (k_here; (with_reducible show wpAny _ _ (subscriptTail _ (PySem.Expr.Slice (some _) (some _) none _) (Value.ref _) (Value.ref _)) _ _ _); k_dflt (refine' slice_part (by first | ((k_asm); done) | fail "by") (by first | ((k_asm); done) | fail "by") (by first | ((k_mem); done) | fail "by") (by first | ((omega); done) | fail "by") (by first | ((simp only [List.length_cons, List.length_nil]; omega); done) | fail "by") (by first | ((omega); done) | fail "by") (by first | ((first | assumption | (simp only [List.length_cons, List.length_nil]; omega)); done) | fail "by") ?_ (by first | ((with_unfolding_all rfl); done) | fail "by") (by first | ((intro _; with_unfolding_all rfl); done) | fail "by") (by first | ((exact Nat.le_of_ble_eq_true rfl); done) | fail "by")); intro D'ₖ h'ₖ F'ₖ N'ₖ l1ₖ; (try k_lt l1ₖ))
  trivial
theorem segB {fa : Addr} {ql nm : Str} {pr : Arguments} {body : List Stmt} {sc : Scope} {dV kV doc pm cdv ct oc : Value} {an od : Option Addr} {osl : Array (Option Value)} (hb : (hd.heap_1_39 w.params).lookup 518 = some ⟨oc, od, .func (fnOf nm ql pr body sc dV kV doc pm an cdv ct), osl⟩)
    {g : Heap} {L : Addr} {m : Str → Option Value} {s : Shared} {Q : Flow → Shared → Prop} {E : Value → Shared → Prop}
    (K0 : Below callerA g [] g) (F : Fr g L s.heap m) (X : (hd.heap_1_39 w.params).In g) (T : Top p loose mean mg mb g) (l0 : @LT.lt Nat _ 515 L)
    {kg cl : Addr} {oV oF oW ok : Obj} {news : Led} {k : Int} {tk0 : Tok} {vs : List Value} {cs : List Int} {n : Nat} (hkg : @LT.lt Nat _ (L + 3) kg) (hne : ∀ p ∈ news, p.1 ≠ kg) (N : News g L s.heap (LawLed L oV oF oW kg ok news))
    (hok : ok.IsDictOf (strKind PR w) [(("cells" : Str), .ref cl), (("spot" : Str), .int k tk0)]) (h0 : 0 ≤ k) (hk100 : k ≤ 100) (hcl : (cl, lstO vs n) ∈ news) (hI : IntsAre vs cs) (hlen : cs.length ≤ 30) (lo : (kg == sysModules) = false) (hce : cl ≠ kg) (hm : m "keg" = some (.ref kg))
    (hQ : ∀ h' tk' ok' tz t vn nn ns m', ok'.IsDictOf (strKind PR w) [(("cells" : Str), .ref cl), (("spot" : Str), .int (k + 2) tz)] → StrsAre2 vn ns → ns.Nodup → 1 ≤ ns.length → ns.length ≤ 2 → Fr g L h' m' → m' "names" = some (.ref t) → (∀ y : Str, y ≠ "names" → y ≠ "first" → m' y = m y) →
      News g L h' (LawLed L oV oF oW kg ok' ((t, tupO vn nn) :: news)) → (∀ p ∈ news, @LT.lt Nat _ p.1 t) → @LT.lt Nat _ kg t → Q .next { s with heap := h', toks := tk' }) : wpAny (model PR w) (callerA.deeper (envOfC ql sc L fa cdv)) (execs ((body.drop 3).take 2) (envOfC ql sc L fa cdv)) Q E s := by
 refine @dropI _ ?_ ?_
 ·
  have hb' := hb
  rw [show (hd.heap_1_39 w.params).lookup 518 = _ from by k_dflt k_is] at hb'
  injection hb' with hb'
  injection hb' with e1 e2 e3 e4
  injection e3 with e3
  injection e3 with f1 f2 f3 f4 f5 f6 f7 f8 f9 f10 f11 f12 f13 f14
  injection f4 with f4
  subst f4 f5 f2 f12 f13
  clear hb f1 f3 f6 f7 f8 f9 f10 f11 f14 e1 e2 e4
  (try simp only [List.drop, List.take])
  dsimp only [LawLed] at N
  replace F := fr_chain hm F
  k_steps
  unfold Stopped
  refine' pourL ?Np1 ?Up1 hok ?cp1 ?ep1 ?zp1 ?yp1 (by decide) (by decide) hI hlen ?Bp1 ?Fp1 ?Xp1 ?Tp1 ?kp1 lo ?dp1 ?up1 ?_; (case Np1 => k_asm); (case Up1 => exact keg_upd l0 hkg hne); (case Bp1 => k_asm); (case Fp1 => k_asm); (case Xp1 => k_asm); (case Tp1 => k_asm); (case kp1 => exact rfl); (case cp1 => k_mem); (case ep1 => exact hce); (case zp1 => omega); (case yp1 => omega); (case dp1 => ktr_room); (case up1 => ktr_units)
  intro v1 tv1 ok1 h1 tk1 hR59 hv1 hv1' F1 N1
  obtain ⟨tz1, hok1⟩ := hR59
  replace N1 : News g L h1 ((L + 3, oV) :: (L + 2, oF) :: (L + 1, oW) :: (515, tabObj #[]) :: (kg, ok1) :: news) := N1
  k_steps
  unfold Stopped
  refine' pourL ?Np2 ?Up2 hok1 ?cp2 ?ep2 ?zp2 ?yp2 (by decide) (by decide) hI hlen ?Bp2 ?Fp2 ?Xp2 ?Tp2 ?kp2 lo ?dp2 ?up2 ?_; (case Np2 => k_asm); (case Up2 => exact UpdF.tail (by show @Ne Nat _ _; omega) (keg_upd l0 hkg hne)); (case Bp2 => k_asm); (case Fp2 => k_asm); (case Xp2 => k_asm); (case Tp2 => k_asm); (case kp2 => exact rfl); (case cp2 => k_mem); (case ep2 => exact hce); (case zp2 => omega); (case yp2 => omega); (case dp2 => ktr_room); (case up2 => ktr_units)
  intro v2 tv2 ok2 h2 tk2 hR59 hv2 hv2' F2 N2
  obtain ⟨tz2, hok2⟩ := hR59
  replace N2 : News g L h2 ((_, _) :: (L + 3, oV) :: (L + 2, oF) :: (L + 1, oW) :: (515, tabObj #[]) :: (kg, ok2) :: news) := N2
  have hcut := names_cut hv1 hv1' hv2 hv2'
  obtain ⟨hcut1, hcut2, hcut3⟩ := hcut
  k_steps
  have hok3 : ok2.IsDictOf (strKind PR w) [(("cells" : Str), .ref cl), (("spot" : Str), .int (k + 2) tz2)] := by
    have e : k + 1 + 1 = k + 2 := by omega
    rw [← e]; exact hok2
  refine hQ _ _ ok2 tz2 _ _ _ (((["disc", "d", "discs", "range", "e"] : List Str).drop v1.toNat).take (min (v1 + 1 + v2).toNat 5 - v1.toNat)) _ hok3 ?_ ?_ ?_ ?_ (by k_asm) (if_pos rfl) ?_ (led_order (by k_asm)) ?_ ?_
  · exact ((All2.cons ⟨_, rfl⟩ (.cons ⟨_, rfl⟩ (.cons ⟨_, rfl⟩ (.cons ⟨_, rfl⟩ (.cons ⟨_, rfl⟩ .nil))))).drop _).take _
  · exact List.Nodup.sublist (List.Sublist.trans (List.take_sublist _ _) (List.drop_sublist _ _)) (by decide)
  · rw [List.length_take, List.length_drop]; exact hcut1
  · rw [List.length_take, List.length_drop]; exact hcut2
  · intro y h1 h2
    rw [if_neg h1, if_neg h2]
    split
    · next e => rw [e, hm]
    · rfl
  · exact tb_ltOf (by tbn_find)
  · omega
 · intro T x h; refine dropT ?zB ?zA; simpa only using (h : DropP ?zA x); assumption
end
section
example : True := by
  w_top off
  trivial
theorem sB0.hB0 : True := trivial
open sB0
variable {w : World} {p : Program} {loose : List Str} {mean : ExcName → Option Value} {mg mb : Str → Option Value}
example : True := by
  k_with "callWith ref" =>
    (guard_expr hB0 = hB0)
    (k_here; k_dflt (first
      | refine' callWith_K (by first | ((k_asm); done) | fail "by") (by first | ((k_is); done) | fail "by") ?_; k_whole
      | refine' callWith_K0 (by first | ((k_in); done) | fail "by") (by first | ((k_is); done) | fail "by") ?_; k_whole))
  trivial
example : True := by
  k_with "call ref" =>
    (guard_expr hB0 = hB0)
    (k_here; k_dflt (first
      | (refine' call_cls0 (by first | ((k_asm); done) | fail "by") (by first | ((k_asm); done) | fail "by") (by first | ((k_asm); done) | fail "by") (by first | ((k_is); done) | fail "by") (by first | ((k_is); done) | fail "by") ?_; k_whole; intro x'ₖ d'ₖ h'ₖ F'ₖ N'ₖ l1ₖ l2ₖ; (try k_lt l1ₖ); (try k_lt2 l2ₖ); (try k_sweep))
      | (refine' call_cls (by first | ((k_asm); done) | fail "by") (by first | ((k_asm); done) | fail "by") (by first | ((k_asm); done) | fail "by") (by first | ((k_is); done) | fail "by") (by first | ((k_is); done) | fail "by") (by first | ((k_is); done) | fail "by") ?_; k_whole; intro x'ₖ d'ₖ h'ₖ F'ₖ N'ₖ l1ₖ l2ₖ; (try k_lt l1ₖ); (try k_lt2 l2ₖ); (try k_sweep); k_enter)
      | (refine wpAny_call ?_; k_enter)))
  trivial
theorem overs_led {R : Prop} {g h : Heap} {L kg : Addr} {oV oF oW ok : Obj} {FL : Led} (N : News g L h FL) (m1 : (L + 3, oV) ∈ FL) (m2 : (L + 2, oF) ∈ FL) (m3 : (L + 1, oW) ∈ FL) (m4 : ((515 : Addr), tabObj #[]) ∈ FL) (m5 : (kg, ok) ∈ FL)
    (hK : ∀ news, News g L h (LawLed L oV oF oW kg ok news) → (∀ (x : Addr) (o : Obj), (x, o) ∈ FL → @Ne Nat x kg → @LT.lt Nat _ (L + 3) x → (x, o) ∈ news) → (∀ p ∈ news, p.1 ≠ kg ∧ @LT.lt Nat _ (L + 3) p.1) → R) : R := by
 refine @dropI _ ?_ ?_
 ·
  refine hK (over L kg FL) (law_led N fun p hp => ?_) (fun x o hx hn hl => mem_over.mpr ⟨hx, hn, hl⟩) fun p hp => (mem_over.mp hp).2
  simp only [LawLed, List.mem_cons, List.not_mem_nil, or_false] at hp
  rcases hp with rfl | rfl | rfl | rfl | rfl <;> assumption
 · intro T x h; refine dropT ?zB ?zA; simpa only using (h : DropP ?zA x); assumption
theorem ints_get {vs : List Value} {ns : List Int} (h : IntsAre vs ns) : ∀ {i : Nat} {v : Value}, vs[i]? = some v → ∃ z, ns[i]? = some z ∧ ∃ t, v = .int z t := by
  induction h with
  | nil => intro i v e; exact nomatch e
  | cons n t h ih =>
    intro i v e
    cases i with
    | zero => cases e; exact ⟨_, rfl, _, rfl⟩
    | succ i => exact ih e
theorem ints_snoc {vs : List Value} {ns : List Int} {z : Int} {t : Tok} (h : IntsAre vs ns) : IntsAre (vs ++ [.int z t]) (ns ++ [z]) := h.append (.cons z t .nil)
example : True := by
  k_with "eval ListComp" =>
    (guard_expr hB0 = hB0)
    (k_here; refine stop_here ?_)
  trivial
theorem segA0 {fa : Addr} {ql nm : Str} {pr : Arguments} {body : List Stmt} {sc : Scope} {dV kV doc pm cdv ct oc : Value} {an od : Option Addr} {osl : Array (Option Value)} (hb : (hd.heap_1_39 w.params).lookup 518 = some ⟨oc, od, .func (fnOf nm ql pr body sc dV kV doc pm an cdv ct), osl⟩)
    {g : Heap} {L : Addr} {m : Str → Option Value} {s : Shared} {Q : Flow → Shared → Prop} {E : Value → Shared → Prop}
    (K0 : Below callerA g [] g) (F : Fr g L s.heap m) (X : (hd.heap_1_39 w.params).In g) (T : Top p loose mean mg mb g) (l0 : @LT.lt Nat _ 515 L)
    {sa : Addr} {vs0 : List Value} {zs : List Int} {oV oF oW : Obj} (hsl : g.IsList sa vs0.toArray) (hIn : IntsAre vs0 zs) (hz : ¬ (63 : Int) < zs.length) (N : News g L s.heap [(L + 3, oV), (L + 2, oF), (L + 1, oW), (515, tabObj #[])]) (hm : m "script" = some (.ref sa))
    (hQ : ∀ h' tk' kg cl ok tk0 vs n cs m' news, Fr g L h' m' → m' "keg" = some (.ref kg) → ok.IsDictOf (strKind PR w) [(("cells" : Str), .ref cl), (("spot" : Str), .int 0 tk0)] → (cl, lstO vs n) ∈ news → IntsAre vs cs → cs.length ≤ 30 → (kg == sysModules) = false → cl ≠ kg →
      News g L h' (LawLed L oV oF oW kg ok news) → (∀ p ∈ news, p.1 ≠ kg ∧ @LT.lt Nat _ (L + 3) p.1) → @LT.lt Nat _ (L + 3) kg → Q .next { s with heap := h', toks := tk' }) : wpAny (model PR w) (callerA.deeper (envOfC ql sc L fa cdv)) (execs ((body.drop 0).take 1) (envOfC ql sc L fa cdv)) Q E s := by
 refine @dropI _ ?_ ?_
 ·
  have hb' := hb
  rw [show (hd.heap_1_39 w.params).lookup 518 = _ from by k_dflt k_is] at hb'
  injection hb' with hb'
  injection hb' with e1 e2 e3 e4
  injection e3 with e3
  injection e3 with f1 f2 f3 f4 f5 f6 f7 f8 f9 f10 f11 f12 f13 f14
  injection f4 with f4
  subst f4 f5 f2 f12 f13
  clear hb f1 f3 f6 f7 f8 f9 f10 f11 f14 e1 e2 e4
  (try simp only [List.drop, List.take])
  replace F := fr_chain hm F
  k_steps
  unfold Stopped
  (k_here; k_dflt (refine comp_eval (by k_asm) _ _ (fun _ _ _ => False) (by with_unfolding_all rfl) (by decide) (by rfl) (by decide) (binds_name (by rfl) (by rfl)) Passes.never ?_))
  k_steps
  rename IntsAre _ (List.take 30 zs) => hI9
  rename News g L _ (_ :: _ :: _) => N9
  rename (List.take 30 zs).length = min 30 zs.length => hC9
  rename @LT.lt Nat _ _ _ ∧ _ => l9
  have hwl := hI9.length
  refine' CompIn.intro (news := ?FL) (fun i ys nw => nw = ?FL ∧ ys.length = i ∧ ∃ cs : List Int, IntsAre ys cs ∧ cs.length = i) ?ci1 ?ci2 ?ci3 ?ci4 ?ci5 ?ci6 (fun i ys _ h => Nat.le_of_eq h.2.1) (fun _ _ _ _ => trivial) ?ci7 ?ci8
  case ci1 => rfl
  case ci2 => k_asm
  case ci3 => k_asm
  case ci4 => exact .inl (by k_mem)
  case ci5 => rw [sizeLine_eq]; omega
  case ci6 => exact ⟨rfl, rfl, [], .nil, rfl⟩
  case ci7 =>
    intro g8 i v ys news' I8 oI C8 oC D8 m₂ h8 tk8 hi hR149 hsub hlt hC hB F8 N8 o8 d8
    refine sealG fun pS hS9 => ?_
    obtain ⟨hJe, hJl, cs, hJ, hJc⟩ := hR149
    refine hS9 ?_
    clear hS9 pS
    subst hJe
    refine sealG fun pS hS9 => ?_
    obtain ⟨z, hz9, tz, rfl⟩ := ints_get hI9 hi
    refine hS9 ?_
    clear hS9 pS
    rw [List.forIn_nil]
    refine wpAny_pure ?_
    rw [if_pos rfl]
    k_steps
    (exact ⟨_, _, _, rfl, by k_asm, news_sub (by k_asm) (by intro p9 h9; first | k_mem | (simp only [List.mem_cons] at h9 ⊢; simp only [h9, or_true])), by assumption, fun _ h => h, fun _ h => .inl h, ⟨rfl, by rw [List.length_append, hJl]; rfl, _, ints_snoc hJ, by rw [List.length_append, hJc]; rfl⟩⟩)
  case ci8 =>
    intro g8 D8 h8 tk8 ys news' N8 o8 hsub hlt hord hR119 h7 tk7 F9 N9
    refine sealG fun pS hS9 => ?_
    obtain ⟨hJe, hJl, cs, hJ, hJc⟩ := hR119
    refine hS9 ?_
    clear hS9 pS
    subst hJe
    k_lt hlt
    k_steps
    rename Obj.IsDictOf (PySem.strKind PR w) _ (strPairs _) => hkd
    rename Fr g L _ (fun y => if y = "keg" then _ else _) => F10
    rename News g L _ (_ :: _ :: _) => N10
    refine' overs_led N10 (oV := oV) (oF := oF) (oW := oW) ?m1 ?m2 ?m3 ?m4 (List.Mem.tail _ (List.Mem.tail _ (List.Mem.head _))) ?hK
    case m1 => k_mem
    case m2 => k_mem
    case m3 => k_mem
    case m4 => k_mem
    case hK =>
      intro news hN ho hne
      refine' hQ _ _ _ D8 _ _ ys _ cs _ news F10 ?ke hkd (ho _ _ (List.Mem.head _) ?kn ?kl) hJ ?kc ?ks ?kx hN hne ?kk
      case ke => rfl
      case kn => show @Ne Nat _ _; omega
      case kl => omega
      case kc => omega
      case ks => assumption
      case kx => show @Ne Nat _ _; omega
      case kk => omega
 · intro T x h; refine dropT ?zB ?zA; simpa only using (h : DropP ?zA x); assumption
end
section
example : True := by
  w_top off
  trivial
theorem sB0b.hB0b : True := trivial
open sB0b
variable {w : World} {p : Program} {loose : List Str} {mean : ExcName → Option Value} {mg mb : Str → Option Value}
example : True := by
  k_with "callWith ref" =>
    (guard_expr hB0b = hB0b)
    (k_here; first
      | ((with_reducible refine' callWith_K (by first | (k_dflt k_asm; done) | fail "by") (by first | (k_dflt k_is; done) | fail "by") ?_ (by first | (k_dflt rfl; done) | fail "by") (by first | (k_dflt rfl; done) | fail "by")); k_whole)
      | ((with_reducible refine' callWith_K0 (by first | (k_dflt k_in; done) | fail "by") (by first | (k_dflt k_is; done) | fail "by") ?_); k_whole)
      | (k_dflt (first
      | refine' callWith_K (by first | (k_asm; done) | fail "by") (by first | (k_is; done) | fail "by") ?_; k_whole
      | refine' callWith_K0 (by first | (k_in; done) | fail "by") (by first | (k_is; done) | fail "by") ?_; k_whole)))
  trivial
example : True := by
  k_with "setAttr ref" =>
    (guard_expr hB0b = hB0b)
    (k_here; k_dflt (refine' set_map (by first | (k_asm; done) | fail "by") (by first | (k_asm; done) | fail "by") (by first | (k_asm; done) | fail "by") (by first | (k_mem; done) | fail "by") (by first | (k_mem; done) | fail "by") (by first | (with_reducible assumption; done) | fail "by") (by first | (kernel_rfl; done) | fail "by") (by first | (k_updF; done) | fail "by") (by first | (exact rfl; done) | fail "by") ?_; k_whole; intro esₖ nₖ h'ₖ tk'ₖ M'ₖ F'ₖ N'ₖ; (try dsimp only at N'ₖ); (try k_sweep)))
  trivial
example : True := by
  k_with "call ref" =>
    (guard_expr hB0b = hB0b)
    (k_here; k_dflt (first
    | (guard_target =~ wpAny _ _ (call (Value.ref 201) _) _ _ _; refine' type_new (by first | ((k_asm); done) | fail "by") (by first | ((k_asm); done) | fail "by") (by first | ((k_asm); done) | fail "by") (by first | ((k_asm); done) | fail "by") (by first | ((k_asm); done) | fail "by") (by first | ((first | exact rfl | assumption); done) | fail "by") (by first | ((ktr_room); done) | fail "by") (by first | ((ktr_units); done) | fail "by") ?_; k_whole; intro Tₖ dTₖ lXₖ lDₖ lCₖ dOₖ esₖ nₖ oOₖ lLₖ tSₖ t1ₖ t2ₖ h'ₖ tk'ₖ F'ₖ N'ₖ l1ₖ l2ₖ l3ₖ l4ₖ l5ₖ l6ₖ M'ₖ loₖ opₖ; have hneₖ := ne_all l1ₖ; (try k_lt l1ₖ); (try dsimp only); (try k_sweep); (try k_fold))
      | (refine' call_cls0 (by first | ((k_asm); done) | fail "by") (by first | ((k_asm); done) | fail "by") (by first | ((k_asm); done) | fail "by") (by first | ((k_is); done) | fail "by") (by first | ((k_is); done) | fail "by") ?_; k_whole; intro x'ₖ d'ₖ h'ₖ F'ₖ N'ₖ l1ₖ l2ₖ; (try k_lt l1ₖ); (try k_lt2 l2ₖ); (try k_sweep))
      | (refine' call_clsM (by first | ((k_asm); done) | fail "by") (by first | ((k_asm); done) | fail "by") (by first | ((k_asm); done) | fail "by") (by first | ((k_is); done) | fail "by") (by first | ((k_is); done) | fail "by") (by first | ((k_is); done) | fail "by") ?_; k_whole; intro x'ₖ d'ₖ es'ₖ n'ₖ h'ₖ M'ₖ F'ₖ N'ₖ l1ₖ l2ₖ; have hneₖ := ne_all l1ₖ; (try k_lt l1ₖ); (try k_lt2 l2ₖ); (try k_sweep); k_enter)
      | (refine wpAny_call ?_; k_enter)))
  trivial
theorem segA1 {fa : Addr} {ql nm : Str} {pr : Arguments} {body : List Stmt} {sc : Scope} {dV kV doc pm cdv ct oc : Value} {an od : Option Addr} {osl : Array (Option Value)} (hb : (hd.heap_1_39 w.params).lookup 518 = some ⟨oc, od, .func (fnOf nm ql pr body sc dV kV doc pm an cdv ct), osl⟩)
    {g : Heap} {L : Addr} {m : Str → Option Value} {s : Shared} {Q : Flow → Shared → Prop} {E : Value → Shared → Prop}
    (K0 : Below callerA g [] g) (F : Fr g L s.heap m) (X : (hd.heap_1_39 w.params).In g) (T : Top p loose mean mg mb g) (l0 : @LT.lt Nat _ 515 L)
    {kg : Addr} {oV oF oW ok : Obj} {news : Led} (hcW : oW.data = .cell none) (hne : ∀ p ∈ news, p.1 ≠ kg ∧ @LT.lt Nat _ (L + 3) p.1) (hkg : @LT.lt Nat _ (L + 3) kg) (N : News g L s.heap (LawLed L oV oF oW kg ok news))
    (hQ : ∀ h' tk' W dW esW nW t4 t5 t6 lo hi oW' news', Fr g L h' m → oW'.data = .cell (some (.ref W)) → News g L h' (LawLed L oV oF oW' kg ok news') → (∀ p ∈ news, p ∈ news') → (∀ p ∈ news', p.1 ≠ kg ∧ @LT.lt Nat _ (L + 3) p.1) → Inst news' W 201 dW esW nW → getL "kind" esW = some (some (.str "int" t4)) → getL "is_late" esW = some (some (.bool false)) → getL "low" esW = some (some (.int lo t5)) → getL "high" esW = some (some (.int hi t6)) → lo ≤ 1 → 5 ≤ hi → Q .next { s with heap := h', toks := tk' }) : wpAny (model PR w) (callerA.deeper (envOfC ql sc L fa cdv)) (execs ((body.drop 1).take 1) (envOfC ql sc L fa cdv)) Q E s := by
 refine @dropI _ ?_ ?_
 ·
  have hb' := hb
  rw [show (hd.heap_1_39 w.params).lookup 518 = _ from by k_dflt k_is] at hb'
  injection hb' with hb'
  injection hb' with e1 e2 e3 e4
  injection e3 with e3
  injection e3 with f1 f2 f3 f4 f5 f6 f7 f8 f9 f10 f11 f12 f13 f14
  injection f4 with f4
  subst f4 f5 f2 f12 f13
  clear hb f1 f3 f6 f7 f8 f9 f10 f11 f14 e1 e2 e4
  (try simp only [List.drop, List.take])
  dsimp only [LawLed] at N
  have hneL : ∀ p ∈ news, p.1 ≠ L + 1 := fun p hp q => by have h9 := (hne p hp).2; rw [q] at h9; exact absurd h9 (by show ¬ (@LT.lt Nat _ _ _); omega)
  have hk9 : @LT.lt Nat _ (L + 1) kg := by omega
  k_steps
  rename News g L _ (_ :: _ :: _) => N10
  rename Obj.data _ = Data.cell (some (Value.ref _)) => hw9
  refine' overs_led N10 (kg := kg) (ok := ok) (oV := oV) (oF := oF) (oW := ?oW) ?m1 ?m2 ?m3 ?m4 ?m5 ?hK
  case m1 => k_mem
  case m2 => k_mem
  case m4 => k_mem
  case m5 => k_mem
  case m3 => k_mem
  case hK =>
    intro news' hN ho hne'
    refine' hQ _ _ _ _ _ _ _ _ _ _ _ _ news' (by k_asm) hw9 hN (fun p hp => ho p.1 p.2 ?ks (hne p hp).1 (hne p hp).2) hne' ⟨ho _ _ ?a1 ?a2 ?a3, ho _ _ ?b1 ?b2 ?b3⟩ ?g1 ?g2 ?g3 ?g4 ?g5 ?g6
    case ks => revert p; (intro p9 hp9; repeat' (first | exact hp9 | refine List.mem_cons_of_mem _ ?_ | refine List.mem_append_right _ ?_))
    case a1 => k_mem
    case b1 => k_mem
    case g1 => k_get
    case g2 => k_get
    case g3 => k_get
    case g4 => k_get
    case a2 => show @Ne Nat _ _; omega
    case a3 => omega
    case b2 => show @Ne Nat _ _; omega
    case b3 => omega
    case g5 => decide
    case g6 => decide
 · intro T x h; refine dropT ?zB ?zA; simpa only using (h : DropP ?zA x); assumption
end
section
example : True := by
  w_top off
  trivial
theorem sB0c.hB0c : True := trivial
open sB0c
variable {w : World} {p : Program} {loose : List Str} {mean : ExcName → Option Value} {mg mb : Str → Option Value}
example : True := by
  k_with "callWith ref" =>
    (guard_expr hB0c = hB0c)
    (k_here; first
      | ((with_reducible refine' callWith_K (by first | (k_dflt k_asm; done) | fail "by") (by first | (k_dflt k_is; done) | fail "by") ?_ (by first | (k_dflt rfl; done) | fail "by") (by first | (k_dflt rfl; done) | fail "by")); k_whole)
      | ((with_reducible refine' callWith_K0 (by first | (k_dflt k_in; done) | fail "by") (by first | (k_dflt k_is; done) | fail "by") ?_); k_whole)
      | (k_dflt (first
      | refine' callWith_K (by first | (k_asm; done) | fail "by") (by first | (k_is; done) | fail "by") ?_; k_whole
      | refine' callWith_K0 (by first | (k_in; done) | fail "by") (by first | (k_is; done) | fail "by") ?_; k_whole)))
  trivial
example : True := by
  k_with "setAttr ref" =>
    (guard_expr hB0c = hB0c)
    (k_here; k_dflt (refine' set_map (by first | (k_asm; done) | fail "by") (by first | (k_asm; done) | fail "by") (by first | (k_asm; done) | fail "by") (by first | (k_mem; done) | fail "by") (by first | (k_mem; done) | fail "by") (by first | (with_reducible assumption; done) | fail "by") (by first | (kernel_rfl; done) | fail "by") (by first | (k_updF; done) | fail "by") (by first | (exact rfl; done) | fail "by") ?_; k_whole; intro esₖ nₖ h'ₖ tk'ₖ M'ₖ F'ₖ N'ₖ; (try dsimp only at N'ₖ); (try k_sweep)))
  trivial
example : True := by
  k_with "call ref" =>
    (guard_expr hB0c = hB0c)
    (k_here; k_dflt (first
    | (guard_target =~ wpAny _ _ (call (Value.ref 222) _) _ _ _; refine' sub_new (by first | ((k_asm); done) | fail "by") (by first | ((k_asm); done) | fail "by") (by first | ((k_asm); done) | fail "by") (by first | ((k_asm); done) | fail "by") (by first | ((k_asm); done) | fail "by") (by first | ((first | exact rfl | assumption); done) | fail "by") (by first | ((ktr_room); done) | fail "by") (by first | ((ktr_units); done) | fail "by") ?_; k_whole; intro x'ₖ d'ₖ es'ₖ n'ₖ h'ₖ tk'ₖ F'ₖ N'ₖ l1ₖ l2ₖ M'ₖ; have hneₖ := ne_all l1ₖ; (try k_lt l1ₖ); (try k_lt2 l2ₖ); (try dsimp only); (try k_sweep); (try k_fold))
      | (refine' call_cls0 (by first | ((k_asm); done) | fail "by") (by first | ((k_asm); done) | fail "by") (by first | ((k_asm); done) | fail "by") (by first | ((k_is); done) | fail "by") (by first | ((k_is); done) | fail "by") ?_; k_whole; intro x'ₖ d'ₖ h'ₖ F'ₖ N'ₖ l1ₖ l2ₖ; (try k_lt l1ₖ); (try k_lt2 l2ₖ); (try k_sweep))
      | (refine' call_clsM (by first | ((k_asm); done) | fail "by") (by first | ((k_asm); done) | fail "by") (by first | ((k_asm); done) | fail "by") (by first | ((k_is); done) | fail "by") (by first | ((k_is); done) | fail "by") (by first | ((k_is); done) | fail "by") ?_; k_whole; intro x'ₖ d'ₖ es'ₖ n'ₖ h'ₖ M'ₖ F'ₖ N'ₖ l1ₖ l2ₖ; have hneₖ := ne_all l1ₖ; (try k_lt l1ₖ); (try k_lt2 l2ₖ); (try k_sweep); k_enter)
      | (refine wpAny_call ?_; k_enter)))
  trivial
theorem segA2 {fa : Addr} {ql nm : Str} {pr : Arguments} {body : List Stmt} {sc : Scope} {dV kV doc pm cdv ct oc : Value} {an od : Option Addr} {osl : Array (Option Value)} (hb : (hd.heap_1_39 w.params).lookup 518 = some ⟨oc, od, .func (fnOf nm ql pr body sc dV kV doc pm an cdv ct), osl⟩)
    {g : Heap} {L : Addr} {m : Str → Option Value} {s : Shared} {Q : Flow → Shared → Prop} {E : Value → Shared → Prop}
    (K0 : Below callerA g [] g) (F : Fr g L s.heap m) (X : (hd.heap_1_39 w.params).In g) (T : Top p loose mean mg mb g) (l0 : @LT.lt Nat _ 515 L)
    {W kg : Addr} {oV oF oW ok : Obj} {news : Led} (hcF : oF.data = .cell none) (hcW : oW.data = .cell (some (.ref W))) (hne : ∀ p ∈ news, p.1 ≠ kg ∧ @LT.lt Nat _ (L + 3) p.1) (hkg : @LT.lt Nat _ (L + 3) kg) (N : News g L s.heap (LawLed L oV oF oW kg ok news))
    (hQ : ∀ h' tk' S dS c esS nS nc t1 t2 t3 oF' news', Fr g L h' m → oF'.data = .cell (some (.ref S)) → News g L h' (LawLed L oV oF' oW kg ok news') → (∀ p ∈ news, p ∈ news') → (∀ p ∈ news', p.1 ≠ kg ∧ @LT.lt Nat _ (L + 3) p.1) → Inst news' S 222 dS esS nS → getL "type" esS = some (some (.ref W)) → getL "constraint" esS = some (some (.ref c)) → (c, tupO [.str "range" t1, .int 1 t2, .int 5 t3] nc) ∈ news' → Q .next { s with heap := h', toks := tk' }) : wpAny (model PR w) (callerA.deeper (envOfC ql sc L fa cdv)) (execs ((body.drop 2).take 1) (envOfC ql sc L fa cdv)) Q E s := by
 refine @dropI _ ?_ ?_
 ·
  have hb' := hb
  rw [show (hd.heap_1_39 w.params).lookup 518 = _ from by k_dflt k_is] at hb'
  injection hb' with hb'
  injection hb' with e1 e2 e3 e4
  injection e3 with e3
  injection e3 with f1 f2 f3 f4 f5 f6 f7 f8 f9 f10 f11 f12 f13 f14
  injection f4 with f4
  subst f4 f5 f2 f12 f13
  clear hb f1 f3 f6 f7 f8 f9 f10 f11 f14 e1 e2 e4
  (try simp only [List.drop, List.take])
  dsimp only [LawLed] at N
  have hneL : ∀ p ∈ news, p.1 ≠ L + 2 := fun p hp q => by have h9 := (hne p hp).2; rw [q] at h9; exact absurd h9 (by show ¬ (@LT.lt Nat _ _ _); omega)
  have hk9 : @LT.lt Nat _ (L + 2) kg := by omega
  k_steps
  rename News g L _ (_ :: _ :: _) => N10
  rename Obj.data _ = Data.cell (some (Value.ref _)) => hw9
  refine' overs_led N10 (kg := kg) (ok := ok) (oV := oV) (oF := ?oF) (oW := oW) ?m1 ?m2 ?m3 ?m4 ?m5 ?hK
  case m1 => k_mem
  case m2 => k_mem
  case m4 => k_mem
  case m5 => k_mem
  case m3 => k_mem
  case hK =>
    intro news' hN ho hne'
    refine' hQ _ _ _ _ _ _ _ _ _ _ _ _ news' (by k_asm) hw9 hN (fun p hp => ho p.1 p.2 ?ks (hne p hp).1 (hne p hp).2) hne' ⟨ho _ _ ?a1 ?a2 ?a3, ho _ _ ?b1 ?b2 ?b3⟩ ?g1 ?g2 (ho _ _ ?c1 ?c2 ?c3)
    case ks => revert p; (intro p9 hp9; repeat' (first | exact hp9 | refine List.mem_cons_of_mem _ ?_ | refine List.mem_append_right _ ?_))
    case a1 => k_mem
    case b1 => k_mem
    case g1 => k_get
    case g2 => k_get
    case c1 => k_mem
    case a2 => show @Ne Nat _ _; omega
    case a3 => omega
    case b2 => show @Ne Nat _ _; omega
    case b3 => omega
    case c2 => show @Ne Nat _ _; omega
    case c3 => omega
 · intro T x h; refine dropT ?zB ?zA; simpa only using (h : DropP ?zA x); assumption
end
section
example : True := by
  w_top off
  trivial
theorem sB2.hB2 : True := trivial
open sB2
variable {w : World} {p : Program} {loose : List Str} {mean : ExcName → Option Value} {mg mb : Str → Option Value}
example : True := by
  k_with "compareOp Eq ref ref" =>
    (guard_expr hB2 = hB2)
    (k_here; k_dflt (refine' eq_empty (by first | ((exact ⟨_, (News.get (by k_asm) (by k_mem)), rfl, _, rfl⟩); done) | fail "by") (by first | ((exact ⟨_, (News.get (by k_asm) (by k_mem)), rfl, _, rfl⟩); done) | fail "by") (by first | ((ktr_units); done) | fail "by") ?_))
  trivial
example : True := by
  k_with "call type:list" =>
    (guard_expr hB2 = hB2)
    (k_here; (with_reducible show wpAny _ _ (call (Value.type _) [Value.ref _]) _ _ _); k_dflt (refine' list_of (by first | ((k_asm); done) | fail "by") (by first | ((k_asm); done) | fail "by") (by first | ((k_mem); done) | fail "by") (by first | ((first | omega | (simp only [List.length_nil, List.length_cons, List.length_append]; omega)); done) | fail "by") ?_); intro D'ₖ c'ₖ h'ₖ F'ₖ N'ₖ l1ₖ; (try k_lt l1ₖ))
  trivial
example : True := by
  k_with "callWith ref" =>
    (guard_expr hB2 = hB2)
    (k_here; first
      | ((with_reducible refine' callWith_K (by first | (k_dflt k_asm; done) | fail "by") (by first | (k_dflt k_is; done) | fail "by") ?_ (by first | (k_dflt rfl; done) | fail "by") (by first | (k_dflt rfl; done) | fail "by")); k_whole)
      | ((with_reducible refine' callWith_K0 (by first | (k_dflt k_in; done) | fail "by") (by first | (k_dflt k_is; done) | fail "by") ?_); k_whole)
      | (k_dflt (first
      | refine' callWith_K (by first | (k_asm; done) | fail "by") (by first | (k_is; done) | fail "by") ?_; k_whole
      | refine' callWith_K0 (by first | (k_in; done) | fail "by") (by first | (k_is; done) | fail "by") ?_; k_whole)))
  trivial
example : True := by
  k_with "setAttr ref" =>
    (guard_expr hB2 = hB2)
    (k_here; k_dflt (refine' set_map (by first | (k_asm; done) | fail "by") (by first | (k_asm; done) | fail "by") (by first | (k_asm; done) | fail "by") (by first | (k_mem; done) | fail "by") (by first | (k_mem; done) | fail "by") (by first | (with_reducible assumption; done) | fail "by") (by first | (kernel_rfl; done) | fail "by") (by first | (k_updF; done) | fail "by") (by first | (exact rfl; done) | fail "by") ?_; k_whole; intro esₖ nₖ h'ₖ tk'ₖ M'ₖ F'ₖ N'ₖ; (try dsimp only at N'ₖ); (try k_sweep)))
  trivial
example : True := by
  k_with "call ref" =>
    (guard_expr hB2 = hB2)
    (k_here; k_dflt (first
    | (guard_target =~ wpAny _ _ (call (Value.ref 201) _) _ _ _; refine' type_new (by first | ((k_asm); done) | fail "by") (by first | ((k_asm); done) | fail "by") (by first | ((k_asm); done) | fail "by") (by first | ((k_asm); done) | fail "by") (by first | ((k_asm); done) | fail "by") (by first | ((first | exact rfl | assumption); done) | fail "by") (by first | ((ktr_room); done) | fail "by") (by first | ((ktr_units); done) | fail "by") ?_; k_whole; intro Tₖ dTₖ lXₖ lDₖ lCₖ dOₖ esₖ nₖ oOₖ lLₖ tSₖ t1ₖ t2ₖ h'ₖ tk'ₖ F'ₖ N'ₖ l1ₖ l2ₖ l3ₖ l4ₖ l5ₖ l6ₖ M'ₖ loₖ opₖ; have hneₖ := ne_all l1ₖ; (try k_lt l1ₖ); (try dsimp only); (try k_sweep); (try k_fold))
      | (refine' call_cls0 (by first | ((k_asm); done) | fail "by") (by first | ((k_asm); done) | fail "by") (by first | ((k_asm); done) | fail "by") (by first | ((k_is); done) | fail "by") (by first | ((k_is); done) | fail "by") ?_; k_whole; intro x'ₖ d'ₖ h'ₖ F'ₖ N'ₖ l1ₖ l2ₖ; (try k_lt l1ₖ); (try k_lt2 l2ₖ); (try k_sweep))
      | (refine' call_clsM (by first | ((k_asm); done) | fail "by") (by first | ((k_asm); done) | fail "by") (by first | ((k_asm); done) | fail "by") (by first | ((k_is); done) | fail "by") (by first | ((k_is); done) | fail "by") (by first | ((k_is); done) | fail "by") ?_; k_whole; intro x'ₖ d'ₖ es'ₖ n'ₖ h'ₖ M'ₖ F'ₖ N'ₖ l1ₖ l2ₖ; have hneₖ := ne_all l1ₖ; (try k_lt l1ₖ); (try k_lt2 l2ₖ); (try k_sweep); k_enter)
      | (refine wpAny_call ?_; k_enter)))
  trivial
example : True := by
  k_with "eval ListComp" =>
    (guard_expr hB2 = hB2)
    (k_here; refine stop_here ?_)
  trivial
theorem segC {fa : Addr} {ql nm : Str} {pr : Arguments} {body : List Stmt} {sc : Scope} {dV kV doc pm cdv ct oc : Value} {an od : Option Addr} {osl : Array (Option Value)} (hb : (hd.heap_1_39 w.params).lookup 518 = some ⟨oc, od, .func (fnOf nm ql pr body sc dV kV doc pm an cdv ct), osl⟩)
    {g : Heap} {L : Addr} {m : Str → Option Value} {s : Shared} {Q : Flow → Shared → Prop} {E : Value → Shared → Prop}
    (K0 : Below callerA g [] g) (F : Fr g L s.heap m) (X : (hd.heap_1_39 w.params).In g) (T : Top p loose mean mg mb g) (l0 : @LT.lt Nat _ 515 L)
    {kg S t : Addr} {oV oF oW ok : Obj} {news : Led} {vn : List Value} {nn : Nat} {ns : List Str} (hkg : @LT.lt Nat _ (L + 3) kg) (hne : ∀ p ∈ news, p.1 ≠ kg ∧ @LT.lt Nat _ (L + 3) p.1) (N : News g L s.heap (LawLed L oV oF oW kg ok news))
    (hFo : oF.data = .cell (some (.ref S))) (hnt : (t, tupO vn nn) ∈ news) (hvn : StrsAre2 vn ns) (hns : ns.length ≤ 2) (hm : m "names" = some (.ref t))
    (hQ : ∀ h' tk' I dI lD esI nI nD tk vd m' news', RecAt news' I dI lD S esI nI nD tk vd ns → Fr g L h' m' → m' "inner" = some (.ref I) → (∀ y : Str, y ≠ "inner" → m' y = m y) → News g L h' (LawLed L oV oF oW kg ok news') → (∀ p ∈ news, p ∈ news') → (∀ p ∈ news', p.1 ≠ kg ∧ @LT.lt Nat _ (L + 3) p.1) → Q .next { s with heap := h', toks := tk' }) : wpAny (model PR w) (callerA.deeper (envOfC ql sc L fa cdv)) (execs ((body.drop 5).take 1) (envOfC ql sc L fa cdv)) Q E s := by
 refine @dropI _ ?_ ?_
 ·
  have hb' := hb
  rw [show (hd.heap_1_39 w.params).lookup 518 = _ from by k_dflt k_is] at hb'
  injection hb' with hb'
  injection hb' with e1 e2 e3 e4
  injection e3 with e3
  injection e3 with f1 f2 f3 f4 f5 f6 f7 f8 f9 f10 f11 f12 f13 f14
  injection f4 with f4
  subst f4 f5 f2 f12 f13
  clear hb f1 f3 f6 f7 f8 f9 f10 f11 f14 e1 e2 e4
  (try simp only [List.drop, List.take])
  dsimp only [LawLed] at N
  replace F := fr_chain hm F
  k_steps
  unfold Stopped
  (k_here; k_dflt (refine comp_eval (by k_asm) _ _ (fun _ _ _ => False) (by with_unfolding_all rfl) (by decide) (by rfl) (by decide) (binds_name (by rfl) (by rfl)) Passes.never ?_))
  k_steps
  have hall := hvn
  refine CompIn.intro (fun i ys news' => ys.length = i ∧ DiscRows S (over L kg news') ys (ns.take i)) (by rfl) (by k_asm) (by k_asm) (.inr (by k_mem)) (by have := hvn.length; rw [sizeLine_eq]; omega) ⟨rfl, .nil⟩ (fun i ys _ h => Nat.le_of_eq h.1) (fun _ _ _ _ => trivial) ?_ ?_
  · intro g8 i v ys news' I8 oI C8 oC D8 m₂ h8 tk8 hi hJ hsub hlt hC hB F8 N8 o8 d8
    refine sealG fun pS hS9 => ?_
    obtain ⟨x, hx, tx, rfl⟩ := hall.get hi
    refine hS9 ?_
    clear hS9 pS
    have w1 : (L + 2, oF) ∈ news' := hsub _ (by k_mem)
    rw [List.forIn_nil]
    refine wpAny_pure ?_
    rw [if_pos rfl]
    k_steps
    refine turn_more (news' := news') [_] rfl (by k_asm) (by k_asm) ?_ o8 ⟨by rw [List.length_append, hJ.1]; rfl, ?_⟩
    · intro p hp
      rw [List.mem_singleton] at hp
      subst hp
      dsimp only
      omega
    · rw [take_snoc hx]
      refine (DiscRows.mono (over_sub fun p hp => List.mem_append_right _ hp) hJ.2).snoc ⟨_, _, _, rfl, mem_over.mpr ⟨List.mem_append_left _ List.mem_cons_self, ?_, ?_⟩⟩
      · show @Ne Nat _ _
        have hz : @LT.lt Nat _ kg D8 := hlt (kg, ok) (by k_mem)
        dsimp only
        omega
      · have hz : @LT.lt Nat _ (L + 3) D8 := hlt (L + 3, oV) (by k_mem)
        dsimp only
        omega
  · intro g8 D8 h8 tk8 ys news' N8 o8 hsub hlt hord hJ h7 tk7 F9 N9
    have hyl : ys.length ≤ 2 := by have := hJ.1; have := hvn.length; omega
    k_steps
    have hz1 : @LT.lt Nat _ kg D8 := hlt (kg, ok) (by k_mem)
    have hz2 : @LT.lt Nat _ (L + 3) D8 := hlt (L + 3, oV) (by k_mem)
    have hdr := hJ.2
    rw [List.take_of_length_le (by have := hvn.length; omega)] at hdr
    rename News g L _ (_ :: _) => N10
    refine hQ _ _ _ _ _ _ _ _ _ ys _ _ ⟨⟨mem_over.mpr ⟨by k_mem, ?_, ?_⟩, mem_over.mpr ⟨by k_mem, ?_, ?_⟩⟩, by k_get, by k_get, by k_get, mem_over.mpr ⟨by k_mem, ?_, ?_⟩, DiscRows.mono (over_sub ?_) hdr⟩ (by k_asm) (if_pos rfl) ?_ (law_led N10 ?_) ?_ fun p hp => (mem_over.mp hp).2
    · show @Ne Nat _ _; dsimp only; omega
    · show @LT.lt Nat _ _ _; dsimp only; omega
    · show @Ne Nat _ _; dsimp only; omega
    · show @LT.lt Nat _ _ _; dsimp only; omega
    · show @Ne Nat _ _; dsimp only; omega
    · show @LT.lt Nat _ _ _; dsimp only; omega
    · (intro p9 hp9; repeat' (first | exact hp9 | refine List.mem_cons_of_mem _ ?_ | refine List.mem_append_right _ ?_))
    · intro y h1
      rw [if_neg h1]
      split
      · next e => rw [e, hm]
      · rfl
    · intro p hp
      have hp9 := hsub p (by simp only [LawLed, List.mem_cons, List.not_mem_nil, or_false] at hp ⊢; rcases hp with h | h | h | h | h <;> simp only [h, true_or, or_true])
      repeat' (first | exact hp9 | refine List.mem_cons_of_mem _ ?_)
    · intro p hp
      have hp9 := hsub p (by k_mem)
      refine mem_over.mpr ⟨?_, hne p hp⟩
      repeat' (first | exact hp9 | refine List.mem_cons_of_mem _ ?_)
 · intro T x h; refine dropT ?zB ?zA; simpa only using (h : DropP ?zA x); assumption
end
section
example : True := by
  w_top off
  trivial
theorem sB3.hB3 : True := trivial
open sB3
variable {w : World} {p : Program} {loose : List Str} {mean : ExcName → Option Value} {mg mb : Str → Option Value}
example : True := by
  k_with "call type:list" =>
    (guard_expr hB3 = hB3)
    (k_here; (with_reducible show wpAny _ _ (call (Value.type _) [Value.ref _]) _ _ _); k_dflt (refine' list_of (by first | ((k_asm); done) | fail "by") (by first | ((k_asm); done) | fail "by") (by first | ((k_mem); done) | fail "by") (by first | ((first | omega | (simp only [List.length_nil, List.length_cons, List.length_append]; omega)); done) | fail "by") ?_); intro D'ₖ c'ₖ h'ₖ F'ₖ N'ₖ l1ₖ; (try k_lt l1ₖ))
  trivial
example : True := by
  k_with "callWith ref" =>
    (guard_expr hB3 = hB3)
    (k_here; k_dflt (first
      | refine' callWith_K (by first | ((k_asm); done) | fail "by") (by first | ((k_is); done) | fail "by") ?_; k_whole
      | refine' callWith_K0 (by first | ((k_in); done) | fail "by") (by first | ((k_is); done) | fail "by") ?_; k_whole))
  trivial
example : True := by
  k_with "call ref" =>
    (guard_expr hB3 = hB3)
    (k_here; k_dflt (first
    | ((with_reducible show wpAny _ _ (call (Value.ref 513) _) _ _ _); refine stop_here ?_)
      | (refine' call_cls0 (by first | ((k_asm); done) | fail "by") (by first | ((k_asm); done) | fail "by") (by first | ((k_asm); done) | fail "by") (by first | ((k_is); done) | fail "by") (by first | ((k_is); done) | fail "by") ?_; k_whole; intro x'ₖ d'ₖ h'ₖ F'ₖ N'ₖ l1ₖ l2ₖ; (try k_lt l1ₖ); (try k_lt2 l2ₖ); (try k_sweep))
      | (refine' call_cls (by first | ((k_asm); done) | fail "by") (by first | ((k_asm); done) | fail "by") (by first | ((k_asm); done) | fail "by") (by first | ((k_is); done) | fail "by") (by first | ((k_is); done) | fail "by") (by first | ((k_is); done) | fail "by") ?_; k_whole; intro x'ₖ d'ₖ h'ₖ F'ₖ N'ₖ l1ₖ l2ₖ; (try k_lt l1ₖ); (try k_lt2 l2ₖ); (try k_sweep); k_enter)
      | (refine wpAny_call ?_; k_enter)))
  trivial
example : True := by
  k_with "exec For" =>
    (guard_expr hB3 = hB3)
    (k_here; refine stop_here ?_)
  trivial
example : True := by
  k_with "exec For Name Call cons nil" =>
    (guard_expr hB3 = hB3)
    (k_here; refine stop_here ?_)
  trivial
example : True := by
  k_with "exec For Name Name cons nil" =>
    (guard_expr hB3 = hB3)
    (k_here; refine stop_here ?_)
  trivial
example : True := by
  k_with "call builtin:list.append" =>
    (guard_expr hB3 = hB3)
    (k_here; (with_reducible show wpAny _ _ (call (Value.builtin _) [Value.ref _, _]) _ _ _); k_dflt (refine' append_K (by first | (k_asm; done) | fail "by") (by first | (k_asm; done) | fail "by") (by first | (k_upd; done) | fail "by") ?_ (by first | ((rw [List.size_toArray, sizeLine_eq]; omega); done) | fail "by"); k_whole); intro h'ₖ F'ₖ N'ₖ; (try k_sweep))
  trivial
theorem sub_tup {A : Around} {E : Value → Shared → Prop} {s : Shared} {h₀ : Heap} {L : Addr} {m : Str → Option Value} {news : Led} {value slice : Expr} {D : Addr} {vs : List Value} {n : Nat} {k : Int} {u : Tok} {v : Value} {Q : Value → Shared → Prop} (N : News h₀ L s.heap news) (hm : (D, tupO vs n) ∈ news) (h0 : 0 ≤ k) (hfit : k < 2 ^ 63) (hx : (seqIndex? k vs.length).bind (fun j => vs[j]?) = some v) (h : Q v s)
    (hs : subscripted slice false (.ref D) (.int k u) = operate [.ref D, .int k u] (getItem (.ref D) (.int k u)) := by with_unfolding_all rfl) : wpAny (model PR w) A (subscriptTail value slice (.ref D) (.int k u)) Q E s := by
  obtain ⟨j, hj, hx⟩ := Option.bind_eq_some_iff.mp hx
  exact item_tupleT ⟨_, (N _ hm).1, rfl, n, rfl⟩ (by omega) hfit hj hx h hs
theorem sub_three {A : Around} {E : Value → Shared → Prop} {s : Shared} {h₀ : Heap} {L : Addr} {news : Led} {value slice : Expr} {D : Addr} {x0 x1 x2 : Value} {n : Nat} {k : Int} {u : Tok} {Q : Value → Shared → Prop} (N : News h₀ L s.heap news) (hm : (D, tupO [x0, x1, x2] n) ∈ news) (h0 : 0 ≤ k) (h3 : k < 3) (h : ∀ x, (x = x0 ∨ x = x1 ∨ x = x2) → Q x s)
    (hs : subscripted slice false (.ref D) (.int k u) = operate [.ref D, .int k u] (getItem (.ref D) (.int k u)) := by with_unfolding_all rfl) : wpAny (model PR w) A (subscriptTail value slice (.ref D) (.int k u)) Q E s := by
 refine @dropI _ ?_ ?_
 ·
  obtain rfl | rfl | rfl : k = 0 ∨ k = 1 ∨ k = 2 := by omega
  · exact sub_tup (m := fun _ => none) N hm (by decide) (by decide) rfl (h _ (.inl rfl)) hs
  · exact sub_tup (m := fun _ => none) N hm (by decide) (by decide) rfl (h _ (.inr (.inl rfl))) hs
  · exact sub_tup (m := fun _ => none) N hm (by decide) (by decide) rfl (h _ (.inr (.inr rfl))) hs
 · intro T x h; refine dropT ?zB ?zA; simpa only using (h : DropP ?zA x); assumption
theorem part_of3 {W a b : Addr} {led : Led} {x : Value} {i : Int} {t t1 t2 t3 t4 t5 : Tok} {n k : Nat} (hx : x = .int i t ∨ x = .ref a ∨ x = .ref b) (ha : (a, tupO [.str "obj" t1, .ref W, .int 0 t2, .str "n" t3] n) ∈ led) (hb : (b, tupO [.str "disc" t4, .ref W, .str "e" t5] k) ∈ led) : ∃ part, PartAt W led x part := by
  rcases hx with rfl | rfl | rfl
  · exact ⟨.num i, t, rfl⟩
  · exact ⟨.obj, _, _, _, _, _, rfl, ha⟩
  · exact ⟨.disc, _, _, _, _, rfl, hb⟩
example : True := by
  k_with "subscriptTail" =>
    (guard_expr hB3 = hB3)
    (k_here; (with_reducible show wpAny _ _ (subscriptTail _ _ (Value.ref _) (Value.int _ _)) _ _ _); k_dflt (refine' sub_three (by first | ((k_asm); done) | fail "by") (by first | ((exact List.Mem.head _); done) | fail "by") (by first | ((assumption); done) | fail "by") (by first | ((assumption); done) | fail "by") ?_); intro xq hxq)
  trivial
def overs (xs : List Addr) (L : Addr) (l : Led) : Led := l.filter fun p => !(xs.contains p.1) && Nat.blt (L + 3) p.1
theorem mem_overs {xs : List Addr} {L : Addr} {l : Led} {x : Addr × Obj} : x ∈ overs xs L l ↔ x ∈ l ∧ x.1 ∉ xs ∧ @LT.lt Nat _ (L + 3) x.1 := by
 refine @dropI _ ?_ ?_
 ·
  unfold overs
  rw [List.mem_filter, Bool.and_eq_true]
  constructor
  · intro hR09
    obtain ⟨h1, h2, h3⟩ := hR09
    exact ⟨h1, by simpa using h2, by simpa [Nat.blt_eq] using h3⟩
  · intro hR09
    obtain ⟨h1, h2, h3⟩ := hR09
    exact ⟨h1, by simpa using h2, by simpa [Nat.blt_eq] using h3⟩
 · intro T x h; refine dropT ?zB ?zA; simpa only using (h : DropP ?zA x); assumption
theorem news_overs {h₀ h : Heap} {L' L : Addr} {xs : List Addr} {FL X : Led} (N : News h₀ L' h FL) (hX : ∀ p ∈ X, p ∈ FL) : News h₀ L' h (X ++ overs xs L FL) := fun p hp => by
  rcases List.mem_append.mp hp with hp | hp
  · exact N p (hX p hp)
  · exact N p (mem_overs.mp hp).1
inductive RowTold (W I : Addr) (news : Led) (v : Value) (ps : List (Str × Part)) : Prop
  | mk (a n nm t Sx dSx cx lx esx nx ncx nlx txx vs : _) (c09 : v = .ref a) (c19 : (a, tupO [.str nm t, .ref Sx, .none] n) ∈ news) (c29 : RowSub W news Sx dSx I cx lx esx nx ncx nlx txx vs ps)
theorem RowTold.mono {W I : Addr} {l l' : Led} {v : Value} {ps : List (Str × Part)} (hs : ∀ x ∈ l, x ∈ l') (h : RowTold W I l v ps) : RowTold W I l' v ps :=
  by obtain ⟨a, n, nm, t, Sx, dSx, cx, lx, esx, nx, ncx, nlx, txx, vs, e, m, ⟨⟨c1, c2⟩, c3, c4, c5, c6, c7⟩⟩ := h; exact ⟨a, n, nm, t, Sx, dSx, cx, lx, esx, nx, ncx, nlx, txx, vs, e, hs _ m, ⟨⟨hs _ c1, hs _ c2⟩, c3, c4, hs _ c5, hs _ c6, c7.imp fun _ _ z => z.mono hs⟩⟩
abbrev RowLed (L : Addr) (oV oF oW : Obj) (kg : Addr) (ok : Obj) (rw tl : Addr) (rs ts : List Value) (rn tn : Nat) (news : Led) : Led := (tl, lstO ts tn) :: (rw, lstO rs rn) :: LawLed L oV oF oW kg ok news
inductive RowsJ (w : World) (L W I : Addr) (oV oF oW : Obj) (kg cl rw tl : Addr) (nt : Addr) (ns : List Str) (news : Led) (i : Nat) (m' : Str → Option Value) (led : Led) : Prop
  | mk (ok' : Obj) (tz : Tok) (k' : Int) (rs ts : List Value) (rn tn : Nat) (qs : List (List (Str × Part))) (news' : Led) (c09 : led = RowLed L oV oF oW kg ok' rw tl rs ts rn tn news') (c19 : ok'.IsDictOf (strKind PR w) [(("cells" : Str), .ref cl), (("spot" : Str), .int k' tz)]) (c29 : 0 ≤ k') (c39 : k' ≤ 11 + 10 * i) (c49 : qs.length = i) (c59 : All2 (RowTold W I news') rs qs) (c69 : All2 (PairsAt W news') ts qs) (c79 : (∀ q ∈ qs, q.map (·.1) = ns)) (c89 : (∀ p ∈ news, p ∈ news')) (c99 : (∀ p ∈ news', p.1 ∉ [kg, rw, tl] ∧ @LT.lt Nat _ (L + 3) p.1)) (c109 : m' "keg" = some (.ref kg)) (c119 : m' "names" = some (.ref nt)) (c129 : m' "inner" = some (.ref I)) (c139 : m' "rows" = some (.ref rw)) (c149 : m' "told" = some (.ref tl))
inductive PairsJ (w : World) (L W I : Addr) (oV oF oW : Obj) (kg cl rw tl pr nt : Addr) (ns : List Str) (news : Led) (I8 : Addr) (oI : Obj) (rs ts : List Value) (rn tn : Nat) (k' : Int) (av : Value) (i : Nat) (m' : Str → Option Value) (led : Led) : Prop
  | mk (ok' : Obj) (tz : Tok) (k2 : Int) (ys : List Value) (yn : Nat) (ps : List (Str × Part)) (news' : Led) (c09 : led = (pr, lstO ys yn) :: (I8, oI) :: RowLed L oV oF oW kg ok' rw tl rs ts rn tn news') (c19 : ok'.IsDictOf (strKind PR w) [(("cells" : Str), .ref cl), (("spot" : Str), .int k2 tz)]) (c29 : 0 ≤ k2) (c39 : k2 ≤ k' + 2 * i) (c49 : ys.length = i) (c59 : All2 (PairAt W news') ys ps) (c69 : ps.map (·.1) = ns.take i) (c79 : (∀ p ∈ news, p ∈ news')) (c89 : (∀ p ∈ news', p.1 ∉ [kg, rw, tl, pr, I8] ∧ @LT.lt Nat _ (L + 3) p.1)) (c99 : m' "keg" = some (.ref kg)) (c109 : m' "names" = some (.ref nt)) (c119 : m' "inner" = some (.ref I)) (c129 : m' "rows" = some (.ref rw)) (c139 : m' "told" = some (.ref tl)) (c149 : m' "pairs" = some (.ref pr)) (c159 : m' "at" = some av)
theorem pairs_end {g h' : Heap} {L W I kg cl rw tl pl nt I8 J8 D : Addr} {oV oF oW oI oJ ok2 : Obj} {ns : List Str} {news news' : Led} {rs ts ys : List Value} {rn tn yn j tk : Nat} {k k2 : Int} {av pv : Value} {m'' : Str → Option Value} {xj : Str} {tx tz2 : Tok} {ps : List (Str × Part)} {e2 e3 e4 e5 : Addr × Obj} {s : Shared}
    (N : News g L h' ((D, tupO [.str xj tx, pv]) :: e2 :: e3 :: e4 :: e5 :: (J8, oJ) :: (pl, lstO (ys ++ [.ref D]) (yn + 1)) :: (I8, oI) :: (tl, lstO ts tn) :: (rw, lstO rs rn) :: (L + 3, oV) :: (L + 2, oF) :: (L + 1, oW) :: (515, tabObj #[]) :: (kg, ok2) :: news'))
    (F : Fr g L h' m'') (l0 : @LT.lt Nat _ 515 L) (hkg : @LT.lt Nat _ (L + 3) kg) (hkr : @LT.lt Nat _ kg rw) (hrt : @LT.lt Nat _ rw tl) (hti : @LT.lt Nat _ tl I8) (hip : @LT.lt Nat _ I8 pl) (hpj : @LT.lt Nat _ pl J8) (hjD : @LT.lt Nat _ J8 D) (off : ∀ p ∈ news', p.1 ≠ J8)
    (hne' : ∀ p ∈ news', p.1 ∉ [kg, rw, tl, pl, I8] ∧ @LT.lt Nat _ (L + 3) p.1) (hsub : ∀ p ∈ news, p ∈ news') (hok2 : ok2.IsDictOf (strKind PR w) [(("cells" : Str), .ref cl), (("spot" : Str), .int (k2 + 1 + 1) tz2)]) (hk0 : 0 ≤ k2) (hkb : k2 ≤ k + 2 * j) (hyl : ys.length = j) (hps : All2 (PairAt W news') ys ps) (hpn : ps.map (·.1) = ns.take j) (hxj : ns[j]? = some xj)
    (hp : ∃ part, PartAt W (overs [kg, rw, tl, pl, I8, J8] L ((D, tupO [.str xj tx, pv]) :: e2 :: e3 :: e4 :: e5 :: (J8, oJ) :: (pl, lstO (ys ++ [.ref D]) (yn + 1)) :: (I8, oI) :: (tl, lstO ts tn) :: (rw, lstO rs rn) :: (L + 3, oV) :: (L + 2, oF) :: (L + 1, oW) :: (515, tabObj #[]) :: (kg, ok2) :: news')) pv part)
    (j1 : m'' "keg" = some (.ref kg)) (j2 : m'' "names" = some (.ref nt)) (j3 : m'' "inner" = some (.ref I)) (j4 : m'' "rows" = some (.ref rw)) (j5 : m'' "told" = some (.ref tl)) (j6 : m'' "pairs" = some (.ref pl)) (j7 : m'' "at" = some av) :
    ForEnd g L s J8 oJ (PairsJ w L W I oV oF oW kg cl rw tl pl nt ns news I8 oI rs ts rn tn k av (j + 1)) { s with heap := h', toks := tk } := by
 refine @dropI _ ?_ ?_
 ·
  obtain ⟨part, hp⟩ := hp
  have hup : ∀ p ∈ news', p ∈ overs [kg, rw, tl, pl, I8, J8] L ((D, tupO [.str xj tx, pv]) :: e2 :: e3 :: e4 :: e5 :: (J8, oJ) :: (pl, lstO (ys ++ [.ref D]) (yn + 1)) :: (I8, oI) :: (tl, lstO ts tn) :: (rw, lstO rs rn) :: (L + 3, oV) :: (L + 2, oF) :: (L + 1, oW) :: (515, tabObj #[]) :: (kg, ok2) :: news') := fun p hp => by
    refine mem_overs.mpr ⟨?_, ?_, (hne' p hp).2⟩
    · repeat (first | exact hp | refine List.mem_cons_of_mem _ ?_)
    · have h1 := (hne' p hp).1
      have h2 := off p hp
      exact nin_cons (nin_hd h1) (nin_cons (nin_hd (nin_tl h1)) (nin_cons (nin_hd (nin_tl (nin_tl h1))) (nin_cons (nin_hd (nin_tl (nin_tl (nin_tl h1)))) (nin_cons (nin_hd (nin_tl (nin_tl (nin_tl (nin_tl h1))))) (nin_cons h2 nin_nil)))))
  refine ⟨h', tk, m'', _, rfl, F, news_overs (X := (J8, oJ) :: (pl, lstO (ys ++ [.ref D]) (yn + 1)) :: (I8, oI) :: (tl, lstO ts tn) :: (rw, lstO rs rn) :: (L + 3, oV) :: (L + 2, oF) :: (L + 1, oW) :: (515, tabObj #[]) :: (kg, ok2) :: []) (xs := [kg, rw, tl, pl, I8, J8]) (L := L) N ?_, ?_, ok2, tz2, k2 + 1 + 1, ys ++ [.ref D], yn + 1, ps ++ [(xj, part)], _, rfl, hok2, by omega, by omega, by rw [List.length_append, hyl]; rfl, ?_, ?_, fun p hp => hup p (hsub p hp), fun p hp => ⟨fun hq => (mem_overs.mp hp).2.1 ?_, (mem_overs.mp hp).2.2⟩, j1, j2, j3, j4, j5, j6, j7⟩
  · refine sub_cons mm5 (sub_cons mm6 (sub_cons mm7 (sub_cons mm8 (sub_cons mm9 (sub_cons mm10 (sub_cons mm11 (sub_cons mm12 (sub_cons mm13 (sub_cons (mn1 mm13) sub_nil)))))))))
  · have hIJ := Nat.lt_trans hip hpj
    have htJ := Nat.lt_trans hti hIJ
    have hrJ := Nat.lt_trans hrt htJ
    have hkJ := Nat.lt_trans hkr hrJ
    have hLJ := Nat.lt_trans hkg hkJ
    exact nea_cons (Nat.ne_of_lt hpj) (nea_cons (Nat.ne_of_lt hIJ) (nea_cons (Nat.ne_of_lt htJ) (nea_cons (Nat.ne_of_lt hrJ) (nea_cons (Nat.ne_of_lt hLJ) (nea_cons (Nat.ne_of_lt (lo2 hLJ)) (nea_cons (Nat.ne_of_lt (lo1 hLJ)) (nea_cons (Nat.ne_of_lt (lo5 hLJ l0)) (nea_cons (Nat.ne_of_lt hkJ) fun p h q => (nin_hd (nin_tl (nin_tl (nin_tl (nin_tl (nin_tl (mem_overs.mp h).2.1)))))) q))))))))
  · refine (hps.imp fun _ _ z => z.mono hup).snoc ⟨D, 0, tx, pv, rfl, mem_overs.mpr ⟨List.mem_cons_self, ?_, ?_⟩, hp⟩
    · have hpD := Nat.lt_trans hpj hjD
      have hID := Nat.lt_trans hip hpD
      have htD := Nat.lt_trans hti hID
      have hrD := Nat.lt_trans hrt htD
      exact nin_cons (Nat.ne_of_gt (Nat.lt_trans hkr hrD)) (nin_cons (Nat.ne_of_gt hrD) (nin_cons (Nat.ne_of_gt htD) (nin_cons (Nat.ne_of_gt hpD) (nin_cons (Nat.ne_of_gt hID) (nin_cons (Nat.ne_of_gt hjD) nin_nil)))))
    · exact Nat.lt_trans hkg (Nat.lt_trans hkr (Nat.lt_trans hrt (Nat.lt_trans hti (Nat.lt_trans hip (Nat.lt_trans hpj hjD)))))
  · rw [List.map_append, hpn, take_snoc hxj]; rfl
  · simp only [List.mem_cons, List.not_mem_nil, or_false] at hq ⊢
    rcases hq with h | h | h | h | h <;> simp [h]
 · intro T x h; refine dropT ?zB ?zA; simpa only using (h : DropP ?zA x); assumption
theorem segPairs {fa : Addr} {ql nm : Str} {pr : Arguments} {body : List Stmt} {sc : Scope} {dV kV doc pm cdv ct oc : Value} {an od : Option Addr} {osl : Array (Option Value)} (hb : (hd.heap_1_39 w.params).lookup 518 = some ⟨oc, od, .func (fnOf nm ql pr body sc dV kV doc pm an cdv ct), osl⟩)
    {g : Heap} {L : Addr} {m : Str → Option Value} {s : Shared} {Q : Flow → Shared → Prop} {E : Value → Shared → Prop}
    (K0 : Below callerA g [] g) (F : Fr g L s.heap m) (X : (hd.heap_1_39 w.params).In g) (T : Top p loose mean mg mb g) (l0 : @LT.lt Nat _ 515 L)
    {kg cl I W nt rw tl pl I8 : Addr} {oI : Obj} {rs ts : List Value} {rn tn : Nat} {av : Value} {oV oF oW ok : Obj} {news : Led} {k : Int} {tk0 t1 t2 t3 : Tok} {vs vn : List Value} {cs : List Int} {n nn nr : Nat} {ns : List Str}
    (hE : PassesOwn (model PR w) (callerA.deeper (envOfC ql sc L fa cdv)) (envOfC ql sc L fa cdv) E) (hkg : @LT.lt Nat _ (L + 3) kg) (hkr : @LT.lt Nat _ kg rw) (hrt : @LT.lt Nat _ rw tl) (hti : @LT.lt Nat _ tl I8) (hip : @LT.lt Nat _ I8 pl) (hne : ∀ p ∈ news, p.1 ∉ [kg, rw, tl, pl, I8] ∧ @LT.lt Nat _ (L + 3) p.1) (N : News g L s.heap ((pl, lstO [] 0) :: (I8, oI) :: RowLed L oV oF oW kg ok rw tl rs ts rn tn news))
    (hok : ok.IsDictOf (strKind PR w) [(("cells" : Str), .ref cl), (("spot" : Str), .int k tk0)]) (h0 : 0 ≤ k) (hk100 : k ≤ 61) (hcl : (cl, lstO vs n) ∈ news) (hI : IntsAre vs cs) (hlen : cs.length ≤ 30) (lo : (kg == sysModules) = false) (hce : cl ≠ kg)
    (hWo : oW.data = .cell (some (.ref W))) (hnt : (nt, tupO vn nn) ∈ news) (hvn : StrsAre2 vn ns) (hns : ns.length ≤ 2) (hm1 : m "keg" = some (.ref kg)) (hm2 : m "names" = some (.ref nt)) (hm3 : m "inner" = some (.ref I)) (hm4 : m "rows" = some (.ref rw)) (hm5 : m "told" = some (.ref tl)) (hm6 : m "pairs" = some (.ref pl)) (hm7 : m "at" = some av)
    (hQ : ∀ m' led h' tk', PairsJ w L W I oV oF oW kg cl rw tl pl nt ns news I8 oI rs ts rn tn k av ns.length m' led → Fr g L h' m' → News g L h' led → Q .next { s with heap := h', toks := tk' })
    (x x2 : Str) (px px2 : Pos) (iter iter2 : Expr) (bd bd2 : List Stmt) (pos pos2 : Pos) (hbd : (body.drop 7).take 1 = [.For (.Name x px) iter bd [] pos]) (hbd2 : (bd.drop 1).take 1 = [.For (.Name x2 px2) iter2 bd2 [] pos2]) :
    ForIn1 PR w (callerA.deeper (envOfC ql sc L fa cdv)) g L (envOfC ql sc L fa cdv) x2 bd2 Q E (.ref nt) s := by
 refine @dropI _ ?_ ?_
 ·
  have hb' := hb
  rw [show (hd.heap_1_39 w.params).lookup 518 = _ from by k_dflt k_is] at hb'
  injection hb' with hb'
  injection hb' with e1 e2 e3 e4
  injection e3 with e3
  injection e3 with f1 f2 f3 f4 f5 f6 f7 f8 f9 f10 f11 f12 f13 f14
  injection f4 with f4
  subst f4 f5 f2 f12 f13
  clear hb f1 f3 f6 f7 f8 f9 f10 f11 f14 e1 e2 e4
  (try simp only [List.drop, List.take])
  simp only [List.drop, List.take] at hbd
  injection hbd with hbd
  injection hbd with b1 b2 b3 b4 b5
  injection b1 with b1 b6
  subst b1 b3
  simp only [List.drop, List.take] at hbd2
  injection hbd2 with hbd2
  injection hbd2 with b1 b2 b3 b4 b5
  injection b1 with b1 b6
  subst b1 b3
  have hvl := hvn.length
  refine ⟨nt, vn, nn, m, _, PairsJ w L W I oV oF oW kg cl rw tl pl nt ns news I8 oI rs ts rn tn k av, rfl, rfl, F, N, ⟨ok, tk0, k, [], 0, [], news, rfl, hok, h0, by omega, rfl, .nil, rfl, fun _ h => h, hne, hm1, hm2, hm3, hm4, hm5, hm6, hm7⟩, ?_, ?_, fun m₁ led h tk hj F' N' => hQ m₁ led h tk (by rw [hvl] at hj; exact hj) F' N'⟩
  · intro i m' led hR39
    refine sealG fun pS hS9 => ?_
    obtain ⟨ok', tz, k2, ys, yn, ps, news', rfl, _, _, _, _, _, _, hs, _⟩ := hR39
    refine hS9 ?_
    clear hS9 pS
    simp only [List.mem_cons, hs _ hnt, or_true]
  intro j v m₁ led J8 oJ h8 tk8 hj hR99 hJ8 F8 N8 off
  refine sealG fun pS hS9 => ?_
  obtain ⟨ok', tz, k2, ys, yn, ps, news', rfl, hok', hk0, hkb, hyl, hps, hpn, hsub, hne', j1, j2, j3, j4, j5, j6, j7⟩ := hR99
  refine hS9 ?_
  clear hS9 pS
  have hj2 : j < 2 := by have := (List.getElem?_eq_some_iff.mp hj).1; omega
  refine sealG fun pS hS9 => ?_
  obtain ⟨xj, hxj, tx, rfl⟩ := hvn.get hj
  refine hS9 ?_
  clear hS9 pS
  dsimp only [RowLed, LawLed] at N8 hJ8
  have l8 := hJ8
  k_lt l8
  have hA : ∀ p ∈ news', p.1 ≠ kg := fun p hp q => (hne' p hp).1 (by rw [q]; simp)
  have hB : ∀ p ∈ news', p.1 ≠ pl := fun p hp q => (hne' p hp).1 (by rw [q]; simp)
  have hcl' := hsub _ hcl
  replace F8 := fr_chain (x := "pairs") (v := .ref pl) ((if_neg (by decide)).trans j6) F8
  replace F8 := fr_chain (x := "keg") (v := .ref kg) ((if_neg (by decide)).trans ((if_neg (by decide)).trans j1)) F8
  k_steps
  unfold Stopped
  refine' pourL ?Ne1 ?Ue1 hok' ?ce1 ?ee1 ?ze1 ?ye1 (by decide) (by decide) hI hlen ?Be1 ?Fe1 ?Xe1 ?Te1 ?ke1 lo ?de1 ?ue1 ?_; (case Ne1 => k_asm); (case Ue1 => k_updF); (case Be1 => k_asm); (case Fe1 => k_asm); (case Xe1 => k_asm); (case Te1 => k_asm); (case ke1 => exact rfl); (case ce1 => k_mem); (case ee1 => exact hce); (case ze1 => omega); (case ye1 => omega); (case de1 => ktr_room); (case ue1 => ktr_units)
  intro v1 tv1 ok1 h1 tk1 hR59 hv1 hv1' F1 N1
  obtain ⟨tz1, hok1⟩ := hR59
  (try dsimp only at N1)
  k_steps
  unfold Stopped
  refine' pourL ?Ne2 ?Ue2 hok1 ?ce2 ?ee2 ?ze2 ?ye2 (by decide) (by decide) hI hlen ?Be2 ?Fe2 ?Xe2 ?Te2 ?ke2 lo ?de2 ?ue2 ?_; (case Ne2 => k_asm); (case Ue2 => k_updF); (case Be2 => k_asm); (case Fe2 => k_asm); (case Xe2 => k_asm); (case Te2 => k_asm); (case ke2 => exact rfl); (case ce2 => k_mem); (case ee2 => exact hce); (case ze2 => omega); (case ye2 => omega); (case de2 => ktr_room); (case ue2 => ktr_units)
  intro v2 tv2 ok2 h2 tk2 hR59 hv2 hv2' F2 N2
  obtain ⟨tz2, hok2⟩ := hR59
  (try dsimp only at N2)
  k_steps
  (try any_goals exact (none : Option Value))
  (try dsimp only)
  rename News g L _ (_ :: _ :: _) => N10
  rw [show ∀ D : Value, ys.toArray.push D = (ys ++ [D]).toArray from fun D => by simp] at N10
  refine pairs_end N10 (by k_asm) l0 hkg hkr hrt hti hip ?_ ?_ (fun p hp => off p (by k_mem)) hne' hsub hok2 hk0 hkb hyl hps hpn hxj (part_of3 hxq (mem_overs.mpr ⟨by k_mem, ?_, ?_⟩) (mem_overs.mpr ⟨by k_mem, ?_, ?_⟩)) ?_ ?_ ?_ ?_ ?_ ?_ ?_
  all_goals first | omega | (simp only [j1, j2, j3, j4, j5, j6, j7]; rfl) | (simp only [List.mem_cons, List.not_mem_nil, or_false, not_or]; (repeat' (refine And.intro ?_ ?_)) <;> (show @Ne Nat _ _; (try dsimp only); omega)) | (show @LT.lt Nat _ _ _; (try dsimp only); omega)
 · intro T x h; refine dropT ?zB ?zA; simpa only using (h : DropP ?zA x); assumption
end
section
example : True := by
  w_top off
  trivial
theorem sB4.hB4 : True := trivial
open sB4
variable {w : World} {p : Program} {loose : List Str} {mean : ExcName → Option Value} {mg mb : Str → Option Value}
example : True := by
  k_with "call type:list" =>
    (guard_expr hB4 = hB4)
    (k_here; (with_reducible show wpAny _ _ (call (Value.type _) [Value.ref _]) _ _ _); k_dflt (refine' list_of (by first | ((k_asm); done) | fail "by") (by first | ((k_asm); done) | fail "by") (by first | ((k_mem); done) | fail "by") (by first | ((first | omega | (simp only [List.length_nil, List.length_cons, List.length_append]; omega)); done) | fail "by") ?_); intro D'ₖ c'ₖ h'ₖ F'ₖ N'ₖ l1ₖ; (try k_lt l1ₖ))
  trivial
example : True := by
  k_with "callWith ref" =>
    (guard_expr hB4 = hB4)
    (k_here; first
      | ((with_reducible refine' callWith_K (by first | (k_dflt k_asm; done) | fail "by") (by first | (k_dflt k_is; done) | fail "by") ?_ (by first | (k_dflt rfl; done) | fail "by") (by first | (k_dflt rfl; done) | fail "by")); k_whole)
      | ((with_reducible refine' callWith_K0 (by first | (k_dflt k_in; done) | fail "by") (by first | (k_dflt k_is; done) | fail "by") ?_); k_whole)
      | (k_dflt (first
      | refine' callWith_K (by first | (k_asm; done) | fail "by") (by first | (k_is; done) | fail "by") ?_; k_whole
      | refine' callWith_K0 (by first | (k_in; done) | fail "by") (by first | (k_is; done) | fail "by") ?_; k_whole)))
  trivial
example : True := by
  k_with "setAttr ref" =>
    (guard_expr hB4 = hB4)
    (k_here; k_dflt (refine' set_map (by first | (k_asm; done) | fail "by") (by first | (k_asm; done) | fail "by") (by first | (k_asm; done) | fail "by") (by first | (k_mem; done) | fail "by") (by first | (k_mem; done) | fail "by") (by first | (with_reducible assumption; done) | fail "by") (by first | (kernel_rfl; done) | fail "by") (by first | (k_updF; done) | fail "by") (by first | (exact rfl; done) | fail "by") ?_; k_whole; intro esₖ nₖ h'ₖ tk'ₖ M'ₖ F'ₖ N'ₖ; (try dsimp only at N'ₖ); (try k_sweep)))
  trivial
example : True := by
  k_with "call ref" =>
    (guard_expr hB4 = hB4)
    (k_here; k_dflt (first
    | (guard_target =~ wpAny _ _ (call (Value.ref 222) _) _ _ _; refine' sub_new (by first | ((k_asm); done) | fail "by") (by first | ((k_asm); done) | fail "by") (by first | ((k_asm); done) | fail "by") (by first | ((k_asm); done) | fail "by") (by first | ((k_asm); done) | fail "by") (by first | ((first | exact rfl | assumption); done) | fail "by") (by first | ((ktr_room); done) | fail "by") (by first | ((ktr_units); done) | fail "by") ?_; k_whole; intro x'ₖ d'ₖ es'ₖ n'ₖ h'ₖ tk'ₖ F'ₖ N'ₖ l1ₖ l2ₖ M'ₖ; have hneₖ := ne_all l1ₖ; (try k_lt l1ₖ); (try k_lt2 l2ₖ); (try dsimp only); (try k_sweep); (try k_fold))
      | (refine' call_cls0 (by first | ((k_asm); done) | fail "by") (by first | ((k_asm); done) | fail "by") (by first | ((k_asm); done) | fail "by") (by first | ((k_is); done) | fail "by") (by first | ((k_is); done) | fail "by") ?_; k_whole; intro x'ₖ d'ₖ h'ₖ F'ₖ N'ₖ l1ₖ l2ₖ; (try k_lt l1ₖ); (try k_lt2 l2ₖ); (try k_sweep))
      | (refine' call_clsM (by first | ((k_asm); done) | fail "by") (by first | ((k_asm); done) | fail "by") (by first | ((k_asm); done) | fail "by") (by first | ((k_is); done) | fail "by") (by first | ((k_is); done) | fail "by") (by first | ((k_is); done) | fail "by") ?_; k_whole; intro x'ₖ d'ₖ es'ₖ n'ₖ h'ₖ M'ₖ F'ₖ N'ₖ l1ₖ l2ₖ; have hneₖ := ne_all l1ₖ; (try k_lt l1ₖ); (try k_lt2 l2ₖ); (try k_sweep); k_enter)
      | (refine wpAny_call ?_; k_enter)))
  trivial
example : True := by
  k_with "exec For" =>
    (guard_expr hB4 = hB4)
    (k_here; refine stop_here ?_)
  trivial
example : True := by
  k_with "exec For Name Call cons nil" =>
    (guard_expr hB4 = hB4)
    (k_here; refine stop_here ?_)
  trivial
example : True := by
  k_with "exec For Name Name cons nil" =>
    (guard_expr hB4 = hB4)
    (k_here; refine stop_here ?_)
  trivial
example : True := by
  k_with "call builtin:list.append" =>
    (guard_expr hB4 = hB4)
    (k_here; (with_reducible show wpAny _ _ (call (Value.builtin _) [Value.ref _, _]) _ _ _); k_dflt (refine' append_K (by first | (k_asm; done) | fail "by") (by first | (k_asm; done) | fail "by") (by first | (k_upd; done) | fail "by") ?_ (by first | ((rw [List.size_toArray, sizeLine_eq]; omega); done) | fail "by"); k_whole); intro h'ₖ F'ₖ N'ₖ; (try k_sweep))
  trivial
theorem rows_end {g h' : Heap} {L W I kg cl rw tl nt pl I8 Dc Dr Sx dS Dx : Addr} {oV oF oW oI ok2 : Obj} {ns : List Str} {news news2 : Led} {rs ts ys : List Value} {rn tn yn c nx i tk : Nat} {k2 : Int} {m'' : Str → Option Value} {nm : Str} {tx txx tz2 : Tok} {esx : List DictEntry} {ps : List (Str × Part)} {qs : List (List (Str × Part))} {s : Shared}
    (N : News g L h' ((Dc, lstO ys c) :: (Dr, tupO [.str nm tx, .ref Sx, .none]) :: (Sx, instObj 222 dS) :: (dS, dictOf esx nx) :: (Dx, tupO [.str "discs" txx, .ref pl]) :: (pl, lstO ys yn) :: (I8, oI) :: (tl, lstO (ts ++ [.ref Dc]) (tn + 1)) :: (rw, lstO (rs ++ [.ref Dr]) (rn + 1)) :: (L + 3, oV) :: (L + 2, oF) :: (L + 1, oW) :: (515, tabObj #[]) :: (kg, ok2) :: news2))
    (F : Fr g L h' m'') (l0 : @LT.lt Nat _ 515 L) (hkg : @LT.lt Nat _ (L + 3) kg) (hkr : @LT.lt Nat _ kg rw) (hrt : @LT.lt Nat _ rw tl) (hti : @LT.lt Nat _ tl I8) (hip : @LT.lt Nat _ I8 pl) (o1 : @LT.lt Nat _ pl Dc) (o2 : @LT.lt Nat _ pl Dr) (o3 : @LT.lt Nat _ pl Sx) (o4 : @LT.lt Nat _ pl dS) (o5 : @LT.lt Nat _ pl Dx)
    (hne2 : ∀ p ∈ news2, p.1 ∉ [kg, rw, tl, pl, I8] ∧ @LT.lt Nat _ (L + 3) p.1) (hsub : ∀ p ∈ news, p ∈ news2) (hok2 : ok2.IsDictOf (strKind PR w) [(("cells" : Str), .ref cl), (("spot" : Str), .int k2 tz2)]) (hk0 : 0 ≤ k2) (hkb : k2 ≤ 21 + 10 * i) (hql : qs.length = i)
    (hrs : All2 (RowTold W I news2) rs qs) (hts : All2 (PairsAt W news2) ts qs) (hqn : ∀ q ∈ qs, q.map (·.1) = ns) (hps : All2 (PairAt W news2) ys ps) (hpn : ps.map (·.1) = ns) (g1 : getL "type" esx = some (some (.ref I))) (g2 : getL "constraint" esx = some (some (.ref Dx)))
    (j1 : m'' "keg" = some (.ref kg)) (j2 : m'' "names" = some (.ref nt)) (j3 : m'' "inner" = some (.ref I)) (j4 : m'' "rows" = some (.ref rw)) (j5 : m'' "told" = some (.ref tl)) :
    ForEnd g L s I8 oI (RowsJ w L W I oV oF oW kg cl rw tl nt ns news (i + 1)) { s with heap := h', toks := tk } := by
 refine @dropI _ ?_ ?_
 ·
  have hup : ∀ p ∈ news2, p ∈ overs [kg, rw, tl, I8] L ((Dc, lstO ys c) :: (Dr, tupO [.str nm tx, .ref Sx, .none]) :: (Sx, instObj 222 dS) :: (dS, dictOf esx nx) :: (Dx, tupO [.str "discs" txx, .ref pl]) :: (pl, lstO ys yn) :: (I8, oI) :: (tl, lstO (ts ++ [.ref Dc]) (tn + 1)) :: (rw, lstO (rs ++ [.ref Dr]) (rn + 1)) :: (L + 3, oV) :: (L + 2, oF) :: (L + 1, oW) :: (515, tabObj #[]) :: (kg, ok2) :: news2) := fun p hp => by
    refine mem_overs.mpr ⟨?_, ?_, (hne2 p hp).2⟩
    · repeat (first | exact hp | refine List.mem_cons_of_mem _ ?_)
    · have h1 := (hne2 p hp).1
      exact nin_cons (nin_hd h1) (nin_cons (nin_hd (nin_tl h1)) (nin_cons (nin_hd (nin_tl (nin_tl h1))) (nin_cons (nin_hd (nin_tl (nin_tl (nin_tl (nin_tl h1))))) nin_nil)))
  have hov : ∀ (a : Addr) (o : Obj), (a, o) ∈ (Dc, lstO ys c) :: (Dr, tupO [.str nm tx, .ref Sx, .none]) :: (Sx, instObj 222 dS) :: (dS, dictOf esx nx) :: (Dx, tupO [.str "discs" txx, .ref pl]) :: (pl, lstO ys yn) :: (I8, oI) :: (tl, lstO (ts ++ [.ref Dc]) (tn + 1)) :: (rw, lstO (rs ++ [.ref Dr]) (rn + 1)) :: (L + 3, oV) :: (L + 2, oF) :: (L + 1, oW) :: (515, tabObj #[]) :: (kg, ok2) :: news2 → (@Eq Nat a pl ∨ @LT.lt Nat _ pl a) → (a, o) ∈ overs [kg, rw, tl, I8] L ((Dc, lstO ys c) :: (Dr, tupO [.str nm tx, .ref Sx, .none]) :: (Sx, instObj 222 dS) :: (dS, dictOf esx nx) :: (Dx, tupO [.str "discs" txx, .ref pl]) :: (pl, lstO ys yn) :: (I8, oI) :: (tl, lstO (ts ++ [.ref Dc]) (tn + 1)) :: (rw, lstO (rs ++ [.ref Dr]) (rn + 1)) :: (L + 3, oV) :: (L + 2, oF) :: (L + 1, oW) :: (515, tabObj #[]) :: (kg, ok2) :: news2) := fun a o hm ha => by
    refine mem_overs.mpr ⟨hm, ?_, ?_⟩
    · rcases ha with ha | ha
      · subst ha
        exact nin_cons (Nat.ne_of_gt (Nat.lt_trans (Nat.lt_trans (Nat.lt_trans hkr hrt) hti) hip)) (nin_cons (Nat.ne_of_gt (Nat.lt_trans (Nat.lt_trans hrt hti) hip)) (nin_cons (Nat.ne_of_gt (Nat.lt_trans hti hip)) (nin_cons (Nat.ne_of_gt hip) nin_nil)))
      · have h5 := Nat.lt_trans hip ha
        exact nin_cons (Nat.ne_of_gt (Nat.lt_trans (Nat.lt_trans (Nat.lt_trans hkr hrt) hti) h5)) (nin_cons (Nat.ne_of_gt (Nat.lt_trans (Nat.lt_trans hrt hti) h5)) (nin_cons (Nat.ne_of_gt (Nat.lt_trans hti h5)) (nin_cons (Nat.ne_of_gt h5) nin_nil)))
    · have h5 : @LT.lt Nat _ (L + 3) pl := Nat.lt_trans (Nat.lt_trans (Nat.lt_trans (Nat.lt_trans hkg hkr) hrt) hti) hip
      rcases ha with ha | ha
      · subst ha; exact h5
      · exact Nat.lt_trans h5 ha
  have hpa := hps.imp fun _ _ (z : PairAt W news2 _ _) => z.mono hup
  have hpl := hov pl (lstO ys yn) mm5 (.inl rfl)
  refine ⟨h', tk, m'', _, rfl, F, news_overs (X := (I8, oI) :: (tl, lstO (ts ++ [.ref Dc]) (tn + 1)) :: (rw, lstO (rs ++ [.ref Dr]) (rn + 1)) :: (L + 3, oV) :: (L + 2, oF) :: (L + 1, oW) :: (515, tabObj #[]) :: (kg, ok2) :: []) (xs := [kg, rw, tl, I8]) (L := L) N ?_, ?_, ok2, tz2, k2, rs ++ [.ref Dr], ts ++ [.ref Dc], rn + 1, tn + 1, qs ++ [ps], _, rfl, hok2, hk0, by omega, by rw [List.length_append, hql]; rfl, ?_, ?_, ?_, fun p hp => hup p (hsub p hp), fun p hp => ⟨fun hq => (mem_overs.mp hp).2.1 ?_, (mem_overs.mp hp).2.2⟩, j1, j2, j3, j4, j5⟩
  · refine sub_cons mm6 (sub_cons mm7 (sub_cons mm8 (sub_cons mm9 (sub_cons mm10 (sub_cons mm11 (sub_cons mm12 (sub_cons mm13 sub_nil)))))))
  · have hLI := Nat.lt_trans (Nat.lt_trans (Nat.lt_trans hkg hkr) hrt) hti
    exact nea_cons (Nat.ne_of_lt hti) (nea_cons (Nat.ne_of_lt (Nat.lt_trans hrt hti)) (nea_cons (Nat.ne_of_lt hLI) (nea_cons (Nat.ne_of_lt (lo2 hLI)) (nea_cons (Nat.ne_of_lt (lo1 hLI)) (nea_cons (Nat.ne_of_lt (lo5 hLI l0)) (nea_cons (Nat.ne_of_lt (Nat.lt_trans (Nat.lt_trans hkr hrt) hti)) fun p h q => (nin_hd (nin_tl (nin_tl (nin_tl (mem_overs.mp h).2.1)))) q))))))
  · refine (hrs.imp fun _ _ z => z.mono hup).snoc ⟨Dr, 0, nm, tx, Sx, dS, Dx, pl, esx, nx, 0, yn, txx, ys, rfl, hov _ _ mm1 (.inr o2), ⟨hov _ _ mm2 (.inr o3), hov _ _ mm3 (.inr o4)⟩, g1, g2, hov _ _ mm4 (.inr o5), hpl, hpa⟩
  · refine (hts.imp fun _ _ z => z.mono hup).snoc ⟨Dc, c, ys, rfl, hov _ _ mm0 (.inr o1), hpa⟩
  · intro q hq
    rcases List.mem_append.mp hq with h | h
    · exact hqn q h
    · rw [List.mem_singleton.mp h]; exact hpn
  · simp only [List.mem_cons, List.not_mem_nil, or_false] at hq ⊢
    rcases hq with h | h | h <;> simp [h]
 · intro T x h; refine dropT ?zB ?zA; simpa only using (h : DropP ?zA x); assumption
theorem segRows {fa : Addr} {ql nm : Str} {pr : Arguments} {body : List Stmt} {sc : Scope} {dV kV doc pm cdv ct oc : Value} {an od : Option Addr} {osl : Array (Option Value)} (hb : (hd.heap_1_39 w.params).lookup 518 = some ⟨oc, od, .func (fnOf nm ql pr body sc dV kV doc pm an cdv ct), osl⟩)
    {g : Heap} {L : Addr} {m : Str → Option Value} {s : Shared} {Q : Flow → Shared → Prop} {E : Value → Shared → Prop}
    (K0 : Below callerA g [] g) (F : Fr g L s.heap m) (X : (hd.heap_1_39 w.params).In g) (T : Top p loose mean mg mb g) (l0 : @LT.lt Nat _ 515 L)
    {kg cl I W nt rw tl ax : Addr} {oV oF oW ok : Obj} {news : Led} {k : Int} {tk0 t1 t2 t3 : Tok} {vs vn : List Value} {cs : List Int} {n nn nr : Nat} {ns : List Str}
    (hE : PassesOwn (model PR w) (callerA.deeper (envOfC ql sc L fa cdv)) (envOfC ql sc L fa cdv) E) (hkg : @LT.lt Nat _ (L + 3) kg) (hkr : @LT.lt Nat _ kg rw) (hrt : @LT.lt Nat _ rw tl) (hne : ∀ p ∈ news, p.1 ∉ [kg, rw, tl] ∧ @LT.lt Nat _ (L + 3) p.1) (N : News g L s.heap (RowLed L oV oF oW kg ok rw tl [] [] 0 0 news))
    (hok : ok.IsDictOf (strKind PR w) [(("cells" : Str), .ref cl), (("spot" : Str), .int k tk0)]) (h0 : 0 ≤ k) (hk100 : k ≤ 11) (hcl : (cl, lstO vs n) ∈ news) (hI : IntsAre vs cs) (hlen : cs.length ≤ 30) (lo : (kg == sysModules) = false) (hce : cl ≠ kg)
    (hWo : oW.data = .cell (some (.ref W))) (hnt : (nt, tupO vn nn) ∈ news) (hvn : StrsAre2 vn ns) (hns : ns.length ≤ 2) (hm1 : m "keg" = some (.ref kg)) (hm2 : m "names" = some (.ref nt)) (hm3 : m "inner" = some (.ref I)) (hm4 : m "rows" = some (.ref rw)) (hm5 : m "told" = some (.ref tl))
    (hr : IsRange s.heap ax 0 nr 1 t1 t2 t3) (hnr : nr ≤ 5)
    (hQ : ∀ m' led h' tk', RowsJ w L W I oV oF oW kg cl rw tl nt ns news nr m' led → Fr g L h' m' → News g L h' led → Q .next { s with heap := h', toks := tk' })
    (x : Str) (px : Pos) (iter : Expr) (bd : List Stmt) (pos : Pos) (hbd : (body.drop 7).take 1 = [.For (.Name x px) iter bd [] pos]) :
    ForInR PR w (callerA.deeper (envOfC ql sc L fa cdv)) g L (envOfC ql sc L fa cdv) x bd Q E (.ref ax) s := by
 refine @dropI _ ?_ ?_
 ·
  have hb0 := hb
  have hb' := hb
  rw [show (hd.heap_1_39 w.params).lookup 518 = _ from by k_dflt k_is] at hb'
  injection hb' with hb'
  injection hb' with e1 e2 e3 e4
  injection e3 with e3
  injection e3 with f1 f2 f3 f4 f5 f6 f7 f8 f9 f10 f11 f12 f13 f14
  injection f4 with f4
  subst f4 f5 f2 f12 f13
  clear hb f1 f3 f6 f7 f8 f9 f10 f11 f14 e1 e2 e4
  (try simp only [List.drop, List.take])
  simp only [List.drop, List.take] at hbd
  injection hbd with hbd
  injection hbd with b1 b2 b3 b4 b5
  injection b1 with b1 b6
  subst b1 b3
  refine ⟨ax, nr, t1, t2, t3, m, _, RowsJ w L W I oV oF oW kg cl rw tl nt ns news, rfl, rfl, hr, by omega, F, N, ⟨ok, tk0, k, [], [], 0, 0, [], news, rfl, hok, h0, by omega, rfl, .nil, .nil, (fun q h => nomatch h), fun _ h => h, hne, hm1, hm2, hm3, hm4, hm5⟩, ?_, hQ⟩
  intro i ti m₁ led I8 oI h8 tk8 hi hR99 hI8 F8 N8 off
  refine sealG fun pS hS9 => ?_
  obtain ⟨ok', tz, k', rs, ts, rn, tn, qs, news', rfl, hok', hk0, hkb, hql, hrs, hts, hqn, hsub, hne', j1, j2, j3, j4, j5⟩ := hR99
  refine hS9 ?_
  clear hS9 pS
  dsimp only [RowLed, LawLed] at N8 hI8
  have l8 := hI8
  k_lt l8
  have hA : ∀ p ∈ news', p.1 ≠ kg := fun p hp q => (hne' p hp).1 (by rw [q]; simp)
  have hB : ∀ p ∈ news', p.1 ≠ rw := fun p hp q => (hne' p hp).1 (by rw [q]; simp)
  have hC : ∀ p ∈ news', p.1 ≠ tl := fun p hp q => (hne' p hp).1 (by rw [q]; simp)
  replace F8 := fr_chain (x := "inner") (v := .ref I) ((if_neg (by decide)).trans j3) F8
  replace F8 := fr_chain (x := "names") (v := .ref nt) ((if_neg (by decide)).trans ((if_neg (by decide)).trans j2)) F8
  have wt := hsub _ hnt
  have wcl := hsub _ hcl
  k_steps
  unfold Stopped
  k_dflt (refine' for_tuple ?tF ?tL ?tx ?tp ?_ ?ts ?tE; (case tF => k_asm); (case tL => exact rfl); (case tx => rfl); (case tp => rfl); (case ts => intro _; rfl); (case tE => exact hE))
  k_steps
  rename News g L _ (_ :: (I8, oI) :: _) => N9
  rename Fr g L _ (fun y => if y = "pairs" then _ else _) => F9
  refine segPairs hb0 K0 F9 X T l0 (n := n) (cs := cs) (vs := vs) (k := k') (tk0 := tz) (av := .int i ti) (nr := 0) (t1 := ti) (t2 := ti) (t3 := ti) (I := I) hE hkg hkr hrt (by omega) (by omega) ?_ N9 hok' hk0 (by omega) wcl hI hlen lo hce hWo wt hvn hns ?_ ?_ ?_ ?_ ?_ rfl ?_ ?_ _ _ _ _ _ _ _ _ _ _ rfl rfl
  · intro p hp
    have h1 := (hne' p hp).1
    have h2 := off p (by k_mem)
    refine ⟨?_, (hne' p hp).2⟩
    exact nin_cons (nin_hd h1) (nin_cons (nin_hd (nin_tl h1)) (nin_cons (nin_hd (nin_tl (nin_tl h1))) (nin_cons (Nat.ne_of_lt (tb_ltOf (by tbn_find) p hp)) (nin_cons h2 nin_nil))))
  · rw [if_neg (by decide), if_neg (by decide), if_neg (by decide), if_neg (by decide)]; exact j1
  · rfl
  · rfl
  · rw [if_neg (by decide), if_neg (by decide), if_neg (by decide), if_neg (by decide)]; exact j4
  · rw [if_neg (by decide), if_neg (by decide), if_neg (by decide), if_neg (by decide)]; exact j5
  · rfl
  intro m2 led h7 tk7 hR49 F7 N7
  refine sealG fun pS hS9 => ?_
  obtain ⟨ok2, tz2, k2, ys, yn, ps, news2, rfl, hok2, hk2, hkb2, hyl, hps, hpn, hsub2, hne2, i1, i2, i3, i4, i5, i6, i7⟩ := hR49
  refine hS9 ?_
  clear hS9 pS
  dsimp only [RowLed, LawLed] at N7
  replace F7 := fr_chain i3 F7
  replace F7 := fr_chain (x := "rows") (v := .ref rw) ((if_neg (by decide)).trans i4) F7
  replace F7 := fr_chain (x := "told") (v := .ref tl) ((if_neg (by decide)).trans ((if_neg (by decide)).trans i5)) F7
  replace F7 := fr_chain (x := "pairs") (v := _) ((if_neg (by decide)).trans ((if_neg (by decide)).trans ((if_neg (by decide)).trans i6))) F7
  replace F7 := fr_chain (x := "at") (v := .int i ti) ((if_neg (by decide)).trans ((if_neg (by decide)).trans ((if_neg (by decide)).trans ((if_neg (by decide)).trans i7)))) F7
  have hA2 : ∀ p ∈ news2, p.1 ≠ rw := fun p hp q => (hne2 p hp).1 (by rw [q]; simp)
  have hB2 : ∀ p ∈ news2, p.1 ≠ tl := fun p hp q => (hne2 p hp).1 (by rw [q]; simp)
  have hyl2 : ys.length ≤ 2 := by omega
  have hrl : rs.length = i := by rw [hrs.length, hql]
  have htl : ts.length = i := by rw [hts.length, hql]
  have hi5 : i < 5 := by omega
  clear N9 F9
  k_steps
  dsimp only
  rename News g L _ (_ :: _ :: _) => N10
  rw [show ∀ D : Value, rs.toArray.push D = (rs ++ [D]).toArray from fun D => by simp, show ∀ D : Value, ts.toArray.push D = (ts ++ [D]).toArray from fun D => by simp] at N10
  refine rows_end N10 (by k_asm) l0 hkg hkr hrt (by omega) (by omega) ?_ ?_ ?_ ?_ ?_ hne2 (fun p hp => hsub2 p (hsub p hp)) hok2 hk2 (by omega) hql (hrs.imp fun _ _ z => z.mono hsub2) (hts.imp fun _ _ z => PairsAt.mono hsub2 z) hqn hps (by rw [hpn, List.take_length]) (by k_get) (by k_get) ?_ ?_ ?_ ?_ ?_
  all_goals first | omega | (simp only [i1, i2, i3, i4, i5]; rfl)
 · intro T x h; refine dropT ?zB ?zA; simpa only using (h : DropP ?zA x); assumption
end
section
example : True := by
  w_top off
  trivial
theorem sB5.hB5 : True := trivial
open sB5
variable {w : World} {p : Program} {loose : List Str} {mean : ExcName → Option Value} {mg mb : Str → Option Value}
example : True := by
  k_with "callWith ref" =>
    (guard_expr hB5 = hB5)
    (k_here; k_dflt (first
      | refine' callWith_K (by first | ((k_asm); done) | fail "by") (by first | ((k_is); done) | fail "by") ?_; k_whole
      | refine' callWith_K0 (by first | ((k_in); done) | fail "by") (by first | ((k_is); done) | fail "by") ?_; k_whole))
  trivial
example : True := by
  k_with "call ref" =>
    (guard_expr hB5 = hB5)
    (k_here; k_dflt (first
    | ((with_reducible show wpAny _ _ (call (Value.ref 513) _) _ _ _); refine stop_here ?_)
      | (refine' call_cls0 (by first | ((k_asm); done) | fail "by") (by first | ((k_asm); done) | fail "by") (by first | ((k_asm); done) | fail "by") (by first | ((k_is); done) | fail "by") (by first | ((k_is); done) | fail "by") ?_; k_whole; intro x'ₖ d'ₖ h'ₖ F'ₖ N'ₖ l1ₖ l2ₖ; (try k_lt l1ₖ); (try k_lt2 l2ₖ); (try k_sweep))
      | (refine' call_cls (by first | ((k_asm); done) | fail "by") (by first | ((k_asm); done) | fail "by") (by first | ((k_asm); done) | fail "by") (by first | ((k_is); done) | fail "by") (by first | ((k_is); done) | fail "by") (by first | ((k_is); done) | fail "by") ?_; k_whole; intro x'ₖ d'ₖ h'ₖ F'ₖ N'ₖ l1ₖ l2ₖ; (try k_lt l1ₖ); (try k_lt2 l2ₖ); (try k_sweep); k_enter)
      | (refine wpAny_call ?_; k_enter)))
  trivial
example : True := by
  k_with "exec For" =>
    (guard_expr hB5 = hB5)
    (k_here; refine stop_here ?_)
  trivial
example : True := by
  k_with "exec For Name Call cons nil" =>
    (guard_expr hB5 = hB5)
    (k_here; refine stop_here ?_)
  trivial
example : True := by
  k_with "exec For Name Name cons nil" =>
    (guard_expr hB5 = hB5)
    (k_here; refine stop_here ?_)
  trivial
theorem segD {fa : Addr} {ql nm : Str} {pr : Arguments} {body : List Stmt} {sc : Scope} {dV kV doc pm cdv ct oc : Value} {an od : Option Addr} {osl : Array (Option Value)} (hb : (hd.heap_1_39 w.params).lookup 518 = some ⟨oc, od, .func (fnOf nm ql pr body sc dV kV doc pm an cdv ct), osl⟩)
    {g : Heap} {L : Addr} {m : Str → Option Value} {s : Shared} {Q : Flow → Shared → Prop} {E : Value → Shared → Prop}
    (K0 : Below callerA g [] g) (F : Fr g L s.heap m) (X : (hd.heap_1_39 w.params).In g) (T : Top p loose mean mg mb g) (l0 : @LT.lt Nat _ 515 L)
    {kg cl I W t : Addr} {oV oF oW ok : Obj} {news : Led} {k : Int} {tk0 : Tok} {vs vn : List Value} {cs : List Int} {n nn : Nat} {ns : List Str} (hE : PassesOwn (model PR w) (callerA.deeper (envOfC ql sc L fa cdv)) (envOfC ql sc L fa cdv) E) (hkg : @LT.lt Nat _ (L + 3) kg) (hne : ∀ p ∈ news, p.1 ≠ kg ∧ @LT.lt Nat _ (L + 3) p.1) (N : News g L s.heap (LawLed L oV oF oW kg ok news))
    (hok : ok.IsDictOf (strKind PR w) [(("cells" : Str), .ref cl), (("spot" : Str), .int k tk0)]) (h0 : 0 ≤ k) (hk100 : k ≤ 10) (hcl : (cl, lstO vs n) ∈ news) (hI : IntsAre vs cs) (hlen : cs.length ≤ 30) (lo : (kg == sysModules) = false) (hce : cl ≠ kg)
    (hWo : oW.data = .cell (some (.ref W))) (hnt : (t, tupO vn nn) ∈ news) (hvn : StrsAre2 vn ns) (hns : ns.length ≤ 2) (hm1 : m "keg" = some (.ref kg)) (hm2 : m "names" = some (.ref t)) (hm3 : m "inner" = some (.ref I))
    (hQ : ∀ m' led h' tk' rw tl nr, nr ≤ 5 → @LT.lt Nat _ kg rw → @LT.lt Nat _ rw tl → RowsJ w L W I oV oF oW kg cl rw tl t ns news nr m' led → Fr g L h' m' → News g L h' led → Q .next { s with heap := h', toks := tk' }) : wpAny (model PR w) (callerA.deeper (envOfC ql sc L fa cdv)) (execs ((body.drop 6).take 2) (envOfC ql sc L fa cdv)) Q E s := by
 refine @dropI _ ?_ ?_
 ·
  have hb0 := hb
  have hb' := hb
  rw [show (hd.heap_1_39 w.params).lookup 518 = _ from by k_dflt k_is] at hb'
  injection hb' with hb'
  injection hb' with e1 e2 e3 e4
  injection e3 with e3
  injection e3 with f1 f2 f3 f4 f5 f6 f7 f8 f9 f10 f11 f12 f13 f14
  injection f4 with f4
  subst f4 f5 f2 f12 f13
  clear hb f1 f3 f6 f7 f8 f9 f10 f11 f14 e1 e2 e4
  (try simp only [List.drop, List.take])
  dsimp only [LawLed] at N
  replace F := fr_chain hm3 F
  replace F := fr_chain (x := "names") (v := .ref t) ((if_neg (by decide)).trans hm2) F
  replace F := fr_chain (x := "keg") (v := .ref kg) ((if_neg (by decide)).trans ((if_neg (by decide)).trans hm1)) F
  have hneK : ∀ p ∈ news, p.1 ≠ kg := fun p hp => (hne p hp).1
  k_steps
  unfold Stopped
  k_dflt (refine' for_range ?oF ?oL ?ox ?op ?_ ?os ?oE; (case oF => k_asm); (case oL => exact rfl); (case ox => rfl); (case op => rfl); (case os => intro _; rfl); (case oE => exact hE))
  k_steps
  unfold Stopped
  refine' pourL ?Nd1 ?Ud1 hok ?cd1 ?ed1 ?zd1 ?yd1 (by decide) (by decide) hI hlen ?Bd1 ?Fd1 ?Xd1 ?Td1 ?kd1 lo ?dd1 ?ud1 ?_; (case Nd1 => k_asm); (case Ud1 => k_updF); (case Bd1 => k_asm); (case Fd1 => k_asm); (case Xd1 => k_asm); (case Td1 => k_asm); (case kd1 => exact rfl); (case cd1 => k_mem); (case ed1 => exact hce); (case zd1 => omega); (case yd1 => omega); (case dd1 => ktr_room); (case ud1 => ktr_units)
  intro v1 tv1 ok1 h1 tk1 hR59 hv1 hv1' F1 N1
  obtain ⟨tz1, hok1⟩ := hR59
  (try dsimp only at N1)
  obtain ⟨nr, rfl⟩ : ∃ nr : Nat, v1 = nr := ⟨v1.toNat, by omega⟩
  k_steps
  rename Fr g L _ _ => F9
  rename News g L _ (_ :: _ :: _ :: _) => N9
  rename IsRange _ _ _ _ _ _ _ _ => hr
  refine segRows hb0 K0 F9 X T l0 (n := n) (cs := cs) (vs := vs) (I := I) hE hkg ?_ ?_ ?_ (news_sub N9 fun p hp => List.mem_cons_of_mem _ hp) hok1 (by omega) (by omega) hcl (by assumption) hlen lo hce hWo hnt hvn hns ?_ ?_ ?_ rfl rfl hr (by omega) ?_ _ _ _ _ _ rfl
  all_goals first | omega | rfl | skip
  · intro p hp
    refine ⟨?_, (hne p hp).2⟩
    exact nin_cons (fun e => (hne p hp).1 e) (nin_cons (Nat.ne_of_lt (tb_ltOf (by tbn_find) p hp)) (nin_cons (Nat.ne_of_lt (tb_ltOf (by tbn_find) p hp)) nin_nil))
  · intro m' led h' tk' hj F' N'
    k_steps
    exact hQ m' led h' _ _ _ nr (by omega) (by omega) (by omega) hj F' N'
 · intro T x h; refine dropT ?zB ?zA; simpa only using (h : DropP ?zA x); assumption
end
section
example : True := by
  w_top off
  trivial
theorem sB6.hB6 : True := trivial
open sB6
variable {w : World} {p : Program} {loose : List Str} {mean : ExcName → Option Value} {mg mb : Str → Option Value}
example : True := by
  k_with "compareOp Eq ref ref" =>
    (guard_expr hB6 = hB6)
    (k_here; k_dflt (refine' eq_empty (by first | ((exact ⟨_, (News.get (by k_asm) (by k_mem)), rfl, _, rfl⟩); done) | fail "by") (by first | ((exact ⟨_, (News.get (by k_asm) (by k_mem)), rfl, _, rfl⟩); done) | fail "by") (by first | ((ktr_units); done) | fail "by") ?_))
  trivial
example : True := by
  k_with "call type:list" =>
    (guard_expr hB6 = hB6)
    (k_here; (with_reducible show wpAny _ _ (call (Value.type _) [Value.ref _]) _ _ _); k_dflt (refine' list_of (by first | ((k_asm); done) | fail "by") (by first | ((k_asm); done) | fail "by") (by first | ((k_mem); done) | fail "by") (by first | ((first | omega | (simp only [List.length_nil, List.length_cons, List.length_append]; omega)); done) | fail "by") ?_); intro D'ₖ c'ₖ h'ₖ F'ₖ N'ₖ l1ₖ; (try k_lt l1ₖ))
  trivial
example : True := by
  k_with "callWith ref" =>
    (guard_expr hB6 = hB6)
    (k_here; first
      | ((with_reducible refine' callWith_K (by first | (k_dflt k_asm; done) | fail "by") (by first | (k_dflt k_is; done) | fail "by") ?_ (by first | (k_dflt rfl; done) | fail "by") (by first | (k_dflt rfl; done) | fail "by")); k_whole)
      | ((with_reducible refine' callWith_K0 (by first | (k_dflt k_in; done) | fail "by") (by first | (k_dflt k_is; done) | fail "by") ?_); k_whole)
      | (k_dflt (first
      | refine' callWith_K (by first | (k_asm; done) | fail "by") (by first | (k_is; done) | fail "by") ?_; k_whole
      | refine' callWith_K0 (by first | (k_in; done) | fail "by") (by first | (k_is; done) | fail "by") ?_; k_whole)))
  trivial
example : True := by
  k_with "setAttr ref" =>
    (guard_expr hB6 = hB6)
    (k_here; k_dflt (refine' set_map (by first | (k_asm; done) | fail "by") (by first | (k_asm; done) | fail "by") (by first | (k_asm; done) | fail "by") (by first | (k_mem; done) | fail "by") (by first | (k_mem; done) | fail "by") (by first | (with_reducible assumption; done) | fail "by") (by first | (kernel_rfl; done) | fail "by") (by first | (k_updF; done) | fail "by") (by first | (exact rfl; done) | fail "by") ?_; k_whole; intro esₖ nₖ h'ₖ tk'ₖ M'ₖ F'ₖ N'ₖ; (try dsimp only at N'ₖ); (try k_sweep)))
  trivial
example : True := by
  k_with "call ref" =>
    (guard_expr hB6 = hB6)
    (k_here; k_dflt (first
    | ((with_reducible show wpAny _ _ (call (Value.ref 513) _) _ _ _); refine stop_here ?_)
      | (guard_target =~ wpAny _ _ (call (Value.ref 201) _) _ _ _; refine' type_new (by first | ((k_asm); done) | fail "by") (by first | ((k_asm); done) | fail "by") (by first | ((k_asm); done) | fail "by") (by first | ((k_asm); done) | fail "by") (by first | ((k_asm); done) | fail "by") (by first | ((first | exact rfl | assumption); done) | fail "by") (by first | ((ktr_room); done) | fail "by") (by first | ((ktr_units); done) | fail "by") ?_; k_whole; intro Tₖ dTₖ lXₖ lDₖ lCₖ dOₖ esₖ nₖ oOₖ lLₖ tSₖ t1ₖ t2ₖ h'ₖ tk'ₖ F'ₖ N'ₖ l1ₖ l2ₖ l3ₖ l4ₖ l5ₖ l6ₖ M'ₖ loₖ opₖ; have hneₖ := ne_all l1ₖ; (try k_lt l1ₖ); (try dsimp only); (try k_sweep); (try k_fold))
      | (refine' call_cls0 (by first | ((k_asm); done) | fail "by") (by first | ((k_asm); done) | fail "by") (by first | ((k_asm); done) | fail "by") (by first | ((k_is); done) | fail "by") (by first | ((k_is); done) | fail "by") ?_; k_whole; intro x'ₖ d'ₖ h'ₖ F'ₖ N'ₖ l1ₖ l2ₖ; (try k_lt l1ₖ); (try k_lt2 l2ₖ); (try k_sweep))
      | (refine' call_clsM (by first | ((k_asm); done) | fail "by") (by first | ((k_asm); done) | fail "by") (by first | ((k_asm); done) | fail "by") (by first | ((k_is); done) | fail "by") (by first | ((k_is); done) | fail "by") (by first | ((k_is); done) | fail "by") ?_; k_whole; intro x'ₖ d'ₖ es'ₖ n'ₖ h'ₖ M'ₖ F'ₖ N'ₖ l1ₖ l2ₖ; have hneₖ := ne_all l1ₖ; (try k_lt l1ₖ); (try k_lt2 l2ₖ); (try k_sweep); k_enter)
      | (refine wpAny_call ?_; k_enter)))
  trivial
def OuterAt (w : World) (S : Addr) (rs : List Value) (O : Out) (led : Led) : Prop :=
  O.Has w ∧ ((O.T, instObj 201 O.dT) ∈ led ∧ (O.lx, lstO [] O.nx) ∈ led ∧ (O.lD, lstO O.vD O.nD) ∈ led ∧ (O.lC, lstO O.vC O.nC) ∈ led ∧ (O.dop, O.oop) ∈ led) ∧ O.vC = rs ∧ (∃ a n nv, O.vD = [.ref a] ∧ (a, tupO [nv, .ref S, .none] n) ∈ led) ∧ O.esT.length ≤ 100 ∧ ∃ tn, O.number = .int 32 tn
theorem segE_end {R : Prop} {g h' : Heap} {L S T dT lx lD lC dop a kg rw tl : Addr} {oV oF oW ok oop : Obj} {esT : List DictEntry} {nT nx nD nC na rn tn' : Nat} {rs ts : List Value} {tk tn : Tok} {name low high literals modulus small is_constrained designated is_tagged wide is_limited is_private is_abstract is_constant is_late nv : Value} {news FL : Led}
    (N : News g L h' FL) (l0 : @LT.lt Nat _ 515 L) (hkg : @LT.lt Nat _ (L + 3) kg) (hkr : @LT.lt Nat _ kg rw) (hrt : @LT.lt Nat _ rw tl) (hne : ∀ p ∈ news, p.1 ∉ [kg, rw, tl] ∧ @LT.lt Nat _ (L + 3) p.1) (hnd : ∀ p ∈ news, p.1 ≠ dT) (hsub : ∀ p ∈ news, p ∈ FL) (x1 : (tl, lstO ts tn') ∈ FL) (x2 : (rw, lstO rs rn) ∈ FL) (x3 : (L + 3, oV) ∈ FL) (x4 : (L + 2, oF) ∈ FL) (x5 : (L + 1, oW) ∈ FL) (x6 : ((515 : Addr), tabObj #[]) ∈ FL) (x7 : (kg, ok) ∈ FL)
    (m1 : (T, instObj 201 dT) ∈ FL) (m2 : (dT, dictOf esT nT) ∈ FL) (m3 : (lx, lstO [] nx) ∈ FL) (m4 : (lD, lstO [.ref a] nD) ∈ FL) (m5 : (lC, lstO rs nC) ∈ FL) (m6 : (dop, oop) ∈ FL) (m7 : (a, tupO [nv, .ref S, .none] na) ∈ FL)
    (g1 : getL "kind" esT = some (some (.str "record" tk))) (g2 : getL "name" esT = some (some (name))) (g3 : getL "number" esT = some (some (.int 32 tn))) (g4 : getL "parent" esT = some (some (.none))) (g5 : getL "low" esT = some (some (low))) (g6 : getL "high" esT = some (some (high))) (g7 : getL "literals" esT = some (some (literals))) (g8 : getL "modulus" esT = some (some (modulus))) (g9 : getL "small" esT = some (some (small))) (g10 : getL "index" esT = some (some (.ref lx))) (g11 : getL "component" esT = some (some (.none))) (g12 : getL "is_constrained" esT = some (some (is_constrained))) (g13 : getL "discriminants" esT = some (some (.ref lD))) (g14 : getL "components" esT = some (some (.ref lC))) (g15 : getL "variant" esT = some (some (.none))) (g16 : getL "designated" esT = some (some (designated))) (g17 : getL "is_tagged" esT = some (some (is_tagged))) (g18 : getL "wide" esT = some (some (wide))) (g19 : getL "is_limited" esT = some (some (is_limited))) (g20 : getL "is_private" esT = some (some (is_private))) (g21 : getL "is_abstract" esT = some (some (is_abstract))) (g22 : getL "is_constant" esT = some (some (is_constant))) (g23 : getL "is_late" esT = some (some (is_late))) (g24 : getL "operations" esT = some (some (.ref dop)))
    (k1 : handedIn name = true) (k2 : handedIn low = true) (k3 : handedIn high = true) (k4 : handedIn literals = true) (k5 : handedIn modulus = true) (k6 : handedIn small = true) (k7 : handedIn is_constrained = true) (k8 : handedIn designated = true) (k9 : handedIn is_tagged = true) (k10 : handedIn wide = true) (k11 : handedIn is_limited = true) (k12 : handedIn is_private = true) (k13 : handedIn is_abstract = true) (k14 : handedIn is_constant = true) (k15 : handedIn is_late = true) (hlo : (dop == sysModules) = false) (hoop : oop.IsDictOf (strKind PR w) []) (hlen : esT.length ≤ 100)
    (o1 : @LT.lt Nat _ tl T ∧ @Ne Nat T dT) (o2 : @LT.lt Nat _ tl dT) (o3 : @LT.lt Nat _ tl lx ∧ @Ne Nat lx dT) (o4 : @LT.lt Nat _ tl lD ∧ @Ne Nat lD dT) (o5 : @LT.lt Nat _ tl lC ∧ @Ne Nat lC dT) (o6 : @LT.lt Nat _ tl dop ∧ @Ne Nat dop dT) (o7 : @LT.lt Nat _ tl a ∧ @Ne Nat a dT)
    (hK : ∀ (O : Out) (news' : Led), O.T = T → OuterAt w S rs O news' → News g L h' ((O.dT, dictOf O.esT O.nT) :: RowLed L oV oF oW kg ok rw tl rs ts rn tn' news') → (∀ p ∈ news, p ∈ news') → (∀ p ∈ news', p.1 ∉ [kg, rw, tl, O.dT] ∧ @LT.lt Nat _ (L + 3) p.1) → @LT.lt Nat _ tl O.dT → R) : R := by
 refine @dropI _ ?_ ?_
 ·
  have hov : ∀ (x : Addr) (o : Obj), (x, o) ∈ FL → (@LT.lt Nat _ tl x ∧ @Ne Nat x dT) → (x, o) ∈ overs [kg, rw, tl, dT] L FL := fun x o hm hx => by
    refine mem_overs.mpr ⟨hm, ?_, ?_⟩
    · exact nin_cons (Nat.ne_of_gt (Nat.lt_trans hkr (Nat.lt_trans hrt hx.1))) (nin_cons (Nat.ne_of_gt (Nat.lt_trans hrt hx.1)) (nin_cons (Nat.ne_of_gt hx.1) (nin_cons hx.2 nin_nil)))
    · exact Nat.lt_trans hkg (Nat.lt_trans hkr (Nat.lt_trans hrt hx.1))
  refine hK ⟨T, dT, lx, lD, lC, dop, esT, nT, nx, nD, nC, oop, [.ref a], rs, tk, name, .int 32 tn, .none, low, high, literals, modulus, small, is_constrained, designated, is_tagged, wide, is_limited, is_private, is_abstract, is_constant, is_late⟩ (overs [kg, rw, tl, dT] L FL) rfl ⟨⟨g1, g2, g3, g4, g5, g6, g7, g8, g9, g10, g11, g12, g13, g14, g15, g16, g17, g18, g19, g20, g21, g22, g23, g24, k1, rfl, rfl, k2, k3, k4, k5, k6, k7, k8, k9, k10, k11, k12, k13, k14, k15, hlo, hoop⟩, ⟨hov _ _ m1 o1, hov _ _ m3 o3, hov _ _ m4 o4, hov _ _ m5 o5, hov _ _ m6 o6⟩, rfl, ⟨a, na, nv, rfl, hov _ _ m7 o7⟩, hlen, tn, rfl⟩ ?_ (fun p hp => ?_) (fun p hp => ⟨(mem_overs.mp hp).2.1, (mem_overs.mp hp).2.2⟩) o2
  · refine news_overs (X := (dT, dictOf esT nT) :: RowLed L oV oF oW kg ok rw tl rs ts rn tn' []) (xs := [kg, rw, tl, dT]) (L := L) N fun p hp => ?_
    rcases List.mem_cons.mp hp with rfl | hp
    · exact m2
    · simp only [RowLed, LawLed, List.mem_cons, List.not_mem_nil, or_false] at hp
      rcases hp with rfl | rfl | rfl | rfl | rfl | rfl | rfl <;> assumption
  · refine mem_overs.mpr ⟨hsub p hp, ?_, (hne p hp).2⟩
    have h1 := (hne p hp).1
    have h2 := hnd p hp
    exact nin_cons (nin_hd h1) (nin_cons (nin_hd (nin_tl h1)) (nin_cons (nin_hd (nin_tl (nin_tl h1))) (nin_cons h2 nin_nil)))
 · intro T x h; refine dropT ?zB ?zA; simpa only using (h : DropP ?zA x); assumption
theorem segE {fa : Addr} {ql nm : Str} {pr : Arguments} {body : List Stmt} {sc : Scope} {dV kV doc pm cdv ct oc : Value} {an od : Option Addr} {osl : Array (Option Value)} (hb : (hd.heap_1_39 w.params).lookup 518 = some ⟨oc, od, .func (fnOf nm ql pr body sc dV kV doc pm an cdv ct), osl⟩)
    {g : Heap} {L : Addr} {m : Str → Option Value} {s : Shared} {Q : Flow → Shared → Prop} {E : Value → Shared → Prop}
    (K0 : Below callerA g [] g) (F : Fr g L s.heap m) (X : (hd.heap_1_39 w.params).In g) (T : Top p loose mean mg mb g) (l0 : @LT.lt Nat _ 515 L)
    {kg cl rw tl S : Addr} {oV oF oW ok : Obj} {news : Led} {k : Int} {tk0 : Tok} {vs rs ts : List Value} {cs : List Int} {n rn tn : Nat} (hkg : @LT.lt Nat _ (L + 3) kg) (hkr : @LT.lt Nat _ kg rw) (hrt : @LT.lt Nat _ rw tl) (hne : ∀ p ∈ news, p.1 ∉ [kg, rw, tl] ∧ @LT.lt Nat _ (L + 3) p.1) (N : News g L s.heap (RowLed L oV oF oW kg ok rw tl rs ts rn tn news))
    (hok : ok.IsDictOf (strKind PR w) [(("cells" : Str), .ref cl), (("spot" : Str), .int k tk0)]) (h0 : 0 ≤ k) (hk100 : k ≤ 100) (hcl : (cl, lstO vs n) ∈ news) (hI : IntsAre vs cs) (hlen : cs.length ≤ 30) (lo : (kg == sysModules) = false) (hce : cl ≠ kg)
    (hVo : oV.data = .cell none) (hFo : oF.data = .cell (some (.ref S))) (hrs : rs.length ≤ 5) (hm1 : m "keg" = some (.ref kg)) (hm2 : m "rows" = some (.ref rw)) (hm3 : m "told" = some (.ref tl))
    (hQ : ∀ h' tk' (O : Out) V tV oV' ok' m' news', 0 ≤ V → V < 10 → oV'.data = .cell (some (.int V tV)) → Fr g L h' m' → m' "outer" = some (.ref O.T) → m' "rows" = some (.ref rw) → m' "told" = some (.ref tl) → OuterAt w S rs O news' →
      News g L h' ((O.dT, dictOf O.esT O.nT) :: RowLed L oV' oF oW kg ok' rw tl rs ts rn tn news') → (∀ p ∈ news, p ∈ news') → (∀ p ∈ news', p.1 ∉ [kg, rw, tl, O.dT] ∧ @LT.lt Nat _ (L + 3) p.1) → @LT.lt Nat _ tl O.dT → Q .next { s with heap := h', toks := tk' }) : wpAny (model PR w) (callerA.deeper (envOfC ql sc L fa cdv)) (execs ((body.drop 8).take 2) (envOfC ql sc L fa cdv)) Q E s := by
 refine @dropI _ ?_ ?_
 ·
  have hb' := hb
  rw [show (hd.heap_1_39 w.params).lookup 518 = _ from by k_dflt k_is] at hb'
  injection hb' with hb'
  injection hb' with e1 e2 e3 e4
  injection e3 with e3
  injection e3 with f1 f2 f3 f4 f5 f6 f7 f8 f9 f10 f11 f12 f13 f14
  injection f4 with f4
  subst f4 f5 f2 f12 f13
  clear hb f1 f3 f6 f7 f8 f9 f10 f11 f14 e1 e2 e4
  (try simp only [List.drop, List.take])
  dsimp only [RowLed, LawLed] at N
  replace F := fr_chain hm2 F
  replace F := fr_chain (x := "keg") (v := .ref kg) ((if_neg (by decide)).trans hm1) F
  have hneK : ∀ p ∈ news, p.1 ≠ kg := fun p hp q => (hne p hp).1 (by rw [q]; simp)
  have hneL : ∀ p ∈ news, p.1 ≠ L + 3 := fun p hp q => Nat.lt_irrefl _ (by have h9 := (hne p hp).2; rw [q] at h9; exact h9)
  k_steps
  unfold Stopped
  refine' pourL ?Ne1 ?Ue1 hok ?ce1 ?ee1 ?ze1 ?ye1 (by decide) (by decide) hI hlen ?Be1 ?Fe1 ?Xe1 ?Te1 ?ke1 lo ?de1 ?ue1 ?_; (case Ne1 => k_asm); (case Ue1 => k_updF); (case Be1 => k_asm); (case Fe1 => k_asm); (case Xe1 => k_asm); (case Te1 => k_asm); (case ke1 => exact rfl); (case ce1 => k_mem); (case ee1 => exact hce); (case ze1 => omega); (case ye1 => omega); (case de1 => ktr_room); (case ue1 => ktr_units)
  intro v1 tv1 ok1 h1 tk1 hR59 hv1 hv1' F1 N1
  obtain ⟨tz1, hok1⟩ := hR59
  (try dsimp only at N1)
  k_steps
  rename News g L _ (_ :: _ :: _) => N10
  rename Obj.data _ = Data.cell (some (Value.int v1 tv1)) => hv9
  refine' segE_end (w := w) (S := S) (L := L) (oF := oF) (oW := oW) (kg := kg) (ok := ok1) (rw := rw) (tl := tl) (rs := rs) (ts := ts) (rn := rn) (tn' := tn) (news := news) N10 l0 hkg hkr hrt hne ?nd ?sb ?x1 ?x2 ?x3 ?x4 ?x5 ?x6 ?x7 ?m1 ?m2 ?m3 ?m4 ?m5 ?m6 ?m7 ?g1 ?g2 ?g3 ?g4 ?g5 ?g6 ?g7 ?g8 ?g9 ?g10 ?g11 ?g12 ?g13 ?g14 ?g15 ?g16 ?g17 ?g18 ?g19 ?g20 ?g21 ?g22 ?g23 ?g24 ?k1 ?k2 ?k3 ?k4 ?k5 ?k6 ?k7 ?k8 ?k9 ?k10 ?k11 ?k12 ?k13 ?k14 ?k15 ?lo ?op ?ln ?o1 ?o2 ?o3 ?o4 ?o5 ?o6 ?o7 ?hK
  case x1 => k_mem
  case x2 => k_mem
  case x3 => k_mem
  case x4 => k_mem
  case x5 => k_mem
  case x6 => k_mem
  case x7 => k_mem
  case m1 => k_mem
  case m2 => k_mem
  case g1 => k_get
  case g2 => k_get
  case g3 => k_get
  case g4 => k_get
  case g5 => k_get
  case g6 => k_get
  case g7 => k_get
  case g8 => k_get
  case g9 => k_get
  case g10 => k_get
  case g11 => k_get
  case g12 => k_get
  case g13 => k_get
  case g14 => k_get
  case g15 => k_get
  case g16 => k_get
  case g17 => k_get
  case g18 => k_get
  case g19 => k_get
  case g20 => k_get
  case g21 => k_get
  case g22 => k_get
  case g23 => k_get
  case g24 => k_get
  case m3 => k_mem
  case m4 => k_mem
  case m5 => k_mem
  case m6 => k_mem
  case m7 => k_mem
  case k1 => first | rfl | decide | (simp only [handedIn]; done)
  case k2 => first | rfl | decide | (simp only [handedIn]; done)
  case k3 => first | rfl | decide | (simp only [handedIn]; done)
  case k4 => first | rfl | decide | (simp only [handedIn]; done)
  case k5 => first | rfl | decide | (simp only [handedIn]; done)
  case k6 => first | rfl | decide | (simp only [handedIn]; done)
  case k7 => first | rfl | decide | (simp only [handedIn]; done)
  case k8 => first | rfl | decide | (simp only [handedIn]; done)
  case k9 => first | rfl | decide | (simp only [handedIn]; done)
  case k10 => first | rfl | decide | (simp only [handedIn]; done)
  case k11 => first | rfl | decide | (simp only [handedIn]; done)
  case k12 => first | rfl | decide | (simp only [handedIn]; done)
  case k13 => first | rfl | decide | (simp only [handedIn]; done)
  case k14 => first | rfl | decide | (simp only [handedIn]; done)
  case k15 => first | rfl | decide | (simp only [handedIn]; done)
  case lo => first | assumption
  case op => first | assumption
  case ln => first | exact IsMap.le (by assumption) (by rfl)
  case sb => (intro p9 hp9; repeat' (first | exact hp9 | refine List.mem_cons_of_mem _ ?_ | refine List.mem_append_right _ ?_))
  case nd => exact fun p hp => Nat.ne_of_lt (tb_ltOf (by tbn_find) p hp)
  case o1 => first | omega
  case o2 => first | omega
  case o3 => first | omega
  case o4 => first | omega
  case o5 => first | omega
  case o6 => first | omega
  case o7 => first | omega
  case hK =>
    intro O news' hOT hO hN hs hn hl
    exact hQ _ _ O v1 tv1 _ _ _ news' hv1 hv1' hv9 (by k_asm) (by rw [hOT]; rfl) (by first | rfl | exact hm2) (by first | rfl | exact hm3) hO hN hs hn hl
 · intro T x h; refine dropT ?zB ?zA; simpa only using (h : DropP ?zA x); assumption
end
section
example : True := by
  w_top off
  trivial
theorem sB7.hB7 : True := trivial
open sB7
variable {w : World} {p : Program} {loose : List Str} {mean : ExcName → Option Value} {mg mb : Str → Option Value}
example : True := by
  k_with "callWith ref" =>
    (guard_expr hB7 = hB7)
    (k_here; first
      | ((with_reducible refine' callWith_K (by first | (k_dflt k_asm; done) | fail "by") (by first | (k_dflt k_is; done) | fail "by") ?_ (by first | (k_dflt rfl; done) | fail "by") (by first | (k_dflt rfl; done) | fail "by")); k_whole)
      | ((with_reducible refine' callWith_K0 (by first | (k_dflt k_in; done) | fail "by") (by first | (k_dflt k_is; done) | fail "by") ?_); k_whole)
      | (k_dflt (first
      | refine' callWith_K (by first | (k_asm; done) | fail "by") (by first | (k_is; done) | fail "by") ?_; k_whole
      | refine' callWith_K0 (by first | (k_in; done) | fail "by") (by first | (k_is; done) | fail "by") ?_; k_whole)))
  trivial
example : True := by
  k_with "setAttr ref" =>
    (guard_expr hB7 = hB7)
    (k_here; k_dflt (refine' set_map (by first | (k_asm; done) | fail "by") (by first | (k_asm; done) | fail "by") (by first | (k_asm; done) | fail "by") (by first | (k_mem; done) | fail "by") (by first | (k_mem; done) | fail "by") (by first | (with_reducible assumption; done) | fail "by") (by first | (kernel_rfl; done) | fail "by") (by first | (k_updF; done) | fail "by") (by first | (exact rfl; done) | fail "by") ?_; k_whole; intro esₖ nₖ h'ₖ tk'ₖ M'ₖ F'ₖ N'ₖ; (try dsimp only at N'ₖ); (try k_sweep)))
  trivial
example : True := by
  k_with "call ref" =>
    (guard_expr hB7 = hB7)
    (k_here; k_dflt (first
      | (refine' call_cls0 (by first | ((k_asm); done) | fail "by") (by first | ((k_asm); done) | fail "by") (by first | ((k_asm); done) | fail "by") (by first | ((k_is); done) | fail "by") (by first | ((k_is); done) | fail "by") ?_; k_whole; intro x'ₖ d'ₖ h'ₖ F'ₖ N'ₖ l1ₖ l2ₖ; (try k_lt l1ₖ); (try k_lt2 l2ₖ); (try k_sweep))
      | (refine' call_clsM (by first | ((k_asm); done) | fail "by") (by first | ((k_asm); done) | fail "by") (by first | ((k_asm); done) | fail "by") (by first | ((k_is); done) | fail "by") (by first | ((k_is); done) | fail "by") (by first | ((k_is); done) | fail "by") ?_; k_whole; intro x'ₖ d'ₖ es'ₖ n'ₖ h'ₖ M'ₖ F'ₖ N'ₖ l1ₖ l2ₖ; have hneₖ := ne_all l1ₖ; (try k_lt l1ₖ); (try k_lt2 l2ₖ); (try k_sweep); k_enter)
      | (refine wpAny_call ?_; k_enter)))
  trivial
example : True := by
  k_with "newList" =>
    (guard_expr hB7 = hB7)
    (k_here; (with_reducible show wpAny _ _ (newList []) _ _ _); k_dflt (refine' newList_drop (by first | (k_asm; done) | fail "by") (by first | (k_asm; done) | fail "by") ?_; k_whole); intro lₖ h'ₖ F'ₖ N'ₖ; (try k_sweep))
  k_with "eval Dict nil nil" =>
    (guard_expr hB7 = hB7)
    (k_here; k_dflt (refine' newDict_drop (by first | (k_asm; done) | fail "by") (by first | (k_asm; done) | fail "by") (by first | (k_asm; done) | fail "by") ?_; k_whole); intro dₖ h'ₖ F'ₖ N'ₖ; (try k_sweep))
  trivial
example : True := by
  k_with "execs cons" =>
    (guard_expr hB7 = hB7)
    (k_here; (with_reducible show wpAny _ _ (execs (PySem.Stmt.Assign [PySem.Expr.Attribute (PySem.Expr.Name _ _) _ _] _ _ :: PySem.Stmt.Assign [PySem.Expr.Attribute (PySem.Expr.Name _ _) _ _] _ _ :: _) _) _ _ _); k_dflt (refine' rows_go (K := Mine.hd.heap_1_39 w.params) (by first | ((k_asm); done) | fail "by") (by first | ((k_asm); done) | fail "by") (by first | ((k_asm); done) | fail "by") (by first | ((k_asm); done) | fail "by") (by first | ((((repeat' (first | with_reducible apply RowsS.cons RowS.none | with_reducible apply RowsS.cons RowS.bool | with_reducible apply RowsS.cons RowS.int | with_reducible apply RowsS.cons RowS.str | with_reducible apply RowsS.cons RowS.list | with_reducible apply RowsS.cons RowS.dict | apply RowsS.cons (RowS.name (by eq_refl) (by eq_refl) (by decide)) | apply RowsS.cons RowS.none | apply RowsS.cons RowS.bool | apply RowsS.cons RowS.int | apply RowsS.cons RowS.str | apply RowsS.cons RowS.list | apply RowsS.cons RowS.dict)); exact RowsS.nil)); done) | fail "by") (by first | ((exact rfl); done) | fail "by") (by first | ((k_mem); done) | fail "by") (by first | ((k_mem); done) | fail "by") (by first | ((with_reducible assumption); done) | fail "by") (by first | ((kernel_rfl); done) | fail "by") (by first | ((k_updF); done) | fail "by") (by first | ((exact rfl); done) | fail "by") (by first | ((exact rfl); done) | fail "by") (by first | ((exact rfl); done) | fail "by") (by first | ((decide); done) | fail "by") ?_); intro D'ₖ es'ₖ n'ₖ h'ₖ tk'ₖ q1 q2 M'ₖ F'ₖ N'ₖ; (try dsimp only at N'ₖ); (try k_sweep))
  trivial
theorem one_end (K : Addr) {R' : Prop} {g h : Heap} {L x d : Addr} {es : List DictEntry} {n : Nat} {led FL : Led} (N : News g L h FL) (m1 : (x, instObj K d) ∈ FL) (m2 : (d, dictOf es n) ∈ FL) (hsub : ∀ p ∈ led, p ∈ FL) (hcov : Cov led FL) (o1 : ∀ q ∈ led, @LT.lt Nat _ q.1 x) (o2 : ∀ q ∈ led, @LT.lt Nat _ q.1 d) (hxd : @Ne Nat x d)
    (hK : ∀ led', News g L h ((d, dictOf es n) :: led') → (∀ p ∈ led, p ∈ led') → (∀ p ∈ led', p.1 ≠ d) → (x, instObj K d) ∈ led' → Cov led led' → R') : R' := by
 refine @dropI _ ?_ ?_
 ·
  have hf : ∀ p, p ∈ FL.filter (fun p => !(p.1 == d)) ↔ p ∈ FL ∧ p.1 ≠ d := fun p => by rw [List.mem_filter]; simp
  refine hK (FL.filter fun p => !(p.1 == d)) (fun p hp => ?_) (fun p hp => (hf p).mpr ⟨hsub p hp, Nat.ne_of_lt (o2 p hp)⟩) (fun p hp => ((hf p).mp hp).2) ((hf _).mpr ⟨m1, hxd⟩) fun p hp => hcov p ((hf p).mp hp).1
  rcases List.mem_cons.mp hp with rfl | hp
  · exact N _ m2
  · exact N p ((hf p).mp hp).1
 · intro T x h; refine dropT ?zB ?zA; simpa only using (h : DropP ?zA x); assumption
theorem segR1 {fa : Addr} {ql nm : Str} {pr : Arguments} {body : List Stmt} {sc : Scope} {dV kV doc pm cdv ct oc : Value} {an od : Option Addr} {osl : Array (Option Value)} (hb : (hd.heap_1_39 w.params).lookup 518 = some ⟨oc, od, .func (fnOf nm ql pr body sc dV kV doc pm an cdv ct), osl⟩)
    {g : Heap} {L : Addr} {m : Str → Option Value} {s : Shared} {Q : Flow → Shared → Prop} {E : Value → Shared → Prop}
    (K0 : Below callerA g [] g) (F : Fr g L s.heap m) (X : (hd.heap_1_39 w.params).In g) (T : Top p loose mean mg mb g) (l0 : @LT.lt Nat _ 515 L)
    {led : Led} (N : News g L s.heap led)
    (hQ : ∀ h' tk' R dR esR nR m' led', Fr g L h' m' → m' "run" = some (.ref R) → (∀ y : Str, y ≠ "run" → m' y = m y) → News g L h' ((dR, dictOf esR nR) :: led') → (∀ p ∈ led, p ∈ led') → (∀ p ∈ led', p.1 ≠ dR) → (R, instObj 159 dR) ∈ led' → (∀ q ∈ led, @LT.lt Nat _ q.1 R ∧ @LT.lt Nat _ q.1 dR) → esR.length ≤ 100 → (∃ v, getL "task" esR = some (some v)) → (∃ v, getL "nodes" esR = some (some v)) → Cov led led' → Q .next { s with heap := h', toks := tk' }) : wpAny (model PR w) (callerA.deeper (envOfC ql sc L fa cdv)) (execs ((body.drop 10).take 1) (envOfC ql sc L fa cdv)) Q E s := by
 refine @dropI _ ?_ ?_
 ·
  have hb' := hb
  rw [show (hd.heap_1_39 w.params).lookup 518 = _ from by k_dflt k_is] at hb'
  injection hb' with hb'
  injection hb' with e1 e2 e3 e4
  injection e3 with e3
  injection e3 with f1 f2 f3 f4 f5 f6 f7 f8 f9 f10 f11 f12 f13 f14
  injection f4 with f4
  subst f4 f5 f2 f12 f13
  clear hb f1 f3 f6 f7 f8 f9 f10 f11 f14 e1 e2 e4
  (try simp only [List.drop, List.take])
  k_steps
  rename ∀ y ∈ ("world" : Str) :: _, _ => qa2
  rename ∀ y ∈ ("task" : Str) :: _, _ => qb2
  rename ∀ y v, upm "cells" _ _ y = some v → _ => qb1
  rename News g L _ (_ :: _ :: _) => N10
  refine' one_end 159 (led := led) N10 ?m1 ?m2 ?sb ?cv ?o1 ?o2 ?ne ?hK
  case m1 => k_mem
  case m2 => k_mem
  case sb => (intro p9 hp9; repeat' (first | exact hp9 | refine List.mem_cons_of_mem _ ?_ | refine List.mem_append_right _ ?_))
  case cv => (repeat' (first | exact Cov.self | refine Cov.cons (by intro q9 hq9; first | k_extra "q" | exact tb_ltOf (by tbn_find) q9 hq9 | k_extra "o") ?_))
  case o1 => intro q9 hq9; first | k_extra "q" | exact tb_ltOf (by tbn_find) q9 hq9 | k_extra "o"
  case o2 => intro q9 hq9; first | k_extra "q" | exact tb_ltOf (by tbn_find) q9 hq9 | k_extra "o"
  case ne => omega
  case hK =>
    intro led' hN hs hn hm hc
    exact hQ _ _ _ _ _ _ _ led' (by k_asm) (if_pos rfl) (fun y hy => if_neg hy) hN hs hn hm (fun q9 hq9 => ⟨by first | k_extra "q" | exact tb_ltOf (by tbn_find) q9 hq9 | k_extra "o", by first | k_extra "q" | exact tb_ltOf (by tbn_find) q9 hq9 | k_extra "o"⟩) (IsMap.le (by assumption) (by rfl)) (isMap_ex (by assumption) (qb2 _ (by k_mem))) (isMap_ex (by assumption) (ex_miss qb1 (by decide) (qa2 _ (by k_mem)))) hc
 · intro T x h; refine dropT ?zB ?zA; simpa only using (h : DropP ?zA x); assumption
end
section
example : True := by
  w_top off
  trivial
theorem sB8.hB8 : True := trivial
open sB8
variable {w : World} {p : Program} {loose : List Str} {mean : ExcName → Option Value} {mg mb : Str → Option Value}
example : True := by
  k_with "callWith ref" =>
    (guard_expr hB8 = hB8)
    (k_here; first
      | ((with_reducible refine' callWith_K (by first | (k_dflt k_asm; done) | fail "by") (by first | (k_dflt k_is; done) | fail "by") ?_ (by first | (k_dflt rfl; done) | fail "by") (by first | (k_dflt rfl; done) | fail "by")); k_whole)
      | ((with_reducible refine' callWith_K0 (by first | (k_dflt k_in; done) | fail "by") (by first | (k_dflt k_is; done) | fail "by") ?_); k_whole)
      | (k_dflt (first
      | refine' callWith_K (by first | (k_asm; done) | fail "by") (by first | (k_is; done) | fail "by") ?_; k_whole
      | refine' callWith_K0 (by first | (k_in; done) | fail "by") (by first | (k_is; done) | fail "by") ?_; k_whole)))
  trivial
example : True := by
  k_with "setAttr ref" =>
    (guard_expr hB8 = hB8)
    (k_here; k_dflt (refine' set_map (by first | (k_asm; done) | fail "by") (by first | (k_asm; done) | fail "by") (by first | (k_asm; done) | fail "by") (by first | (k_mem; done) | fail "by") (by first | (k_mem; done) | fail "by") (by first | (with_reducible assumption; done) | fail "by") (by first | (kernel_rfl; done) | fail "by") (by first | (k_updF; done) | fail "by") (by first | (exact rfl; done) | fail "by") ?_; k_whole; intro esₖ nₖ h'ₖ tk'ₖ M'ₖ F'ₖ N'ₖ; (try dsimp only at N'ₖ); (try k_sweep)))
  trivial
example : True := by
  k_with "call ref" =>
    (guard_expr hB8 = hB8)
    (k_here; k_dflt (first
      | (refine' call_cls0 (by first | ((k_asm); done) | fail "by") (by first | ((k_asm); done) | fail "by") (by first | ((k_asm); done) | fail "by") (by first | ((k_is); done) | fail "by") (by first | ((k_is); done) | fail "by") ?_; k_whole; intro x'ₖ d'ₖ h'ₖ F'ₖ N'ₖ l1ₖ l2ₖ; (try k_lt l1ₖ); (try k_lt2 l2ₖ); (try k_sweep))
      | (refine' call_clsM (by first | ((k_asm); done) | fail "by") (by first | ((k_asm); done) | fail "by") (by first | ((k_asm); done) | fail "by") (by first | ((k_is); done) | fail "by") (by first | ((k_is); done) | fail "by") (by first | ((k_is); done) | fail "by") ?_; k_whole; intro x'ₖ d'ₖ es'ₖ n'ₖ h'ₖ M'ₖ F'ₖ N'ₖ l1ₖ l2ₖ; have hneₖ := ne_all l1ₖ; (try k_lt l1ₖ); (try k_lt2 l2ₖ); (try k_sweep); k_enter)
      | (refine wpAny_call ?_; k_enter)))
  trivial
example : True := by
  k_with "newList" =>
    (guard_expr hB8 = hB8)
    (k_here; (with_reducible show wpAny _ _ (newList []) _ _ _); k_dflt (refine' newList_drop (by first | (k_asm; done) | fail "by") (by first | (k_asm; done) | fail "by") ?_; k_whole); intro lₖ h'ₖ F'ₖ N'ₖ; (try k_sweep))
  k_with "eval Dict nil nil" =>
    (guard_expr hB8 = hB8)
    (k_here; k_dflt (refine' newDict_drop (by first | (k_asm; done) | fail "by") (by first | (k_asm; done) | fail "by") (by first | (k_asm; done) | fail "by") ?_; k_whole); intro dₖ h'ₖ F'ₖ N'ₖ; (try k_sweep))
  trivial
example : True := by
  k_with "execs cons" =>
    (guard_expr hB8 = hB8)
    (k_here; (with_reducible show wpAny _ _ (execs (PySem.Stmt.Assign [PySem.Expr.Attribute (PySem.Expr.Name _ _) _ _] _ _ :: PySem.Stmt.Assign [PySem.Expr.Attribute (PySem.Expr.Name _ _) _ _] _ _ :: _) _) _ _ _); k_dflt (refine' rows_go (K := Mine.hd.heap_1_39 w.params) (by first | ((k_asm); done) | fail "by") (by first | ((k_asm); done) | fail "by") (by first | ((k_asm); done) | fail "by") (by first | ((k_asm); done) | fail "by") (by first | ((((repeat' (first | with_reducible apply RowsS.cons RowS.none | with_reducible apply RowsS.cons RowS.bool | with_reducible apply RowsS.cons RowS.int | with_reducible apply RowsS.cons RowS.str | with_reducible apply RowsS.cons RowS.list | with_reducible apply RowsS.cons RowS.dict | apply RowsS.cons (RowS.name (by eq_refl) (by eq_refl) (by decide)) | apply RowsS.cons RowS.none | apply RowsS.cons RowS.bool | apply RowsS.cons RowS.int | apply RowsS.cons RowS.str | apply RowsS.cons RowS.list | apply RowsS.cons RowS.dict)); exact RowsS.nil)); done) | fail "by") (by first | ((exact rfl); done) | fail "by") (by first | ((k_mem); done) | fail "by") (by first | ((k_mem); done) | fail "by") (by first | ((with_reducible assumption); done) | fail "by") (by first | ((kernel_rfl); done) | fail "by") (by first | ((k_updF); done) | fail "by") (by first | ((exact rfl); done) | fail "by") (by first | ((exact rfl); done) | fail "by") (by first | ((exact rfl); done) | fail "by") (by first | ((decide); done) | fail "by") ?_); intro D'ₖ es'ₖ n'ₖ h'ₖ tk'ₖ q1 q2 M'ₖ F'ₖ N'ₖ; (try dsimp only at N'ₖ); (try k_sweep))
  trivial
def setL (x : Str) (v : Value) (es : List DictEntry) : List DictEntry := putL x 0 .none v es
theorem any_some {x : Str} {es : List DictEntry} (h : ∃ v, getL x es = some (some v)) : es.any (·.key.isStr x) = true := by obtain ⟨_, h⟩ := h; exact any_of_getL h
theorem mem_but {d : Addr} {FL : Led} {p : Addr × Obj} : p ∈ FL.filter (fun p => !(p.1 == d)) ↔ p ∈ FL ∧ p.1 ≠ d := by rw [List.mem_filter]; simp
theorem split_led {g h : Heap} {L d : Addr} {o : Obj} {FL : Led} (N : News g L h FL) (hm : (d, o) ∈ FL) : News g L h ((d, o) :: FL.filter (fun p => !(p.1 == d))) := fun p hp => by
  rcases List.mem_cons.mp hp with rfl | hp
  · exact N _ hm
  · exact N p (mem_but.mp hp).1
theorem two_end (K : Addr) {R' : Prop} {g h : Heap} {L x d dR : Addr} {oR oR' : Obj} {es : List DictEntry} {n : Nat} {led FL : Led} (N : News g L h ((dR, oR') :: FL.filter (fun p => !(p.1 == dR)))) (m1 : (x, instObj K d) ∈ FL) (m2 : (d, dictOf es n) ∈ FL) (hsub : ∀ p ∈ led, p ∈ FL) (hn : ∀ p ∈ led, p.1 ≠ dR) (hcov : Cov ((dR, oR) :: led) FL) (o1 : ∀ q ∈ (dR, oR) :: led, @LT.lt Nat _ q.1 x) (o2 : ∀ q ∈ (dR, oR) :: led, @LT.lt Nat _ q.1 d) (hxd : @Ne Nat x d)
    (hK : ∀ led', News g L h ((d, dictOf es n) :: (dR, oR') :: led') → (∀ p ∈ led, p ∈ led') → (∀ p ∈ led', p.1 ≠ dR ∧ p.1 ≠ d) → (x, instObj K d) ∈ led' → (∀ p ∈ led', p ∈ led ∨ ∀ q ∈ led, @LT.lt Nat _ q.1 p.1) → R') : R' := by
 refine @dropI _ ?_ ?_
 ·
  have hf : ∀ p, p ∈ (FL.filter (fun p => !(p.1 == dR))).filter (fun p => !(p.1 == d)) ↔ (p ∈ FL ∧ p.1 ≠ dR) ∧ p.1 ≠ d := fun p => by rw [mem_but, mem_but]
  have hxR : x ≠ dR := Nat.ne_of_gt (o1 _ List.mem_cons_self)
  have hdR : d ≠ dR := Nat.ne_of_gt (o2 _ List.mem_cons_self)
  refine hK ((FL.filter (fun p => !(p.1 == dR))).filter (fun p => !(p.1 == d))) (fun p hp => ?_) (fun p hp => (hf p).mpr ⟨⟨hsub p hp, hn p hp⟩, Nat.ne_of_lt (o2 p (List.mem_cons_of_mem _ hp))⟩) (fun p hp => ⟨((hf p).mp hp).1.2, ((hf p).mp hp).2⟩) ((hf _).mpr ⟨⟨m1, hxR⟩, hxd⟩) fun p hp => ?_
  · rcases List.mem_cons.mp hp with rfl | hp
    · exact N _ (List.mem_cons_of_mem _ (mem_but.mpr ⟨m2, hdR⟩))
    · rcases List.mem_cons.mp hp with rfl | hp
      · exact N _ List.mem_cons_self
      · exact N p (List.mem_cons_of_mem _ (mem_but.mpr ((hf p).mp hp).1))
  · rcases hcov p ((hf p).mp hp).1.1 with h | h
    · rcases List.mem_cons.mp h with rfl | h
      · exact absurd rfl ((hf _).mp hp).1.2
      · exact .inl h
    · exact .inr fun q hq => h q (List.mem_cons_of_mem _ hq)
 · intro T x h; refine dropT ?zB ?zA; simpa only using (h : DropP ?zA x); assumption
example : True := by
  k_with "setAttr ref" =>
    (guard_expr hB8 = hB8)
    (k_here; (with_reducible show wpAny _ _ (setAttr (Value.ref _) (PySem.Str.ofString "task") _) _ _ _); refine stop_here ?_)
  trivial
theorem segR2 {fa : Addr} {ql nm : Str} {pr : Arguments} {body : List Stmt} {sc : Scope} {dV kV doc pm cdv ct oc : Value} {an od : Option Addr} {osl : Array (Option Value)} (hb : (hd.heap_1_39 w.params).lookup 518 = some ⟨oc, od, .func (fnOf nm ql pr body sc dV kV doc pm an cdv ct), osl⟩)
    {g : Heap} {L : Addr} {m : Str → Option Value} {s : Shared} {Q : Flow → Shared → Prop} {E : Value → Shared → Prop}
    (K0 : Below callerA g [] g) (F : Fr g L s.heap m) (X : (hd.heap_1_39 w.params).In g) (T : Top p loose mean mg mb g) (l0 : @LT.lt Nat _ 515 L)
    {led : Led} {R dR : Addr} {esR : List DictEntry} {nR : Nat} (N : News g L s.heap ((dR, dictOf esR nR) :: led)) (hn : ∀ p ∈ led, p.1 ≠ dR) (hR : (R, instObj 159 dR) ∈ led) (hlen : esR.length ≤ 100) (htask : ∃ v, getL "task" esR = some (some v)) (hm : m "run" = some (.ref R))
    (hQ : ∀ h' tk' K dK esK nK led', Fr g L h' m → News g L h' ((dK, dictOf esK nK) :: (dR, dictOf (setL "task" (.ref K) esR) nR) :: led') → (∀ p ∈ led, p ∈ led') → (∀ p ∈ led', p.1 ≠ dR ∧ p.1 ≠ dK) → (K, instObj 501 dK) ∈ led' → @Ne Nat dR dK → (∀ q ∈ led, @LT.lt Nat _ q.1 K ∧ @LT.lt Nat _ q.1 dK) → esK.length ≤ 100 → (∃ v, getL "frame" esK = some (some v)) → (∀ p ∈ led', p ∈ led ∨ ∀ q ∈ led, @LT.lt Nat _ q.1 p.1) → Q .next { s with heap := h', toks := tk' }) : wpAny (model PR w) (callerA.deeper (envOfC ql sc L fa cdv)) (execs ((body.drop 11).take 1) (envOfC ql sc L fa cdv)) Q E s := by
 refine @dropI _ ?_ ?_
 ·
  have hb' := hb
  rw [show (hd.heap_1_39 w.params).lookup 518 = _ from by k_dflt k_is] at hb'
  injection hb' with hb'
  injection hb' with e1 e2 e3 e4
  injection e3 with e3
  injection e3 with f1 f2 f3 f4 f5 f6 f7 f8 f9 f10 f11 f12 f13 f14
  injection f4 with f4
  subst f4 f5 f2 f12 f13
  clear hb f1 f3 f6 f7 f8 f9 f10 f11 f14 e1 e2 e4
  (try simp only [List.drop, List.take])
  replace F := fr_chain hm F
  k_steps
  unfold Stopped
  rename ∀ y ∈ ("queues" : Str) :: _, _ => qb2
  have hany := any_some htask
  rename News g L _ (_ :: _ :: _) => N10
  refine' set_dict (es' := setL "task" _ esR) (n' := nR) ?q1 ?q2 ?q3 ?q4 ?q5 ?q6 ?q7 ?q8 ?q9 ?q10 ?q11 ?q12 ?q13 ?_; (case q1 => k_asm); (case q2 => k_asm); (case q4 => k_inst); (case q3 => exact split_led (d := dR) (o := dictOf esR nR) N10 (by k_mem)); (case q12 => exact Upd.head fun p hp => (mem_but.mp hp).2); (case q5 => exact rfl); (case q6 => k_is); (case q7 => k_is); (case q8 => k_is); (case q9 => k_is); (case q10 => obtain ⟨v9, h9⟩ := htask; rw [h9]; rfl); (case q11 => unfold setL putN; rw [putL_has hany, if_pos hany]); (case q13 => show (setL "task" _ esR).length ≤ 1000; unfold setL; rw [put_length hany]; omega)
  intro h7 F7 N7
  k_steps
  refine' two_end 501 (led := led) (oR := dictOf esR nR) N7 ?m1 ?m2 ?sb hn ?cv ?o1 ?o2 ?ne ?hK
  case m1 => k_mem
  case m2 => k_mem
  case sb => (intro p9 hp9; repeat' (first | exact hp9 | refine List.mem_cons_of_mem _ ?_ | refine List.mem_append_right _ ?_))
  case cv => (repeat' (first | exact Cov.self | refine Cov.cons (by (intro q9 hq9; (rcases List.mem_cons.mp hq9 with hq9 | hq9); all_goals (first | (subst hq9; show @LT.lt Nat _ _ _; (try dsimp only); omega) | (first | k_extra "q" | exact tb_ltOf (by tbn_find) q9 hq9 | k_extra "o")))) ?_))
  case o1 => (intro q9 hq9; (rcases List.mem_cons.mp hq9 with hq9 | hq9); all_goals (first | (subst hq9; show @LT.lt Nat _ _ _; (try dsimp only); omega) | (first | k_extra "q" | exact tb_ltOf (by tbn_find) q9 hq9 | k_extra "o")))
  case o2 => (intro q9 hq9; (rcases List.mem_cons.mp hq9 with hq9 | hq9); all_goals (first | (subst hq9; show @LT.lt Nat _ _ _; (try dsimp only); omega) | (first | k_extra "q" | exact tb_ltOf (by tbn_find) q9 hq9 | k_extra "o")))
  case ne => omega
  case hK =>
    intro led' hN hs hn hm' hc
    rw [chain_eq hm] at F7
    refine hQ _ _ _ _ _ _ led' F7 hN hs hn hm' ?_ (fun q9 hq9 => ⟨?_, ?_⟩) (IsMap.le (by assumption) (by rfl)) (isMap_ex (by assumption) (qb2 _ (by k_mem))) hc
    · omega
    · first | k_extra "q" | exact tb_ltOf (by tbn_find) q9 hq9 | k_extra "o"
    · first | k_extra "q" | exact tb_ltOf (by tbn_find) q9 hq9 | k_extra "o"
 · intro T x h; refine dropT ?zB ?zA; simpa only using (h : DropP ?zA x); assumption
end
section
example : True := by
  w_top off
  trivial
theorem sB9.hB9 : True := trivial
open sB9
variable {w : World} {p : Program} {loose : List Str} {mean : ExcName → Option Value} {mg mb : Str → Option Value}
example : True := by
  k_with "callWith ref" =>
    (guard_expr hB9 = hB9)
    (k_here; first
      | ((with_reducible refine' callWith_K (by first | (k_dflt k_asm; done) | fail "by") (by first | (k_dflt k_is; done) | fail "by") ?_ (by first | (k_dflt rfl; done) | fail "by") (by first | (k_dflt rfl; done) | fail "by")); k_whole)
      | ((with_reducible refine' callWith_K0 (by first | (k_dflt k_in; done) | fail "by") (by first | (k_dflt k_is; done) | fail "by") ?_); k_whole)
      | (k_dflt (first
      | refine' callWith_K (by first | (k_asm; done) | fail "by") (by first | (k_is; done) | fail "by") ?_; k_whole
      | refine' callWith_K0 (by first | (k_in; done) | fail "by") (by first | (k_is; done) | fail "by") ?_; k_whole)))
  trivial
example : True := by
  k_with "setAttr ref" =>
    (guard_expr hB9 = hB9)
    (k_here; k_dflt (refine' set_map (by first | (k_asm; done) | fail "by") (by first | (k_asm; done) | fail "by") (by first | (k_asm; done) | fail "by") (by first | (k_mem; done) | fail "by") (by first | (k_mem; done) | fail "by") (by first | (with_reducible assumption; done) | fail "by") (by first | (kernel_rfl; done) | fail "by") (by first | (k_updF; done) | fail "by") (by first | (exact rfl; done) | fail "by") ?_; k_whole; intro esₖ nₖ h'ₖ tk'ₖ M'ₖ F'ₖ N'ₖ; (try dsimp only at N'ₖ); (try k_sweep)))
  trivial
example : True := by
  k_with "call ref" =>
    (guard_expr hB9 = hB9)
    (k_here; k_dflt (first
      | (refine' call_cls0 (by first | ((k_asm); done) | fail "by") (by first | ((k_asm); done) | fail "by") (by first | ((k_asm); done) | fail "by") (by first | ((k_is); done) | fail "by") (by first | ((k_is); done) | fail "by") ?_; k_whole; intro x'ₖ d'ₖ h'ₖ F'ₖ N'ₖ l1ₖ l2ₖ; (try k_lt l1ₖ); (try k_lt2 l2ₖ); (try k_sweep))
      | (refine' call_clsM (by first | ((k_asm); done) | fail "by") (by first | ((k_asm); done) | fail "by") (by first | ((k_asm); done) | fail "by") (by first | ((k_is); done) | fail "by") (by first | ((k_is); done) | fail "by") (by first | ((k_is); done) | fail "by") ?_; k_whole; intro x'ₖ d'ₖ es'ₖ n'ₖ h'ₖ M'ₖ F'ₖ N'ₖ l1ₖ l2ₖ; have hneₖ := ne_all l1ₖ; (try k_lt l1ₖ); (try k_lt2 l2ₖ); (try k_sweep); k_enter)
      | (refine wpAny_call ?_; k_enter)))
  trivial
example : True := by
  k_with "setAttr ref" =>
    (guard_expr hB9 = hB9)
    (k_here; (with_reducible show wpAny _ _ (setAttr (Value.ref _) (PySem.Str.ofString "frame") _) _ _ _); refine stop_here ?_)
  trivial
theorem three_end {R' : Prop} {g h : Heap} {L x d dK dTy : Addr} {oK oK' oTy : Obj} {es : List DictEntry} {n : Nat} {led FL : Led} (N : News g L h ((dK, oK') :: FL.filter (fun p => !(p.1 == dK)))) (m1 : (x, instObj 138 d) ∈ FL) (m2 : (d, dictOf es n) ∈ FL) (m3 : (dTy, oTy) ∈ FL) (hsub : ∀ p ∈ led, p ∈ FL) (hn : ∀ p ∈ led, p.1 ≠ dK) (hcov : Cov ((dK, oK) :: led) FL) (o1 : ∀ q ∈ (dK, oK) :: led, @LT.lt Nat _ q.1 x) (o2 : ∀ q ∈ (dK, oK) :: led, @LT.lt Nat _ q.1 d) (o3 : ∀ q ∈ (dK, oK) :: led, @LT.lt Nat _ q.1 dTy) (hx : @Ne Nat x dTy) (hd : @Ne Nat d dTy)
    (hK : ∀ led', News g L h ((dTy, oTy) :: (dK, oK') :: led') → (∀ p ∈ led, p ∈ led') → (∀ p ∈ led', p.1 ≠ dK ∧ p.1 ≠ dTy) → Inst led' x 138 d es n → (∀ p ∈ led', p ∈ led ∨ ∀ q ∈ led, @LT.lt Nat _ q.1 p.1) → R') : R' := by
 refine @dropI _ ?_ ?_
 ·
  have hf : ∀ p, p ∈ (FL.filter (fun p => !(p.1 == dK))).filter (fun p => !(p.1 == dTy)) ↔ (p ∈ FL ∧ p.1 ≠ dK) ∧ p.1 ≠ dTy := fun p => by rw [mem_but, mem_but]
  have hxR : x ≠ dK := Nat.ne_of_gt (o1 _ List.mem_cons_self)
  have hdR : d ≠ dK := Nat.ne_of_gt (o2 _ List.mem_cons_self)
  have htR : dTy ≠ dK := Nat.ne_of_gt (o3 _ List.mem_cons_self)
  refine hK ((FL.filter (fun p => !(p.1 == dK))).filter (fun p => !(p.1 == dTy))) (fun p hp => ?_) (fun p hp => (hf p).mpr ⟨⟨hsub p hp, hn p hp⟩, Nat.ne_of_lt (o3 p (List.mem_cons_of_mem _ hp))⟩) (fun p hp => ⟨((hf p).mp hp).1.2, ((hf p).mp hp).2⟩) ⟨(hf _).mpr ⟨⟨m1, hxR⟩, hx⟩, (hf _).mpr ⟨⟨m2, hdR⟩, hd⟩⟩ fun p hp => ?_
  · rcases List.mem_cons.mp hp with rfl | hp
    · exact N _ (List.mem_cons_of_mem _ (mem_but.mpr ⟨m3, htR⟩))
    · rcases List.mem_cons.mp hp with rfl | hp
      · exact N _ List.mem_cons_self
      · exact N p (List.mem_cons_of_mem _ (mem_but.mpr ((hf p).mp hp).1))
  · rcases hcov p ((hf p).mp hp).1.1 with h | h
    · rcases List.mem_cons.mp h with rfl | h
      · exact absurd rfl ((hf _).mp hp).1.2
      · exact .inl h
    · exact .inr fun q hq => h q (List.mem_cons_of_mem _ hq)
 · intro T x h; refine dropT ?zB ?zA; simpa only using (h : DropP ?zA x); assumption
theorem segR3 {fa : Addr} {ql nm : Str} {pr : Arguments} {body : List Stmt} {sc : Scope} {dV kV doc pm cdv ct oc : Value} {an od : Option Addr} {osl : Array (Option Value)} (hb : (hd.heap_1_39 w.params).lookup 518 = some ⟨oc, od, .func (fnOf nm ql pr body sc dV kV doc pm an cdv ct), osl⟩)
    {g : Heap} {L : Addr} {m : Str → Option Value} {s : Shared} {Q : Flow → Shared → Prop} {E : Value → Shared → Prop}
    (K0 : Below callerA g [] g) (F : Fr g L s.heap m) (X : (hd.heap_1_39 w.params).In g) (T : Top p loose mean mg mb g) (l0 : @LT.lt Nat _ 515 L)
    {led : Led} {R dR K dK : Addr} {esR esK : List DictEntry} {nR nK : Nat} (N : News g L s.heap ((dK, dictOf esK nK) :: led)) (hn : ∀ p ∈ led, p.1 ≠ dK) (hR : (R, instObj 159 dR) ∈ led) (hdR : (dR, dictOf esR nR) ∈ led) (htask : getL "task" esR = some (some (.ref K))) (hKi : (K, instObj 501 dK) ∈ led) (hlen : esK.length ≤ 100) (hfr : ∃ v, getL "frame" esK = some (some v)) (hm : m "run" = some (.ref R))
    (hQ : ∀ h' tk' Fm dFm dTy oTy esFm nFm led', Fr g L h' m → oTy.IsDictOf (intKind PR w) [] → News g L h' ((dTy, oTy) :: (dK, dictOf (setL "frame" (.ref Fm) esK) nK) :: led') → (∀ p ∈ led, p ∈ led') → (∀ p ∈ led', p.1 ≠ dK ∧ p.1 ≠ dTy) → Inst led' Fm 138 dFm esFm nFm → getL "types" esFm = some (some (.ref dTy)) → (∀ q ∈ (dK, dictOf esK nK) :: led, @LT.lt Nat _ q.1 dTy) → (∀ q ∈ led, @LT.lt Nat _ q.1 Fm ∧ @LT.lt Nat _ q.1 dFm) → (∀ p ∈ led', p ∈ led ∨ ∀ q ∈ led, @LT.lt Nat _ q.1 p.1) → Q .next { s with heap := h', toks := tk' }) : wpAny (model PR w) (callerA.deeper (envOfC ql sc L fa cdv)) (execs ((body.drop 12).take 1) (envOfC ql sc L fa cdv)) Q E s := by
 refine @dropI _ ?_ ?_
 ·
  have hb' := hb
  rw [show (hd.heap_1_39 w.params).lookup 518 = _ from by k_dflt k_is] at hb'
  injection hb' with hb'
  injection hb' with e1 e2 e3 e4
  injection e3 with e3
  injection e3 with f1 f2 f3 f4 f5 f6 f7 f8 f9 f10 f11 f12 f13 f14
  injection f4 with f4
  subst f4 f5 f2 f12 f13
  clear hb f1 f3 f6 f7 f8 f9 f10 f11 f14 e1 e2 e4
  (try simp only [List.drop, List.take])
  replace F := fr_chain hm F
  k_steps
  unfold Stopped
  have hany := any_some hfr
  rename News g L _ (_ :: _ :: _) => N10
  refine' set_dict (es' := setL "frame" _ esK) (n' := nK) ?q1 ?q2 ?q3 ?q4 ?q5 ?q6 ?q7 ?q8 ?q9 ?q10 ?q11 ?q12 ?q13 ?_; (case q1 => k_asm); (case q2 => k_asm); (case q4 => k_inst); (case q3 => exact split_led (d := dK) (o := dictOf esK nK) N10 (by k_mem)); (case q12 => exact Upd.head fun p hp => (mem_but.mp hp).2); (case q5 => exact rfl); (case q6 => k_is); (case q7 => k_is); (case q8 => k_is); (case q9 => k_is); (case q10 => obtain ⟨v9, h9⟩ := hfr; rw [h9]; rfl); (case q11 => unfold setL putN; rw [putL_has hany, if_pos hany]); (case q13 => show (setL "frame" _ esK).length ≤ 1000; unfold setL; rw [put_length hany]; omega)
  intro h7 F7 N7
  k_steps
  refine' three_end (led := led) (oK := dictOf esK nK) N7 ?m1 ?m2 ?m3 ?sb hn ?cv ?o1 ?o2 ?o3 ?nx ?nd ?hK
  case m1 => k_mem
  case m2 => k_mem
  case hK =>
    intro led' hN hs hn hm' hc
    rw [chain_eq hm] at F7
    refine' hQ _ _ _ _ _ _ _ _ led' F7 ?ty hN hs hn hm' ?gt (fun q9 hq9 => ?p1) (fun q9 hq9 => ⟨?p2, ?p3⟩) hc
    case gt => k_get
    case ty => assumption
    case p1 => revert q9 hq9; (intro q9 hq9; (rcases List.mem_cons.mp hq9 with hq9 | hq9); all_goals (first | (subst hq9; show @LT.lt Nat _ _ _; (try dsimp only); omega) | (first | k_extra "q" | exact tb_ltOf (by tbn_find) q9 hq9 | k_extra "o")))
    case p2 => first | k_extra "q" | exact tb_ltOf (by tbn_find) q9 hq9 | k_extra "o"
    case p3 => first | k_extra "q" | exact tb_ltOf (by tbn_find) q9 hq9 | k_extra "o"
  case m3 => k_mem
  case sb => (intro p9 hp9; repeat' (first | exact hp9 | refine List.mem_cons_of_mem _ ?_ | refine List.mem_append_right _ ?_))
  case cv => (repeat' (first | exact Cov.self | refine Cov.cons (by (intro q9 hq9; (rcases List.mem_cons.mp hq9 with hq9 | hq9); all_goals (first | (subst hq9; show @LT.lt Nat _ _ _; (try dsimp only); omega) | (first | k_extra "q" | exact tb_ltOf (by tbn_find) q9 hq9 | k_extra "o")))) ?_))
  case o1 => (intro q9 hq9; (rcases List.mem_cons.mp hq9 with hq9 | hq9); all_goals (first | (subst hq9; show @LT.lt Nat _ _ _; (try dsimp only); omega) | (first | k_extra "q" | exact tb_ltOf (by tbn_find) q9 hq9 | k_extra "o")))
  case o2 => (intro q9 hq9; (rcases List.mem_cons.mp hq9 with hq9 | hq9); all_goals (first | (subst hq9; show @LT.lt Nat _ _ _; (try dsimp only); omega) | (first | k_extra "q" | exact tb_ltOf (by tbn_find) q9 hq9 | k_extra "o")))
  case o3 => (intro q9 hq9; (rcases List.mem_cons.mp hq9 with hq9 | hq9); all_goals (first | (subst hq9; show @LT.lt Nat _ _ _; (try dsimp only); omega) | (first | k_extra "q" | exact tb_ltOf (by tbn_find) q9 hq9 | k_extra "o")))
  case nx => omega
  case nd => omega
 · intro T x h; refine dropT ?zB ?zA; simpa only using (h : DropP ?zA x); assumption
end
section
example : True := by
  w_top off
  trivial
theorem sB10.hB10 : True := trivial
open sB10
variable {w : World} {p : Program} {loose : List Str} {mean : ExcName → Option Value} {mg mb : Str → Option Value}
example : True := by
  k_with "callWith ref" =>
    (guard_expr hB10 = hB10)
    (k_here; k_dflt (first
      | refine' callWith_K (by first | ((k_asm); done) | fail "by") (by first | ((k_is); done) | fail "by") ?_; k_whole
      | refine' callWith_K0 (by first | ((k_in); done) | fail "by") (by first | ((k_is); done) | fail "by") ?_; k_whole))
  trivial
example : True := by
  k_with "call ref" =>
    (guard_expr hB10 = hB10)
    (k_here; k_dflt (first
      | (refine' call_cls0 (by first | ((k_asm); done) | fail "by") (by first | ((k_asm); done) | fail "by") (by first | ((k_asm); done) | fail "by") (by first | ((k_is); done) | fail "by") (by first | ((k_is); done) | fail "by") ?_; k_whole; intro x'ₖ d'ₖ h'ₖ F'ₖ N'ₖ l1ₖ l2ₖ; (try k_lt l1ₖ); (try k_lt2 l2ₖ); (try k_sweep))
      | (refine' call_cls (by first | ((k_asm); done) | fail "by") (by first | ((k_asm); done) | fail "by") (by first | ((k_asm); done) | fail "by") (by first | ((k_is); done) | fail "by") (by first | ((k_is); done) | fail "by") (by first | ((k_is); done) | fail "by") ?_; k_whole; intro x'ₖ d'ₖ h'ₖ F'ₖ N'ₖ l1ₖ l2ₖ; (try k_lt l1ₖ); (try k_lt2 l2ₖ); (try k_sweep); k_enter)
      | (refine wpAny_call ?_; k_enter)))
  trivial
example : True := by
  k_with "setAttr ref" =>
    (guard_expr hB10 = hB10)
    (k_here; (with_reducible show wpAny _ _ (setAttr (Value.ref _) (PySem.Str.ofString "nodes") _) _ _ _); refine stop_here ?_)
  trivial
theorem held_end {R' : Prop} {g h : Heap} {L R W fh c nd dR : Addr} {o' oc oV oR' : Obj} {V : Int} {tV : Tok} {nm q : Str} {ps : Arguments} {bd : List Stmt} {sc : Scope} {cl : List (Str × Addr)} {dc pm ct : Value} {led rest FL : Led} {pt : Array Value} (_N : News g L h ((nd, o') :: (fh, fnMade nm q ps bd sc cl dc pm c ct) :: (c, oc) :: rest)) (hFL : FL = (nd, o') :: (fh, fnMade nm q ps bd sc cl dc pm c ct) :: (c, oc) :: rest)
    {h2 : Heap} (N7 : News g L h2 ((dR, oR') :: FL.filter (fun p => !(p.1 == dR)))) (held : HeldSpec w p loose mean mg mb R W fh (HeldAt fh c (L + 3) (fnMade nm q ps bd sc cl dc pm c ct) oc oV) V tV) (hsub : ∀ p ∈ led, p ∈ rest) (hn : ∀ p ∈ led, p.1 ≠ dR) (m5 : ((515 : Addr), tabObj pt) ∈ rest) (n5 : @Ne Nat 515 dR) (n1 : @Ne Nat nd dR) (n2 : @Ne Nat fh dR) (n3 : @Ne Nat c dR)
    (hK : ∀ led' ofn, News g L h2 ((dR, oR') :: led') → (∀ p ∈ led, p ∈ led') → (∀ p ∈ led', p.1 ≠ dR) → (nd, o') ∈ led' → (fh, ofn) ∈ led' → (c, oc) ∈ led' → ((515 : Addr), tabObj pt) ∈ led' → (∃ oc1 od fd osl, ofn = ⟨oc1, od, .func fd, osl⟩) → HeldSpec w p loose mean mg mb R W fh (HeldAt fh c (L + 3) ofn oc oV) V tV → R') : R' := by
 refine @dropI _ ?_ ?_
 ·
  subst hFL
  refine hK _ _ N7 (fun p hp => mem_but.mpr ⟨?_, hn p hp⟩) (fun p hp => (mem_but.mp hp).2) (mem_but.mpr ⟨?_, n1⟩) (mem_but.mpr ⟨?_, n2⟩) (mem_but.mpr ⟨?_, n3⟩) (mem_but.mpr ⟨?_, n5⟩) ⟨_, _, _, _, rfl⟩ held
  · exact List.mem_cons_of_mem _ (List.mem_cons_of_mem _ (List.mem_cons_of_mem _ (hsub p hp)))
  · exact List.mem_cons_self
  · exact List.mem_cons_of_mem _ List.mem_cons_self
  · exact List.mem_cons_of_mem _ (List.mem_cons_of_mem _ List.mem_cons_self)
  · exact List.mem_cons_of_mem _ (List.mem_cons_of_mem _ (List.mem_cons_of_mem _ m5))
 · intro T x h; refine dropT ?zB ?zA; simpa only using (h : DropP ?zA x); assumption
theorem segR4 {fa : Addr} {ql nm : Str} {pr : Arguments} {body : List Stmt} {sc : Scope} {dV kV doc pm cdv ct oc : Value} {an od : Option Addr} {osl : Array (Option Value)} (hb : (hd.heap_1_39 w.params).lookup 518 = some ⟨oc, od, .func (fnOf nm ql pr body sc dV kV doc pm an cdv ct), osl⟩)
    {g : Heap} {L : Addr} {m : Str → Option Value} {s : Shared} {Q : Flow → Shared → Prop} {E : Value → Shared → Prop}
    (K0 : Below callerA g [] g) (F : Fr g L s.heap m) (X : (hd.heap_1_39 w.params).In g) (T : Top p loose mean mg mb g) (l0 : @LT.lt Nat _ 515 L)
    {led : Led} {R dR W : Addr} {oV : Obj} {V : Int} {tV : Tok} {esR : List DictEntry} {nR : Nat} (hC : CodeHd g 517 515) (N : News g L s.heap ((515, tabObj #[]) :: (dR, dictOf esR nR) :: led)) (hn : ∀ p ∈ led, p.1 ≠ dR) (hn5 : ∀ p ∈ led, p.1 ≠ 515) (h5R : @LT.lt Nat _ 515 dR) (hR : (R, instObj 159 dR) ∈ led) (hlen : esR.length ≤ 100) (hnod : ∃ v, getL "nodes" esR = some (some v)) (hVo : oV.data = .cell (some (.int V tV))) (hVl : (L + 3, oV) ∈ led) (hm : m "run" = some (.ref R))
    (hQ : ∀ h' tk' nd o' fh ofn c oc (kv : List (Str × Value)) m' led', Fr g L h' m' → (∀ y : Str, y ≠ "held" → m' y = m y) → o'.IsDictOf (strKind PR w) kv → valueAt kv ("obj" : Str) = some (.ref fh) → News g L h' ((dR, dictOf (setL "nodes" (.ref nd) esR) nR) :: led') → (∀ p ∈ led, p ∈ led') → (∀ p ∈ led', p.1 ≠ dR) → (nd, o') ∈ led' → (fh, ofn) ∈ led' → (c, oc) ∈ led' → (∃ pt, ((515 : Addr), tabObj pt) ∈ led') → (∃ oc1 od fd osl, ofn = ⟨oc1, od, .func fd, osl⟩) →
      HeldSpec w p loose mean mg mb R W fh (HeldAt fh c (L + 3) ofn oc oV) V tV → (∀ q ∈ led, @LT.lt Nat _ q.1 nd ∧ @LT.lt Nat _ q.1 fh ∧ @LT.lt Nat _ q.1 c) → Q .next { s with heap := h', toks := tk' }) : wpAny (model PR w) (callerA.deeper (envOfC ql sc L fa cdv)) (execs ((body.drop 13).take 2) (envOfC ql sc L fa cdv)) Q E s := by
 refine @dropI _ ?_ ?_
 ·
  have hb' := hb
  rw [show (hd.heap_1_39 w.params).lookup 518 = _ from by k_dflt k_is] at hb'
  injection hb' with hb'
  injection hb' with e1 e2 e3 e4
  injection e3 with e3
  injection e3 with f1 f2 f3 f4 f5 f6 f7 f8 f9 f10 f11 f12 f13 f14
  injection f4 with f4
  subst f4 f5 f2 f12 f13
  clear hb f1 f3 f6 f7 f8 f9 f10 f11 f14 e1 e2 e4
  (try simp only [List.drop, List.take])
  replace F := fr_chain hm F
  k_steps
  unfold Stopped
  have hany := any_some hnod
  rename News g L _ (_ :: (_, fnMade _ _ _ _ _ _ _ _ _ _) :: _) => N10
  refine' set_dict (es' := setL "nodes" _ esR) (n' := nR) ?q1 ?q2 ?q3 ?q4 ?q5 ?q6 ?q7 ?q8 ?q9 ?q10 ?q11 ?q12 ?q13 ?_; (case q1 => k_asm); (case q2 => k_asm); (case q4 => k_inst); (case q3 => exact split_led (d := dR) (o := dictOf esR nR) N10 (by k_mem)); (case q12 => exact Upd.head fun p hp => (mem_but.mp hp).2); (case q5 => exact rfl); (case q6 => k_is); (case q7 => k_is); (case q8 => k_is); (case q9 => k_is); (case q10 => obtain ⟨v9, h9⟩ := hnod; rw [h9]; rfl); (case q11 => unfold setL putN; rw [putL_has hany, if_pos hany]); (case q13 => show (setL "nodes" _ esR).length ≤ 1000; unfold setL; rw [put_length hany]; omega)
  intro h7 F7 N7
  k_steps
  refine' held_end (w := w) (p := p) (loose := loose) (mean := mean) (mg := mg) (mb := mb) (W := W) (R := R) (V := V) (tV := tV) (oV := oV) (led := led) N10 rfl N7 ?held ?hsub hn ?m5 ?n5 ?n1 ?n2 ?n3 ?hK
  case held =>
    intro pa n t t' t2
    unfold SpecV
    intro dp un gd cn cs a ccd cl outer A₀ base h₀ L₂ m₂ news₂ s₂ Q₂ E₂ B₂ F₂ X₂ N₂ T₂ hk hPre hd hu hret
    refine wpAny_call ?_
    refine sealG fun pS hS9 => ?_
    obtain ⟨hc19, h3⟩ := hPre
    first | (refine and3 hc19 ?_; clear hc19; intro b1 b2 b3) | (obtain ⟨b1, b2, b3⟩ := hc19)
    refine hS9 ?_
    clear hS9 pS
    k_dflt (refine' code_nest ?nk1 ?nk2 ?nk3 ?nk4 ?nk5 ?nkA ?nkF ?nkK ?nk6 ?nk7 ?nk8 ?nk9 ?nkB ?_ ?nc2 ?nc3 ?nc4 ?nc5; (case nkA => exact rfl); (case nkF => exact rfl); (case nkK => assumption); (case nk1 => k_asm); (case nk2 => k_asm); (case nk3 => k_asm); (case nk4 => k_asm); (case nk5 => k_asm); (case nk6 => k_mem); (case nk7 => exact codeRec_news (by k_asm) (by k_mem) (by assumption) (by assumption)); (case nk8 => ktr_room); (case nk9 => exact BindsTo.of_eq rfl); (case nc5 => decide); (case nkB => exact locs rfl); (case nc2 => exact rfl); (case nc3 => exact rfl); (case nc4 => exact rfl); k_whole; intro g' L' h' FG' F' N' B' X' T'; (try dsimp only); (try k_lift B'); (try k_fold))
    k_steps
    exact hret _ _ _ (by k_asm) (by k_asm) rfl
  case hsub => (intro p9 hp9; repeat' (first | exact hp9 | refine List.mem_cons_of_mem _ ?_ | refine List.mem_append_right _ ?_))
  case m5 => k_mem
  case n5 => exact Nat.ne_of_lt h5R
  case n1 => omega
  case n2 => omega
  case n3 => omega
  case hK =>
    intro led' ofn hN hs hn' i1 i2 i3 i5 hof hH
    refine hQ _ _ _ _ _ ofn _ _ _ _ led' (by k_asm) ?_ (by assumption) (by rfl) hN hs hn' i1 i2 i3 ⟨_, i5⟩ hof hH (fun q9 hq9 => ⟨by first | k_extra "q" | exact tb_ltOf (by tbn_find) q9 hq9 | k_extra "o", by first | k_extra "q" | exact tb_ltOf (by tbn_find) q9 hq9 | k_extra "o", by first | k_extra "q" | exact tb_ltOf (by tbn_find) q9 hq9 | k_extra "o"⟩)
    intro y hy
    rw [if_neg hy]
    split
    · next e => rw [e, hm]
    · rfl
 · intro T x h; refine dropT ?zB ?zA; simpa only using (h : DropP ?zA x); assumption
end
section
example : True := by
  w_top off
  trivial
theorem sB11.hB11 : True := trivial
open sB11
variable {w : World} {p : Program} {loose : List Str} {mean : ExcName → Option Value} {mg mb : Str → Option Value}
example : True := by
  k_with "callWith ref" =>
    (guard_expr hB11 = hB11)
    (k_here; k_dflt (first
      | refine' callWith_K (by first | ((k_asm); done) | fail "by") (by first | ((k_is); done) | fail "by") ?_; k_whole
      | refine' callWith_K0 (by first | ((k_in); done) | fail "by") (by first | ((k_is); done) | fail "by") ?_; k_whole))
  trivial
example : True := by
  k_with "call ref" =>
    (guard_expr hB11 = hB11)
    (k_here; k_dflt (first
      | (refine' call_cls0 (by first | ((k_asm); done) | fail "by") (by first | ((k_asm); done) | fail "by") (by first | ((k_asm); done) | fail "by") (by first | ((k_is); done) | fail "by") (by first | ((k_is); done) | fail "by") ?_; k_whole; intro x'ₖ d'ₖ h'ₖ F'ₖ N'ₖ l1ₖ l2ₖ; (try k_lt l1ₖ); (try k_lt2 l2ₖ); (try k_sweep))
      | (refine' call_cls (by first | ((k_asm); done) | fail "by") (by first | ((k_asm); done) | fail "by") (by first | ((k_asm); done) | fail "by") (by first | ((k_is); done) | fail "by") (by first | ((k_is); done) | fail "by") (by first | ((k_is); done) | fail "by") ?_; k_whole; intro x'ₖ d'ₖ h'ₖ F'ₖ N'ₖ l1ₖ l2ₖ; (try k_lt l1ₖ); (try k_lt2 l2ₖ); (try k_sweep); k_enter)
      | (refine wpAny_call ?_; k_enter)))
  trivial
theorem segD0 {fa : Addr} {ql nm : Str} {pr : Arguments} {body : List Stmt} {sc : Scope} {dV kV doc pm cdv ct oc : Value} {an od : Option Addr} {osl : Array (Option Value)} (hb : (hd.heap_1_39 w.params).lookup 518 = some ⟨oc, od, .func (fnOf nm ql pr body sc dV kV doc pm an cdv ct), osl⟩)
    {g : Heap} {L : Addr} {m : Str → Option Value} {s : Shared} {Q : Flow → Shared → Prop} {E : Value → Shared → Prop}
    (K0 : Below callerA g [] g) (F : Fr g L s.heap m) (X : (hd.heap_1_39 w.params).In g) (T : Top p loose mean mg mb g) (l0 : @LT.lt Nat _ 515 L)
    {led : Led} (N : News g L s.heap led)
    (hQ : ∀ h' tk' du m', Fr g L h' m' → m' "due" = some (.ref du) → m' "is_late" = some (.bool false) → (∀ y : Str, y ≠ "due" → y ≠ "is_late" → m' y = m y) → News g L h' ((du, lstO [] 0) :: led) → (∀ q ∈ led, @LT.lt Nat _ q.1 du) → Q .next { s with heap := h', toks := tk' }) : wpAny (model PR w) (callerA.deeper (envOfC ql sc L fa cdv)) (execs ((body.drop 15).take 1) (envOfC ql sc L fa cdv)) Q E s := by
 refine @dropI _ ?_ ?_
 ·
  have hb' := hb
  rw [show (hd.heap_1_39 w.params).lookup 518 = _ from by k_dflt k_is] at hb'
  injection hb' with hb'
  injection hb' with e1 e2 e3 e4
  injection e3 with e3
  injection e3 with f1 f2 f3 f4 f5 f6 f7 f8 f9 f10 f11 f12 f13 f14
  injection f4 with f4
  subst f4 f5 f2 f12 f13
  clear hb f1 f3 f6 f7 f8 f9 f10 f11 f14 e1 e2 e4
  (try simp only [List.drop, List.take])
  k_steps
  refine hQ _ _ _ _ (by k_asm) (by rfl) (by rfl) ?_ (news_sub (by k_asm) ?_) ?_
  · intro y h1 h2; rw [if_neg h1, if_neg h2]
  · exact fun p hp => List.mem_cons_of_mem _ hp
  · intro q9 hq9; first | exact tb_ltOf (by tbn_find) q9 hq9 | exact (by assumption : ∀ p ∈ led, @LT.lt Nat _ p.1 _) q9 hq9
 · intro T x h; refine dropT ?zB ?zA; simpa only using (h : DropP ?zA x); assumption
end
section
example : True := by
  w_top off
  trivial
theorem sB12.hB12 : True := trivial
open sB12
variable {w : World} {p : Program} {loose : List Str} {mean : ExcName → Option Value} {mg mb : Str → Option Value}
example : True := by
  k_with "callWith ref" =>
    (guard_expr hB12 = hB12)
    (k_here; k_dflt (first
      | refine' callWith_K (by first | ((k_asm); done) | fail "by") (by first | ((k_is); done) | fail "by") ?_; k_whole
      | refine' callWith_K0 (by first | ((k_in); done) | fail "by") (by first | ((k_is); done) | fail "by") ?_; k_whole))
  trivial
example : True := by
  k_with "call ref" =>
    (guard_expr hB12 = hB12)
    (k_here; k_dflt (first
      | (refine' call_cls0 (by first | ((k_asm); done) | fail "by") (by first | ((k_asm); done) | fail "by") (by first | ((k_asm); done) | fail "by") (by first | ((k_is); done) | fail "by") (by first | ((k_is); done) | fail "by") ?_; k_whole; intro x'ₖ d'ₖ h'ₖ F'ₖ N'ₖ l1ₖ l2ₖ; (try k_lt l1ₖ); (try k_lt2 l2ₖ); (try k_sweep))
      | (refine' call_cls (by first | ((k_asm); done) | fail "by") (by first | ((k_asm); done) | fail "by") (by first | ((k_asm); done) | fail "by") (by first | ((k_is); done) | fail "by") (by first | ((k_is); done) | fail "by") (by first | ((k_is); done) | fail "by") ?_; k_whole; intro x'ₖ d'ₖ h'ₖ F'ₖ N'ₖ l1ₖ l2ₖ; (try k_lt l1ₖ); (try k_lt2 l2ₖ); (try k_sweep); k_enter)
      | (refine wpAny_call ?_; k_enter)))
  trivial
example : True := by
  k_with "call builtin:list.append" =>
    (guard_expr hB12 = hB12)
    (k_here; (with_reducible show wpAny _ _ (call (Value.builtin _) [Value.ref _, _]) _ _ _); k_dflt (refine' append_K (by first | (k_asm; done) | fail "by") (by first | (k_asm; done) | fail "by") (by first | (k_upd; done) | fail "by") ?_ (by first | ((rw [List.size_toArray, sizeLine_eq]; omega); done) | fail "by"); k_whole); intro h'ₖ F'ₖ N'ₖ; (try k_sweep))
  trivial
example : True := by
  k_with "compareOp NotEq ref ref" =>
    (guard_expr hB12 = hB12)
    (k_here; k_dflt (refine' ne_empty (by first | ((exact ⟨_, (News.get (by k_asm) (by k_mem)), rfl, _, rfl⟩); done) | fail "by") (by first | ((exact ⟨_, (News.get (by k_asm) (by k_mem)), rfl, _, rfl⟩); done) | fail "by") (by first | ((ktr_units); done) | fail "by") ?_))
  trivial
example : True := by
  k_with "eval ListComp" =>
    (guard_expr hB12 = hB12)
    (k_here; refine stop_here ?_)
  trivial
theorem cmp_disc {A : Around} {E : Value → Shared → Prop} {s : Shared} {h₀ : Heap} {L W D : Addr} {FL led : Led} {v : Value} {x : Part} {u1 u2 : Tok} {k : Nat} {Q : Value → Shared → Prop} (N : News h₀ L s.heap FL) (hp : PartAt W led v x) (hs : ∀ p ∈ led, p ∈ FL) (hD : (D, tupO [.str "disc" u1, .ref W, .str "e" u2] k) ∈ FL) (hu : A.units < cLine) (h : Q (.bool x.isDisc) s) : wpAny (model PR w) A (compareOp .Eq v (.ref D)) Q E s :=
  rc_disc (fun p hp => (N p hp).1) hu (N _ hD).1 (hp.mono hs) _ _ _ _ h
example : True := by
  k_with "compareOp Eq int ref" =>
    (guard_expr hB12 = hB12)
    (k_here; k_dflt (refine' cmp_disc (by first | ((k_asm); done) | fail "by") (by first | ((assumption); done) | fail "by") (by first | ((intro p9ₖ h9ₖ; simp only [List.mem_cons, h9ₖ, or_true]); done) | fail "by") (by first | ((k_mem); done) | fail "by") (by first | ((ktr_units); done) | fail "by") ?_; (try dsimp only [Part.isDisc])))
  trivial
example : True := by
  k_with "compareOp Eq ref ref" =>
    (guard_expr hB12 = hB12)
    (k_here; k_dflt (refine' cmp_disc (by first | ((k_asm); done) | fail "by") (by first | ((assumption); done) | fail "by") (by first | ((intro p9ₖ h9ₖ; simp only [List.mem_cons, h9ₖ, or_true]); done) | fail "by") (by first | ((k_mem); done) | fail "by") (by first | ((ktr_units); done) | fail "by") ?_; (try dsimp only [Part.isDisc])))
  trivial
theorem segFa {fa : Addr} {ql nm : Str} {pr : Arguments} {body : List Stmt} {sc : Scope} {dV kV doc pm cdv ct oc : Value} {an od : Option Addr} {osl : Array (Option Value)} (hb : (hd.heap_1_39 w.params).lookup 518 = some ⟨oc, od, .func (fnOf nm ql pr body sc dV kV doc pm an cdv ct), osl⟩)
    {g : Heap} {L : Addr} {m : Str → Option Value} {s : Shared} {Q : Flow → Shared → Prop} {E : Value → Shared → Prop}
    (K0 : Below callerA g [] g) (F : Fr g L s.heap m) (X : (hd.heap_1_39 w.params).In g) (T : Top p loose mean mg mb g) (l0 : @LT.lt Nat _ 515 L)
    (x : Str) (px : Pos) (iter : Expr) (bd : List Stmt) (pos : Pos) (hbd : (body.drop 16).take 1 = [.For (.Name x px) iter bd [] pos])
    {W du lx : Addr} {oW : Obj} {ds vs : List Value} {dn n : Nat} {rest : Led} {ps : List (Str × Part)} (N : News g L s.heap ((du, lstO ds dn) :: rest)) (hdu : ∀ p ∈ rest, p.1 ≠ du) (hWo : oW.data = .cell (some (.ref W))) (hWl : (L + 1, oW) ∈ rest)
    (hlx : (lx, lstO vs n) ∈ rest) (hps : All2 (PairAt W rest) vs ps) (hl : ps.length ≤ 2) (hds : ds.length ≤ 100) (hm1 : m "pairs" = some (.ref lx)) (hm2 : m "due" = some (.ref du))
    (hQ1 : hasDisc ps = true → ∀ h' tk', Fr g L h' m → News g L h' ((du, lstO (ds ++ [.ref lx]) (dn + 1)) :: rest) → Q .cont { s with heap := h', toks := tk' })
    (hQ2 : hasDisc ps = false → ∀ h' tk', Fr g L h' m → News g L h' ((du, lstO ds dn) :: rest) → Q .next { s with heap := h', toks := tk' }) : wpAny (model PR w) (callerA.deeper (envOfC ql sc L fa cdv)) (execs ((bd.drop 0).take 1) (envOfC ql sc L fa cdv)) Q E s := by
 refine @dropI _ ?_ ?_
 ·
  have hb' := hb
  rw [show (hd.heap_1_39 w.params).lookup 518 = _ from by k_dflt k_is] at hb'
  injection hb' with hb'
  injection hb' with e1 e2 e3 e4
  injection e3 with e3
  injection e3 with f1 f2 f3 f4 f5 f6 f7 f8 f9 f10 f11 f12 f13 f14
  injection f4 with f4
  subst f4 f5 f2 f12 f13
  clear hb f1 f3 f6 f7 f8 f9 f10 f11 f14 e1 e2 e4
  (try simp only [List.drop, List.take])
  simp only [List.drop, List.take] at hbd
  injection hbd with hbd
  injection hbd with b1 b2 b3 b4 b5
  injection b1 with b1 b6
  subst b1 b3
  (try simp only [List.drop, List.take])
  replace F := fr_chain hm2 F
  replace F := fr_chain (x := "pairs") (v := .ref lx) ((if_neg (by decide)).trans hm1) F
  have em := (chain_eq (m := fun y => if y = ("due" : Str) then some (.ref du) else m y) (x := "pairs") (v := .ref lx) ((if_neg (by decide)).trans hm1)).trans (chain_eq hm2)
  k_steps
  unfold Stopped
  (k_dflt (refine' comp_eval (cl := _) ?pF _ _ (fun _ _ _ => False) ?pcl ?pce ?pki ?pnm ?pB Passes.never ?_ ?phs; (case pF => k_asm); (case pcl => with_unfolding_all rfl); (case pce => decide); (case pki => rfl); (case pnm => decide); (case pB => (refine' binds_two ?b1 ?b2 ?b3 ?b4 ?b5; (case b1 => rfl); (case b2 => rfl); (case b3 => rfl); (case b4 => rfl); (case b5 => decide))); (case phs => intro _; rfl)))
  k_steps
  have hvl := hps.length
  refine CompIn.intro (news := (du, lstO ds dn) :: rest) (fun i ys nw => nw = (du, lstO ds dn) :: rest ∧ ys.length ≤ i ∧ (ys = [] ↔ ((ps.map fun q => q.2.isDisc).take i).any id = false)) (by rfl) (by k_asm) (by k_asm) (.inl (by k_mem)) (by rw [sizeLine_eq]; omega) ⟨rfl, Nat.le_refl _, by simp⟩ (fun i ys _ h => h.2.1) ?_ ?_ ?_
  · intro v hv news' hsub
    refine sealG fun pS hS9 => ?_
    obtain ⟨j, hj⟩ := List.getElem?_of_mem hv
    obtain ⟨q, _, hq⟩ := hps.get hj
    refine hS9 ?_
    clear hS9 pS
    exact pair_name (hq.mono fun p hp => hsub p (List.mem_cons_of_mem _ hp))
  · intro g8 i v ys news' I8 oI C8 oC D8 m₂ h8 tk8 hi hR149 hsub hlt hC hB F8 N8 o8 d8
    obtain ⟨hJe, hJ⟩ := hR149
    subst hJe
    refine sealG fun pS hS9 => ?_
    obtain ⟨q, hqi, ax, n9, t, pv, rfl, hm, hpart⟩ := hps.get hi
    obtain ⟨x1, x2, ⟨ax', n', e9, hm'⟩, y1, y2⟩ := hB
    refine hS9 ?_
    clear hS9 pS
    cases e9
    have e10 := (N8 _ (List.mem_cons_of_mem _ (List.mem_cons_of_mem _ (List.mem_cons_of_mem _ hm')))).1.symm.trans (N8 _ (List.mem_cons_of_mem _ (List.mem_cons_of_mem _ (List.mem_cons_of_mem _ (List.mem_cons_of_mem _ hm))))).1
    obtain ⟨rfl, rfl⟩ : x1 = .str q.1 t ∧ x2 = pv := by simpa using tup_inj e10
    have hst := any_more (rs := ps.map fun q => q.2.isDisc) (i := i) (b := q.2.isDisc) (by rw [List.getElem?_map, hqi]; rfl)
    rcases hp2 : q.2 with z | _ | _
    · rw [hp2] at hpart hst
      obtain ⟨tz, rfl⟩ := id hpart
      refine wpAny_tests_one ?_
      k_steps
      (exact ⟨_, _, _, rfl, by k_asm, news_sub (by k_asm) (by intro p9 h9; first | k_mem | (simp only [List.mem_cons] at h9 ⊢; simp only [h9, or_true])), by assumption, fun _ h => h, fun _ h => .inl h, ⟨rfl, filt_no hJ hst rfl⟩⟩)
    · rw [hp2] at hpart hst
      refine sealG fun pS hS9 => ?_
      obtain ⟨az, nz, tz1, tz2, tz3, rfl, hmz⟩ := id hpart
      refine hS9 ?_
      clear hS9 pS
      refine wpAny_tests_one ?_
      k_steps
      (exact ⟨_, _, _, rfl, by k_asm, news_sub (by k_asm) (by intro p9 h9; first | k_mem | (simp only [List.mem_cons] at h9 ⊢; simp only [h9, or_true])), by assumption, fun _ h => h, fun _ h => .inl h, ⟨rfl, filt_no hJ hst rfl⟩⟩)
    · rw [hp2] at hpart hst
      refine sealG fun pS hS9 => ?_
      obtain ⟨az, nz, tz1, tz2, rfl, hmz⟩ := id hpart
      refine hS9 ?_
      clear hS9 pS
      refine wpAny_tests_one ?_
      k_steps
      (exact ⟨_, _, _, rfl, by k_asm, news_sub (by k_asm) (by intro p9 h9; first | k_mem | (simp only [List.mem_cons] at h9 ⊢; simp only [h9, or_true])), by assumption, fun _ h => h, fun _ h => .inl h, ⟨rfl, filt_yes hJ hst rfl⟩⟩)
  · intro g8 D8 h8 tk8 ys news' N8 o8 hsub hlt hord hR119 h7 tk7 F9 N9
    obtain ⟨hJe, hJ⟩ := hR119
    subst hJe
    have hq : ys = [] ↔ hasDisc ps = false := by
      have h := hJ.2
      rw [hvl, List.take_of_length_le (by simp)] at h
      rwa [List.any_map] at h
    have l8 := hlt
    k_lt l8
    k_steps
    · exact hQ2 (hq.mp (List.isEmpty_iff.mp (by assumption))) _ _ (by rw [← em]; k_asm) (news_sub (by k_asm) (by (intro p9 hp9; repeat' (first | exact hp9 | refine List.mem_cons_of_mem _ ?_ | refine List.mem_append_right _ ?_))))
    · rename News g L _ (_ :: _ :: _ :: _) => N9
      rw [show ∀ D : Value, ds.toArray.push D = (ds ++ [D]).toArray from fun D => by simp] at N9
      refine hQ1 ?_ _ _ (by rw [← em]; k_asm) (news_sub N9 (by (intro p9 hp9; repeat' (first | exact hp9 | refine List.mem_cons_of_mem _ ?_ | refine List.mem_append_right _ ?_))))
      cases hd : hasDisc ps with
      | true => rfl
      | false =>
        have h9 := hq.mpr hd
        subst h9
        rename List.isEmpty _ = _ => h7
        cases h7
 · intro T x h; refine dropT ?zB ?zA; simpa only using (h : DropP ?zA x); assumption
end
section
example : True := by
  w_top off
  trivial
theorem sB13.hB13 : True := trivial
open sB13
variable {w : World} {p : Program} {loose : List Str} {mean : ExcName → Option Value} {mg mb : Str → Option Value}
example : True := by
  k_with "callWith ref" =>
    (guard_expr hB13 = hB13)
    (k_here; k_dflt (first
      | refine' callWith_K (by first | ((k_asm); done) | fail "by") (by first | ((k_is); done) | fail "by") ?_; k_whole
      | refine' callWith_K0 (by first | ((k_in); done) | fail "by") (by first | ((k_is); done) | fail "by") ?_; k_whole))
  trivial
example : True := by
  k_with "call ref" =>
    (guard_expr hB13 = hB13)
    (k_here; k_dflt (first
      | (refine' call_cls0 (by first | ((k_asm); done) | fail "by") (by first | ((k_asm); done) | fail "by") (by first | ((k_asm); done) | fail "by") (by first | ((k_is); done) | fail "by") (by first | ((k_is); done) | fail "by") ?_; k_whole; intro x'ₖ d'ₖ h'ₖ F'ₖ N'ₖ l1ₖ l2ₖ; (try k_lt l1ₖ); (try k_lt2 l2ₖ); (try k_sweep))
      | (refine' call_cls (by first | ((k_asm); done) | fail "by") (by first | ((k_asm); done) | fail "by") (by first | ((k_asm); done) | fail "by") (by first | ((k_is); done) | fail "by") (by first | ((k_is); done) | fail "by") (by first | ((k_is); done) | fail "by") ?_; k_whole; intro x'ₖ d'ₖ h'ₖ F'ₖ N'ₖ l1ₖ l2ₖ; (try k_lt l1ₖ); (try k_lt2 l2ₖ); (try k_sweep); k_enter)
      | (refine wpAny_call ?_; k_enter)))
  trivial
example : True := by
  k_with "compareOp NotEq ref ref" =>
    (guard_expr hB13 = hB13)
    (k_here; k_dflt (refine' ne_empty (by first | ((exact ⟨_, (News.get (by k_asm) (by k_mem)), rfl, _, rfl⟩); done) | fail "by") (by first | ((exact ⟨_, (News.get (by k_asm) (by k_mem)), rfl, _, rfl⟩); done) | fail "by") (by first | ((ktr_units); done) | fail "by") ?_))
  trivial
example : True := by
  k_with "eval ListComp" =>
    (guard_expr hB13 = hB13)
    (k_here; refine stop_here ?_)
  trivial
theorem segFb {fa : Addr} {ql nm : Str} {pr : Arguments} {body : List Stmt} {sc : Scope} {dV kV doc pm cdv ct oc : Value} {an od : Option Addr} {osl : Array (Option Value)} (hb : (hd.heap_1_39 w.params).lookup 518 = some ⟨oc, od, .func (fnOf nm ql pr body sc dV kV doc pm an cdv ct), osl⟩)
    {g : Heap} {L : Addr} {m : Str → Option Value} {s : Shared} {Q : Flow → Shared → Prop} {E : Value → Shared → Prop}
    (K0 : Below callerA g [] g) (F : Fr g L s.heap m) (X : (hd.heap_1_39 w.params).In g) (T : Top p loose mean mg mb g) (l0 : @LT.lt Nat _ 515 L)
    (x : Str) (px : Pos) (iter : Expr) (bd : List Stmt) (pos : Pos) (hbd : (body.drop 16).take 1 = [.For (.Name x px) iter bd [] pos])
    {W lx : Addr} {vs : List Value} {n : Nat} {rest : Led} {ps : List (Str × Part)} {lt : Bool} (N : News g L s.heap rest)
    (hlx : (lx, lstO vs n) ∈ rest) (hps : All2 (PairAt W rest) vs ps) (hl : ps.length ≤ 2) (hm1 : m "pairs" = some (.ref lx)) (hm2 : m "is_late" = some (.bool lt))
    (hQ : ∀ h' tk', Fr g L h' (fun y => if y = "is_late" then some (.bool (lt || ps.any fun q => q.2.isTup)) else m y) → News g L h' rest → Q .next { s with heap := h', toks := tk' }) : wpAny (model PR w) (callerA.deeper (envOfC ql sc L fa cdv)) (execs ((bd.drop 1).take 1) (envOfC ql sc L fa cdv)) Q E s := by
 refine @dropI _ ?_ ?_
 ·
  have hb' := hb
  rw [show (hd.heap_1_39 w.params).lookup 518 = _ from by k_dflt k_is] at hb'
  injection hb' with hb'
  injection hb' with e1 e2 e3 e4
  injection e3 with e3
  injection e3 with f1 f2 f3 f4 f5 f6 f7 f8 f9 f10 f11 f12 f13 f14
  injection f4 with f4
  subst f4 f5 f2 f12 f13
  clear hb f1 f3 f6 f7 f8 f9 f10 f11 f14 e1 e2 e4
  (try simp only [List.drop, List.take])
  simp only [List.drop, List.take] at hbd
  injection hbd with hbd
  injection hbd with b1 b2 b3 b4 b5
  injection b1 with b1 b6
  subst b1 b3
  (try simp only [List.drop, List.take])
  replace F := fr_chain hm2 F
  replace F := fr_chain (x := "pairs") (v := .ref lx) ((if_neg (by decide)).trans hm1) F
  have em := (chain_eq (m := fun y => if y = ("is_late" : Str) then some (.bool lt) else m y) (x := "pairs") (v := .ref lx) ((if_neg (by decide)).trans hm1)).trans (chain_eq hm2)
  cases lt with
  | true =>
    k_steps
    exact hQ _ _ (by rw [← em]; k_asm) (by k_asm)
  | false =>
    k_steps
    unfold Stopped
    (k_dflt (refine' comp_eval (cl := _) ?pF _ _ (fun _ _ _ => False) ?pcl ?pce ?pki ?pnm ?pB Passes.never ?_ ?phs; (case pF => k_asm); (case pcl => with_unfolding_all rfl); (case pce => decide); (case pki => rfl); (case pnm => decide); (case pB => (refine' binds_two ?b1 ?b2 ?b3 ?b4 ?b5; (case b1 => rfl); (case b2 => rfl); (case b3 => rfl); (case b4 => rfl); (case b5 => decide))); (case phs => intro _; rfl)))
    k_steps
    have hvl := hps.length
    refine CompIn.intro (news := rest) (fun i ys nw => nw = rest ∧ ys.length ≤ i ∧ (ys = [] ↔ ((ps.map fun q => q.2.isTup).take i).any id = false)) (by rfl) (by k_asm) (by k_asm) (.inl (by k_mem)) (by rw [sizeLine_eq]; omega) ⟨rfl, Nat.le_refl _, by simp⟩ (fun i ys _ h => h.2.1) ?_ ?_ ?_
    · intro v hv news' hsub
      refine sealG fun pS hS9 => ?_
      obtain ⟨j, hj⟩ := List.getElem?_of_mem hv
      obtain ⟨q, _, hq⟩ := hps.get hj
      refine hS9 ?_
      clear hS9 pS
      exact pair_name (hq.mono hsub)
    · intro g8 i v ys news' I8 oI C8 oC D8 m₂ h8 tk8 hi hR149 hsub hlt hC hB F8 N8 o8 d8
      obtain ⟨hJe, hJ⟩ := hR149
      subst hJe
      refine sealG fun pS hS9 => ?_
      obtain ⟨q, hqi, ax, n9, t, pv, rfl, hm, hpart⟩ := hps.get hi
      obtain ⟨x1, x2, ⟨ax', n', e9, hm'⟩, y1, y2⟩ := hB
      refine hS9 ?_
      clear hS9 pS
      cases e9
      have e10 := (N8 _ (List.mem_cons_of_mem _ (List.mem_cons_of_mem _ (List.mem_cons_of_mem _ hm')))).1.symm.trans (N8 _ (List.mem_cons_of_mem _ (List.mem_cons_of_mem _ (List.mem_cons_of_mem _ hm)))).1
      obtain ⟨rfl, rfl⟩ : x1 = .str q.1 t ∧ x2 = pv := by simpa using tup_inj e10
      have hst := any_more (rs := ps.map fun q => q.2.isTup) (i := i) (b := q.2.isTup) (by rw [List.getElem?_map, hqi]; rfl)
      rcases hp2 : q.2 with z | _ | _
      · rw [hp2] at hpart hst
        obtain ⟨tz, rfl⟩ := id hpart
        refine wpAny_tests_one ?_
        k_steps
        (exact ⟨_, _, _, rfl, by k_asm, news_sub (by k_asm) (by intro p9 h9; first | k_mem | (simp only [List.mem_cons] at h9 ⊢; simp only [h9, or_true])), by assumption, fun _ h => h, fun _ h => .inl h, ⟨rfl, filt_no hJ hst rfl⟩⟩)
      · rw [hp2] at hpart hst
        refine sealG fun pS hS9 => ?_
        obtain ⟨az, nz, tz1, tz2, tz3, rfl, hmz⟩ := id hpart
        refine hS9 ?_
        clear hS9 pS
        refine wpAny_tests_one ?_
        k_steps
        (exact ⟨_, _, _, rfl, by k_asm, news_sub (by k_asm) (by intro p9 h9; first | k_mem | (simp only [List.mem_cons] at h9 ⊢; simp only [h9, or_true])), by assumption, fun _ h => h, fun _ h => .inl h, ⟨rfl, filt_yes hJ hst rfl⟩⟩)
      · rw [hp2] at hpart hst
        refine sealG fun pS hS9 => ?_
        obtain ⟨az, nz, tz1, tz2, rfl, hmz⟩ := id hpart
        refine hS9 ?_
        clear hS9 pS
        refine wpAny_tests_one ?_
        k_steps
        (exact ⟨_, _, _, rfl, by k_asm, news_sub (by k_asm) (by intro p9 h9; first | k_mem | (simp only [List.mem_cons] at h9 ⊢; simp only [h9, or_true])), by assumption, fun _ h => h, fun _ h => .inl h, ⟨rfl, filt_yes hJ hst rfl⟩⟩)
    · intro g8 D8 h8 tk8 ys news' N8 o8 hsub hlt hord hR119 h7 tk7 F9 N9
      obtain ⟨hJe, hJ⟩ := hR119
      subst hJe
      have hq : ys = [] ↔ (ps.any fun q => q.2.isTup) = false := by
        have h := hJ.2
        rw [hvl, List.take_of_length_le (by simp)] at h
        rwa [List.any_map] at h
      k_steps
      refine hQ _ _ ?_ (news_sub (by k_asm) (by (intro p9 hp9; repeat' (first | exact hp9 | refine List.mem_cons_of_mem _ ?_ | refine List.mem_append_right _ ?_))))
      rw [← em, show (false || ps.any fun q => q.2.isTup) = !ys.isEmpty from by
        rw [Bool.false_or]
        cases hd : ps.any fun q => q.2.isTup with
        | false => rw [hq.mpr hd]; rfl
        | true => cases ys with
          | nil => rw [hq.mp rfl] at hd; cases hd
          | cons _ _ => rfl]
      k_asm
 · intro T x h; refine dropT ?zB ?zA; simpa only using (h : DropP ?zA x); assumption
end
section
example : True := by
  w_top off
  trivial
theorem sB14.hB14 : True := trivial
open sB14
variable {w : World} {p : Program} {loose : List Str} {mean : ExcName → Option Value} {mg mb : Str → Option Value}
example : True := by
  k_with "callWith ref" =>
    (guard_expr hB14 = hB14)
    (k_here; k_dflt (first
      | refine' callWith_K (by first | ((k_asm); done) | fail "by") (by first | ((k_is); done) | fail "by") ?_; k_whole
      | refine' callWith_K0 (by first | ((k_in); done) | fail "by") (by first | ((k_is); done) | fail "by") ?_; k_whole))
  trivial
example : True := by
  k_with "call ref" =>
    (guard_expr hB14 = hB14)
    (k_here; k_dflt (first
      | (refine' call_cls0 (by first | ((k_asm); done) | fail "by") (by first | ((k_asm); done) | fail "by") (by first | ((k_asm); done) | fail "by") (by first | ((k_is); done) | fail "by") (by first | ((k_is); done) | fail "by") ?_; k_whole; intro x'ₖ d'ₖ h'ₖ F'ₖ N'ₖ l1ₖ l2ₖ; (try k_lt l1ₖ); (try k_lt2 l2ₖ); (try k_sweep))
      | (refine' call_cls (by first | ((k_asm); done) | fail "by") (by first | ((k_asm); done) | fail "by") (by first | ((k_asm); done) | fail "by") (by first | ((k_is); done) | fail "by") (by first | ((k_is); done) | fail "by") (by first | ((k_is); done) | fail "by") ?_; k_whole; intro x'ₖ d'ₖ h'ₖ F'ₖ N'ₖ l1ₖ l2ₖ; (try k_lt l1ₖ); (try k_lt2 l2ₖ); (try k_sweep); k_enter)
      | (refine wpAny_call ?_; k_enter)))
  trivial
example : True := by
  k_with "call builtin:list.append" =>
    (guard_expr hB14 = hB14)
    (k_here; (with_reducible show wpAny _ _ (call (Value.builtin _) [Value.ref _, _]) _ _ _); k_dflt (refine' append_K (by first | (k_asm; done) | fail "by") (by first | (k_asm; done) | fail "by") (by first | (k_upd; done) | fail "by") ?_ (by first | ((rw [List.size_toArray, sizeLine_eq]; omega); done) | fail "by"); k_whole); intro h'ₖ F'ₖ N'ₖ; (try k_sweep))
  trivial
example : True := by
  k_with "eval ListComp" =>
    (guard_expr hB14 = hB14)
    (k_here; refine stop_here ?_)
  trivial
theorem numPairs_more {V : Int} {l l' : Led} {ys : List Value} {ps : List (Str × Part)} {i : Nat} {q : Str × Part} {x : Addr} {t tz : Tok} {n : Nat} {z : Int} (h : NumPairs l ys (settled V (ps.take i))) (hs : ∀ p ∈ l, p ∈ l') (hx : (x, tupO [.str q.1 t, .int z tz] n) ∈ l') (hqi : ps[i]? = some q) (hz : settle V q.2 = z) :
    NumPairs l' (ys ++ [.ref x]) (settled V (ps.take (i + 1))) := by
 refine @dropI _ ?_ ?_
 ·
  have e : settled V (ps.take (i + 1)) = settled V (ps.take i) ++ [(q.1, z)] := by
    rw [List.take_add_one, hqi]
    simp [settled, hz]
  rw [e]
  exact (NumPairs.mono hs h).snoc ⟨x, n, t, tz, rfl, hx⟩
 · intro T x h; refine dropT ?zB ?zA; simpa only using (h : DropP ?zA x); assumption
def newer (b l : Led) : Led := l.filter fun p => b.all fun q => Nat.blt q.1 p.1
theorem mem_newer {b l : Led} {p : Addr × Obj} : p ∈ newer b l ↔ p ∈ l ∧ ∀ q ∈ b, @LT.lt Nat _ q.1 p.1 := by
 refine @dropI _ ?_ ?_
 ·
  unfold newer
  rw [List.mem_filter, List.all_eq_true]
  exact ⟨fun h => ⟨h.1, fun q hq => by have := h.2 q hq; simpa [Nat.blt_eq] using this⟩, fun h => ⟨h.1, fun q hq => by simpa [Nat.blt_eq] using h.2 q hq⟩⟩
 · intro T x h; refine dropT ?zB ?zA; simpa only using (h : DropP ?zA x); assumption
theorem segFc {fa : Addr} {ql nm : Str} {pr : Arguments} {body : List Stmt} {sc : Scope} {dV kV doc pm cdv ct oc : Value} {an od : Option Addr} {osl : Array (Option Value)} (hb : (hd.heap_1_39 w.params).lookup 518 = some ⟨oc, od, .func (fnOf nm ql pr body sc dV kV doc pm an cdv ct), osl⟩)
    {g : Heap} {L : Addr} {m : Str → Option Value} {s : Shared} {Q : Flow → Shared → Prop} {E : Value → Shared → Prop}
    (K0 : Below callerA g [] g) (F : Fr g L s.heap m) (X : (hd.heap_1_39 w.params).In g) (T : Top p loose mean mg mb g) (l0 : @LT.lt Nat _ 515 L)
    (x : Str) (px : Pos) (iter : Expr) (bd : List Stmt) (pos : Pos) (hbd : (body.drop 16).take 1 = [.For (.Name x px) iter bd [] pos])
    {W du lx : Addr} {ds vs : List Value} {dn n : Nat} {rest : Led} {ps : List (Str × Part)} {oV : Obj} {V : Int} {tV : Tok} (N : News g L s.heap ((du, lstO ds dn) :: rest)) (hdu : ∀ p ∈ rest, p.1 ≠ du) (hVo : oV.data = .cell (some (.int V tV))) (hVl : (L + 3, oV) ∈ rest)
    (hlx : (lx, lstO vs n) ∈ rest) (hps : All2 (PairAt W rest) vs ps) (hl : ps.length ≤ 2) (hnd : NoDisc ps) (hds : ds.length ≤ 100) (hm1 : m "pairs" = some (.ref lx)) (hm2 : m "due" = some (.ref du))
    (hQ : ∀ h' tk' D ys yn rest', Fr g L h' m → News g L h' ((du, lstO (ds ++ [.ref D]) (dn + 1)) :: rest') → (∀ p ∈ rest, p ∈ rest') → (∀ p ∈ rest', p.1 ≠ du) → (∀ p ∈ rest', p ∈ rest ∨ ∀ q ∈ (du, lstO ds dn) :: rest, @LT.lt Nat _ q.1 p.1) → (D, lstO ys yn) ∈ newer ((du, lstO ds dn) :: rest) rest' → NumPairs (newer ((du, lstO ds dn) :: rest) rest') ys (settled V ps) → Q .next { s with heap := h', toks := tk' }) : wpAny (model PR w) (callerA.deeper (envOfC ql sc L fa cdv)) (execs ((bd.drop 2).take 1) (envOfC ql sc L fa cdv)) Q E s := by
 refine @dropI _ ?_ ?_
 ·
  have hb' := hb
  rw [show (hd.heap_1_39 w.params).lookup 518 = _ from by k_dflt k_is] at hb'
  injection hb' with hb'
  injection hb' with e1 e2 e3 e4
  injection e3 with e3
  injection e3 with f1 f2 f3 f4 f5 f6 f7 f8 f9 f10 f11 f12 f13 f14
  injection f4 with f4
  subst f4 f5 f2 f12 f13
  clear hb f1 f3 f6 f7 f8 f9 f10 f11 f14 e1 e2 e4
  (try simp only [List.drop, List.take])
  simp only [List.drop, List.take] at hbd
  injection hbd with hbd
  injection hbd with b1 b2 b3 b4 b5
  injection b1 with b1 b6
  subst b1 b3
  (try simp only [List.drop, List.take])
  replace F := fr_chain hm2 F
  replace F := fr_chain (x := "pairs") (v := .ref lx) ((if_neg (by decide)).trans hm1) F
  have em := (chain_eq (m := fun y => if y = ("due" : Str) then some (.ref du) else m y) (x := "pairs") (v := .ref lx) ((if_neg (by decide)).trans hm1)).trans (chain_eq hm2)
  k_steps
  unfold Stopped
  (k_dflt (refine' comp_eval (cl := _) ?pF _ _ (fun _ _ _ => False) ?pcl ?pce ?pki ?pnm ?pB Passes.never ?_ ?phs; (case pF => k_asm); (case pcl => with_unfolding_all rfl); (case pce => decide); (case pki => rfl); (case pnm => decide); (case pB => (refine' binds_two ?b1 ?b2 ?b3 ?b4 ?b5; (case b1 => rfl); (case b2 => rfl); (case b3 => rfl); (case b4 => rfl); (case b5 => decide))); (case phs => intro _; rfl)))
  k_steps
  have hvl := hps.length
  refine CompIn.intro (news := (du, lstO ds dn) :: rest) (fun i ys nw => ys.length = i ∧ NumPairs (newer ((du, lstO ds dn) :: rest) nw) ys (settled V (ps.take i))) (by rfl) (by k_asm) (by k_asm) (.inl (by k_mem)) (by rw [sizeLine_eq]; omega) ⟨rfl, .nil⟩ (fun i ys _ h => Nat.le_of_eq h.1) ?_ ?_ ?_
  · intro v hv news' hsub
    refine sealG fun pS hS9 => ?_
    obtain ⟨j, hj⟩ := List.getElem?_of_mem hv
    obtain ⟨q, _, hq⟩ := hps.get hj
    refine hS9 ?_
    clear hS9 pS
    exact pair_name (hq.mono fun p hp => hsub p (List.mem_cons_of_mem _ hp))
  · intro g8 i v ys news' I8 oI C8 oC D8 m₂ h8 tk8 hi hJ hsub hlt hC hB F8 N8 o8 d8
    refine sealG fun pS hS9 => ?_
    obtain ⟨q, hqi, ax, n9, t, pv, rfl, hm, hpart⟩ := hps.get hi
    obtain ⟨x1, x2, ⟨ax', n', e9, hm'⟩, y1, y2⟩ := hB
    refine hS9 ?_
    clear hS9 pS
    cases e9
    have e10 := (N8 _ (List.mem_cons_of_mem _ (List.mem_cons_of_mem _ (List.mem_cons_of_mem _ hm')))).1.symm.trans (N8 _ (List.mem_cons_of_mem _ (List.mem_cons_of_mem _ (List.mem_cons_of_mem _ (hsub _ (List.mem_cons_of_mem _ hm)))))).1
    obtain ⟨rfl, rfl⟩ : x1 = .str q.1 t ∧ x2 = pv := by simpa using tup_inj e10
    have hdq := hnd q (List.mem_of_getElem? hqi)
    have wV := hsub _ (List.mem_cons_of_mem _ hVl)
    have hduD : @LT.lt Nat _ du D8 := hlt _ List.mem_cons_self
    rcases hp2 : q.2 with z | _ | _
    · rw [hp2] at hpart hdq
      obtain ⟨tz, rfl⟩ := hpart
      rw [List.forIn_nil]
      refine wpAny_pure ?_
      rw [if_pos rfl]
      k_steps
      refine turn_more [_] rfl (by k_asm) (by k_asm) (by simp only [List.mem_singleton, forall_eq]; omega) o8 ⟨by rw [List.length_append, hJ.1]; rfl, numPairs_more (z := z) hJ.2 ?_ (mem_newer.mpr ⟨List.mem_cons_self, ?_⟩) hqi (by rw [hp2]; rfl)⟩
      · exact fun p hp => mem_newer.mpr ⟨List.mem_append_right _ (mem_newer.mp hp).1, (mem_newer.mp hp).2⟩
      · intro q9 hq9
        exact Nat.lt_trans (hlt q9 hq9) (by dsimp only; omega)
    · rw [hp2] at hpart hdq
      refine sealG fun pS hS9 => ?_
      obtain ⟨az, nz, tz1, tz2, tz3, rfl, hmz⟩ := hpart
      refine hS9 ?_
      clear hS9 pS
      have v7 := hsub _ (List.mem_cons_of_mem _ hmz)
      rw [List.forIn_nil]
      refine wpAny_pure ?_
      rw [if_pos rfl]
      k_steps
      refine turn_more [_] rfl (by k_asm) (by k_asm) (by simp only [List.mem_singleton, forall_eq]; omega) o8 ⟨by rw [List.length_append, hJ.1]; rfl, numPairs_more (z := V) hJ.2 ?_ (mem_newer.mpr ⟨List.mem_cons_self, ?_⟩) hqi (by rw [hp2]; rfl)⟩
      · exact fun p hp => mem_newer.mpr ⟨List.mem_append_right _ (mem_newer.mp hp).1, (mem_newer.mp hp).2⟩
      · intro q9 hq9
        exact Nat.lt_trans (hlt q9 hq9) (by dsimp only; omega)
    · rw [hp2] at hdq
      cases hdq
  · intro g8 D8 h8 tk8 ys news' N8 o8 hsub hlt hord hJ h7 tk7 F9 N9
    have hduD : @LT.lt Nat _ du D8 := hlt _ List.mem_cons_self
    replace N9 := split_led N9 (List.mem_cons_of_mem _ (hsub _ List.mem_cons_self))
    have hnp : NumPairs (newer ((du, lstO ds dn) :: rest) (((D8, PyProof.Rows.LCg.lst ys) :: news').filter fun p => !(p.1 == du))) ys (settled V ps) := NumPairs.mono (fun p hp => mem_newer.mpr ⟨mem_but.mpr ⟨List.mem_cons_of_mem _ (mem_newer.mp hp).1, Nat.ne_of_gt ((mem_newer.mp hp).2 _ List.mem_cons_self)⟩, (mem_newer.mp hp).2⟩) (by have := hJ.2; rwa [List.take_of_length_le (by omega)] at this)
    obtain ⟨rest', hr⟩ : ∃ r, r = ((D8, PyProof.Rows.LCg.lst ys) :: news').filter fun p => !(p.1 == du) := ⟨_, rfl⟩
    rw [← hr] at N9 hnp
    have r1 : ∀ p ∈ rest', p.1 ≠ du := fun p hp => by rw [hr] at hp; exact (mem_but.mp hp).2
    have r2 : (D8, PyProof.Rows.LCg.lst ys) ∈ rest' := by rw [hr]; exact mem_but.mpr ⟨List.mem_cons_self, Nat.ne_of_gt hduD⟩
    have r3 : ∀ p ∈ rest, p ∈ rest' := fun p hp => by rw [hr]; exact mem_but.mpr ⟨List.mem_cons_of_mem _ (hsub _ (List.mem_cons_of_mem _ hp)), hdu p hp⟩
    have r4 : ∀ p ∈ rest', p ∈ rest ∨ ∀ q ∈ (du, lstO ds dn) :: rest, @LT.lt Nat _ q.1 p.1 := fun p hp => by
      rw [hr] at hp
      obtain ⟨hp, hpd⟩ := mem_but.mp hp
      rcases List.mem_cons.mp hp with rfl | hp
      · exact .inr hlt
      · rcases hord p hp with h | h
        · rcases List.mem_cons.mp h with rfl | h
          · exact absurd rfl hpd
          · exact .inl h
        · exact .inr fun q hq => Nat.lt_trans (hlt q hq) h
    have r5 := mem_newer.mpr ⟨r2, fun q hq => hlt q hq⟩
    clear hr hord hsub hlt o8 N8
    k_steps
    rename News g L _ (_ :: _) => N10
    rw [show ∀ D : Value, ds.toArray.push D = (ds ++ [D]).toArray from fun D => by simp] at N10
    exact hQ _ _ _ _ _ rest' (by rw [← em]; k_asm) N10 r3 r1 r4 r5 hnp
 · intro T x h; refine dropT ?zB ?zA; simpa only using (h : DropP ?zA x); assumption
end
section
example : True := by
  w_top off
  trivial
theorem sB15.hB15 : True := trivial
open sB15
variable {w : World} {p : Program} {loose : List Str} {mean : ExcName → Option Value} {mg mb : Str → Option Value}
theorem at_last {α : Type} {ds : List α} {x : α} : (ds ++ [x])[ds.length]? = some x := by simp
example : True := by
  k_with "callWith ref" =>
    (guard_expr hB15 = hB15)
    (k_here; k_dflt (first
      | refine' callWith_K (by first | ((k_asm); done) | fail "by") (by first | ((k_is); done) | fail "by") ?_; k_whole
      | refine' callWith_K0 (by first | ((k_in); done) | fail "by") (by first | ((k_is); done) | fail "by") ?_; k_whole))
  trivial
example : True := by
  k_with "call ref" =>
    (guard_expr hB15 = hB15)
    (k_here; k_dflt (first
      | (refine' call_cls0 (by first | ((k_asm); done) | fail "by") (by first | ((k_asm); done) | fail "by") (by first | ((k_asm); done) | fail "by") (by first | ((k_is); done) | fail "by") (by first | ((k_is); done) | fail "by") ?_; k_whole; intro x'ₖ d'ₖ h'ₖ F'ₖ N'ₖ l1ₖ l2ₖ; (try k_lt l1ₖ); (try k_lt2 l2ₖ); (try k_sweep))
      | (refine' call_cls (by first | ((k_asm); done) | fail "by") (by first | ((k_asm); done) | fail "by") (by first | ((k_asm); done) | fail "by") (by first | ((k_is); done) | fail "by") (by first | ((k_is); done) | fail "by") (by first | ((k_is); done) | fail "by") ?_; k_whole; intro x'ₖ d'ₖ h'ₖ F'ₖ N'ₖ l1ₖ l2ₖ; (try k_lt l1ₖ); (try k_lt2 l2ₖ); (try k_sweep); k_enter)
      | (refine wpAny_call ?_; k_enter)))
  trivial
example : True := by
  k_with "compareOp NotEq ref ref" =>
    (guard_expr hB15 = hB15)
    (k_here; k_dflt (refine' ne_empty (by first | ((exact ⟨_, (News.get (by k_asm) (by k_mem)), rfl, _, rfl⟩); done) | fail "by") (by first | ((exact ⟨_, (News.get (by k_asm) (by k_mem)), rfl, _, rfl⟩); done) | fail "by") (by first | ((ktr_units); done) | fail "by") ?_))
  trivial
example : True := by
  k_with "eval ListComp" =>
    (guard_expr hB15 = hB15)
    (k_here; refine stop_here ?_)
  trivial
theorem segFd {fa : Addr} {ql nm : Str} {pr : Arguments} {body : List Stmt} {sc : Scope} {dV kV doc pm cdv ct oc : Value} {an od : Option Addr} {osl : Array (Option Value)} (hb : (hd.heap_1_39 w.params).lookup 518 = some ⟨oc, od, .func (fnOf nm ql pr body sc dV kV doc pm an cdv ct), osl⟩)
    {g : Heap} {L : Addr} {m : Str → Option Value} {s : Shared} {Q : Flow → Shared → Prop} {E : Value → Shared → Prop}
    (K0 : Below callerA g [] g) (F : Fr g L s.heap m) (X : (hd.heap_1_39 w.params).In g) (T : Top p loose mean mg mb g) (l0 : @LT.lt Nat _ 515 L)
    (x : Str) (px : Pos) (iter : Expr) (bd : List Stmt) (pos : Pos) (hbd : (body.drop 16).take 1 = [.For (.Name x px) iter bd [] pos])
    {du D : Addr} {ds ys : List Value} {dn yn : Nat} {rest : Led} {np : List (Str × Int)} (N : News g L s.heap ((du, lstO (ds ++ [.ref D]) dn) :: rest)) (hdu : ∀ p ∈ rest, p.1 ≠ du)
    (hD : (D, lstO ys yn) ∈ rest) (hnp : NumPairs rest ys np) (hl : np.length ≤ 2) (hds : ds.length ≤ 100) (hm : m "due" = some (.ref du))
    (hQ1 : ¬ (∀ q ∈ np, 1 ≤ q.2 ∧ q.2 ≤ 5) → ∀ h' tk', Fr g L h' (fun y => if y = "due" then some .none else m y) → News g L h' ((du, lstO (ds ++ [.ref D]) dn) :: rest) → Q .brk { s with heap := h', toks := tk' })
    (hQ2 : (∀ q ∈ np, 1 ≤ q.2 ∧ q.2 ≤ 5) → ∀ h' tk', Fr g L h' m → News g L h' ((du, lstO (ds ++ [.ref D]) dn) :: rest) → Q .next { s with heap := h', toks := tk' }) : wpAny (model PR w) (callerA.deeper (envOfC ql sc L fa cdv)) (execs ((bd.drop 3).take 1) (envOfC ql sc L fa cdv)) Q E s := by
 refine @dropI _ ?_ ?_
 ·
  have hb' := hb
  rw [show (hd.heap_1_39 w.params).lookup 518 = _ from by k_dflt k_is] at hb'
  injection hb' with hb'
  injection hb' with e1 e2 e3 e4
  injection e3 with e3
  injection e3 with f1 f2 f3 f4 f5 f6 f7 f8 f9 f10 f11 f12 f13 f14
  injection f4 with f4
  subst f4 f5 f2 f12 f13
  clear hb f1 f3 f6 f7 f8 f9 f10 f11 f14 e1 e2 e4
  (try simp only [List.drop, List.take])
  simp only [List.drop, List.take] at hbd
  injection hbd with hbd
  injection hbd with b1 b2 b3 b4 b5
  injection b1 with b1 b6
  subst b1 b3
  (try simp only [List.drop, List.take])
  replace F := fr_chain hm F
  k_steps
  unfold Stopped
  (k_dflt (refine' comp_eval (cl := _) ?pF _ _ (fun _ _ _ => False) ?pcl ?pce ?pki ?pnm ?pB Passes.never ?_ ?phs; (case pF => k_asm); (case pcl => with_unfolding_all rfl); (case pce => decide); (case pki => rfl); (case pnm => decide); (case pB => (refine' binds_two ?b1 ?b2 ?b3 ?b4 ?b5; (case b1 => rfl); (case b2 => rfl); (case b3 => rfl); (case b4 => rfl); (case b5 => decide))); (case phs => intro _; rfl)))
  k_steps
  k_steps
  ((with_reducible show wpAny _ _ (subscriptTail _ _ (Value.ref _) (Value.int _ _)) _ _ _); k_dflt (refine' kde_neg (j := ds.length) ?kdl ?kd0 ?kdf ?kdj ?kdx ?_; (case kdl => exact ⟨_, (News.get (by k_asm) (by k_mem)), rfl, _, rfl⟩); (case kd0 => decide); (case kdf => decide); (case kdj => simp [seqIndex?]; try omega); (case kdx => exact at_last)))
  k_steps
  have hvl := hnp.length
  refine CompIn.intro (news := (du, lstO (ds ++ [.ref D]) dn) :: rest) (fun i zs nw => nw = (du, lstO (ds ++ [.ref D]) dn) :: rest ∧ zs.length ≤ i ∧ (zs = [] ↔ ((np.map fun q => !(decide (1 ≤ q.2) && decide (q.2 ≤ 5))).take i).any id = false)) (by rfl) (by k_asm) (by k_asm) (.inl (by k_mem)) (by rw [sizeLine_eq]; omega) ⟨rfl, Nat.le_refl _, by simp⟩ (fun i ys _ h => h.2.1) ?_ ?_ ?_
  · intro v hv news' hsub
    refine sealG fun pS hS9 => ?_
    obtain ⟨j, hj⟩ := List.getElem?_of_mem hv
    obtain ⟨q, _, a, n, t, t2, e, hm⟩ := hnp.get hj
    refine hS9 ?_
    clear hS9 pS
    exact ⟨_, _, a, n, e, hsub _ (List.mem_cons_of_mem _ hm)⟩
  · intro g8 i v zs news' I8 oI C8 oC D8 m₂ h8 tk8 hi hR149 hsub hlt hC hB F8 N8 o8 d8
    obtain ⟨hJe, hJ⟩ := hR149
    subst hJe
    refine sealG fun pS hS9 => ?_
    obtain ⟨q, hqi, ax, n9, t, t2, rfl, hm⟩ := hnp.get hi
    obtain ⟨x1, x2, ⟨ax', n', e9, hm'⟩, y1, y2⟩ := hB
    refine hS9 ?_
    clear hS9 pS
    cases e9
    have e10 := (N8 _ (List.mem_cons_of_mem _ (List.mem_cons_of_mem _ (List.mem_cons_of_mem _ hm')))).1.symm.trans (N8 _ (List.mem_cons_of_mem _ (List.mem_cons_of_mem _ (List.mem_cons_of_mem _ (List.mem_cons_of_mem _ hm))))).1
    obtain ⟨rfl, rfl⟩ : x1 = .str q.1 t ∧ x2 = .int q.2 t2 := by simpa using tup_inj e10
    have hst := any_more (rs := np.map fun q => !(decide (1 ≤ q.2) && decide (q.2 ≤ 5))) (i := i) (b := !(decide (1 ≤ q.2) && decide (q.2 ≤ 5))) (by rw [List.getElem?_map, hqi]; rfl)
    refine wpAny_tests_one ?_
    k_steps
    all_goals (first | (exact ⟨_, _, _, rfl, by k_asm, news_sub (by k_asm) (by intro p9 h9; first | k_mem | (simp only [List.mem_cons] at h9 ⊢; simp only [h9, or_true])), by assumption, fun _ h => h, fun _ h => .inl h, ⟨rfl, filt_no hJ hst (by simp; omega)⟩⟩) | (exact ⟨_, _, _, rfl, by k_asm, news_sub (by k_asm) (by intro p9 h9; first | k_mem | (simp only [List.mem_cons] at h9 ⊢; simp only [h9, or_true])), by assumption, fun _ h => h, fun _ h => .inl h, ⟨rfl, filt_yes hJ hst (by simp; omega)⟩⟩))
  · intro g8 D8 h8 tk8 zs news' N8 o8 hsub hlt hord hR119 h7 tk7 F9 N9
    obtain ⟨hJe, hJ⟩ := hR119
    subst hJe
    have hq : zs = [] ↔ ∀ q ∈ np, 1 ≤ q.2 ∧ q.2 ≤ 5 := by
      have h := hJ.2
      rw [hvl, List.take_of_length_le (by simp), List.any_map] at h
      rw [h, List.any_eq_false]
      simp
    k_steps
    · exact hQ2 (hq.mp (List.isEmpty_iff.mp (by assumption))) _ _ (by rw [← chain_eq hm]; k_asm) (news_sub (by k_asm) (by (intro p9 hp9; repeat' (first | exact hp9 | refine List.mem_cons_of_mem _ ?_ | refine List.mem_append_right _ ?_))))
    · refine hQ1 ?_ _ _ ?_ (news_sub (by k_asm) (by (intro p9 hp9; repeat' (first | exact hp9 | refine List.mem_cons_of_mem _ ?_ | refine List.mem_append_right _ ?_))))
      · intro h9
        have h8 := hq.mpr h9
        subst h8
        rename List.isEmpty _ = _ => h7
        cases h7
      · rw [← chain_eq hm]; k_asm
 · intro T x h; refine dropT ?zB ?zA; simpa only using (h : DropP ?zA x); assumption
end
section
example : True := by
  w_top off
  trivial
variable {w : World} {p : Program} {loose : List Str} {mean : ExcName → Option Value} {mg mb : Str → Option Value}
theorem execs_at {M : Model} {A : Around} {env : Env} {bd : List Stmt} {Q : Flow → Shared → Prop} {E : Value → Shared → Prop} {s : Shared} (k n : Nat)
    (h : wpAny M A (execs ((bd.drop k).take n) env) (fun f s' => match f with | .next => wpAny M A (execs (bd.drop (k + n)) env) Q E s' | f => Q f s') E s) : wpAny M A (execs (bd.drop k) env) Q E s := by
  rw [← List.take_append_drop n (bd.drop k), List.drop_drop]
  exact execs_app h
theorem segFturn {fa : Addr} {ql nm : Str} {pr : Arguments} {body : List Stmt} {sc : Scope} {dV kV doc pm cdv ct oc : Value} {an od : Option Addr} {osl : Array (Option Value)} (hb : (hd.heap_1_39 w.params).lookup 518 = some ⟨oc, od, .func (fnOf nm ql pr body sc dV kV doc pm an cdv ct), osl⟩)
    {g : Heap} {L : Addr} {m : Str → Option Value} {s : Shared} {Q : Flow → Shared → Prop} {E : Value → Shared → Prop}
    (K0 : Below callerA g [] g) (F : Fr g L s.heap m) (X : (hd.heap_1_39 w.params).In g) (T : Top p loose mean mg mb g) (l0 : @LT.lt Nat _ 515 L)
    (x : Str) (px : Pos) (iter : Expr) (bd : List Stmt) (pos : Pos) (hbd : (body.drop 16).take 1 = [.For (.Name x px) iter bd [] pos])
    {W du lx : Addr} {oV oW : Obj} {V : Int} {tV : Tok} {ds vs : List Value} {dn n : Nat} {I : Addr} {oI : Obj} {rest0 : Led} {ps : List (Str × Part)} {lt : Bool} (hb4 : bd.drop 4 = []) (N : News g L s.heap ((du, lstO ds dn) :: (I, oI) :: rest0)) (hdu : ∀ p ∈ (I, oI) :: rest0, p.1 ≠ du) (hI : ∀ p ∈ rest0, p.1 ≠ I)
    (hVo : oV.data = .cell (some (.int V tV))) (hVl : (L + 3, oV) ∈ rest0) (hWo : oW.data = .cell (some (.ref W))) (hWl : (L + 1, oW) ∈ rest0) (hlx : (lx, lstO vs n) ∈ rest0) (hps : All2 (PairAt W rest0) vs ps) (hl : ps.length ≤ 2) (hds : ds.length ≤ 99)
    (hm1 : m "pairs" = some (.ref lx)) (hm2 : m "due" = some (.ref du)) (hm3 : m "is_late" = some (.bool lt))
    (hC : ∀ f, (f = .next ∨ f = .cont) → ∀ h' tk' m' dv dn' rest', Fr g L h' m' → m' "due" = some (.ref du) → m' "is_late" = some (.bool (lt || (!hasDisc ps && ps.any fun q => q.2.isTup))) → (∀ y : Str, y ≠ "due" → y ≠ "is_late" → m' y = m y) → News g L h' ((du, lstO (ds ++ [dv]) dn') :: rest') → (∀ p ∈ (I, oI) :: rest0, p ∈ rest') → (∀ p ∈ rest', p.1 ≠ du) → (∀ p ∈ rest', p ∈ (I, oI) :: rest0 ∨ ∀ q ∈ (du, lstO ds dn) :: (I, oI) :: rest0, @LT.lt Nat _ q.1 p.1) → DueAt V W (rest'.filter fun p => !(p.1 == I)) dv ps → (hasDisc ps = true ∨ inFew V ps) → Q f { s with heap := h', toks := tk' })
    (hB : hasDisc ps = false → ¬ inFew V ps → ∀ h' tk' m' dv dn' rest' lt', Fr g L h' m' → m' "due" = some .none → m' "is_late" = some (.bool lt') → (∀ y : Str, y ≠ "due" → y ≠ "is_late" → m' y = m y) → News g L h' ((du, lstO (ds ++ [dv]) dn') :: rest') → (∀ p ∈ (I, oI) :: rest0, p ∈ rest') → (∀ p ∈ rest', p ∈ (I, oI) :: rest0 ∨ ∀ q ∈ (du, lstO ds dn) :: (I, oI) :: rest0, @LT.lt Nat _ q.1 p.1) → Q .brk { s with heap := h', toks := tk' }) : wpAny (model PR w) (callerA.deeper (envOfC ql sc L fa cdv)) (execs bd (envOfC ql sc L fa cdv)) Q E s := by
 refine @dropI _ ?_ ?_
 ·
  show wpAny _ _ (execs (bd.drop 0) _) _ _ _
  have up : ∀ p ∈ rest0, p ∈ (I, oI) :: rest0 := fun p hp => List.mem_cons_of_mem _ hp
  have hps' : All2 (PairAt W ((I, oI) :: rest0)) vs ps := hps.imp fun _ _ h => h.mono up
  refine execs_at 0 1 ?_
  refine segFa hb K0 F X T l0 x px iter bd pos hbd N hdu hWo (up _ hWl) (up _ hlx) hps' hl (by omega) hm1 hm2 (fun hd h1 tk1 F1 N1 => ?_) (fun hd h1 tk1 F1 N1 => ?_)
  · refine hC .cont (.inr rfl) _ _ m _ _ _ F1 hm2 ?_ (fun _ _ _ => rfl) N1 (fun _ h => h) hdu (fun _ h => .inl h) ⟨fun _ => ⟨lx, n, vs, rfl, mem_but.mpr ⟨up _ hlx, hI _ hlx⟩, hps.imp fun _ _ h => h.mono fun p hp => mem_but.mpr ⟨up _ hp, hI _ hp⟩⟩, fun h => (by rw [hd] at h; cases h)⟩ (.inl hd)
    rw [hd, hm3]; simp
  dsimp only
  refine execs_at 1 1 ?_
  refine segFb hb K0 F1 X T l0 x px iter bd pos hbd N1 (List.mem_cons_of_mem _ (up _ hlx)) (hps'.imp fun _ _ h => h.mono fun p hp => List.mem_cons_of_mem _ hp) hl hm1 hm3 (fun h2 tk2 F2 N2 => ?_)
  dsimp only
  refine execs_at 2 1 ?_
  have hnd := noDisc_of hd
  refine segFc hb K0 F2 X T l0 x px iter bd pos hbd N2 hdu hVo (up _ hVl) (up _ hlx) hps' hl hnd (by omega) ((if_neg (by decide)).trans hm1) ((if_neg (by decide)).trans hm2) (fun h3 tk3 D ys yn rest' F3 N3 r1 r2 r3 r4 hnp => ?_)
  dsimp only
  refine execs_at 3 1 ?_
  have hsl : (settled V ps).length ≤ 2 := by simpa [settled] using hl
  have q4 := (mem_newer.mp r4).1
  have qnp : NumPairs rest' ys (settled V ps) := NumPairs.mono (fun p hp => (mem_newer.mp hp).1) hnp
  have toI : ∀ p ∈ newer ((du, lstO ds dn) :: (I, oI) :: rest0) rest', p ∈ rest'.filter fun p => !(p.1 == I) := fun p hp => mem_but.mpr ⟨(mem_newer.mp hp).1, Nat.ne_of_gt ((mem_newer.mp hp).2 (I, oI) (.tail _ List.mem_cons_self))⟩
  refine segFd hb K0 F3 X T l0 x px iter bd pos hbd N3 r2 q4 qnp hsl (by omega) ((if_neg (by decide)).trans hm2) (fun hbad h4 tk4 F4 N4 => ?_) (fun hgood h4 tk4 F4 N4 => ?_)
  · exact hB hd hbad _ _ _ _ _ rest' _ F4 (if_pos rfl) ((if_neg (by decide)).trans (if_pos rfl)) (fun y h1 h2 => by rw [if_neg h1, if_neg h2]) N4 r1 r3
  · dsimp only
    rw [hb4]
    refine wpAny_execs_nil ?_
    refine hC .next (.inl rfl) _ _ _ _ _ rest' F4 ((if_neg (by decide)).trans hm2) ?_ (fun y _ h2 => if_neg h2) N4 r1 r2 r3 ⟨fun h => (by rw [hd] at h; cases h), fun _ => ⟨D, yn, ys, rfl, toI _ r4, NumPairs.mono toI hnp⟩⟩ (.inr hgood)
    rw [if_pos rfl, hd]; simp
 · intro T x h; refine dropT ?zB ?zA; simpa only using (h : DropP ?zA x); assumption
end
section
example : True := by
  w_top off
  trivial
theorem sB17.hB17 : True := trivial
open sB17
variable {w : World} {p : Program} {loose : List Str} {mean : ExcName → Option Value} {mg mb : Str → Option Value}
example : True := by
  k_with "callWith ref" =>
    (guard_expr hB17 = hB17)
    (k_here; k_dflt (first
      | refine' callWith_K (by first | ((k_asm); done) | fail "by") (by first | ((k_is); done) | fail "by") ?_; k_whole
      | refine' callWith_K0 (by first | ((k_in); done) | fail "by") (by first | ((k_is); done) | fail "by") ?_; k_whole))
  trivial
example : True := by
  k_with "call ref" =>
    (guard_expr hB17 = hB17)
    (k_here; k_dflt (first
      | (refine' call_cls0 (by first | ((k_asm); done) | fail "by") (by first | ((k_asm); done) | fail "by") (by first | ((k_asm); done) | fail "by") (by first | ((k_is); done) | fail "by") (by first | ((k_is); done) | fail "by") ?_; k_whole; intro x'ₖ d'ₖ h'ₖ F'ₖ N'ₖ l1ₖ l2ₖ; (try k_lt l1ₖ); (try k_lt2 l2ₖ); (try k_sweep))
      | (refine' call_cls (by first | ((k_asm); done) | fail "by") (by first | ((k_asm); done) | fail "by") (by first | ((k_asm); done) | fail "by") (by first | ((k_is); done) | fail "by") (by first | ((k_is); done) | fail "by") (by first | ((k_is); done) | fail "by") ?_; k_whole; intro x'ₖ d'ₖ h'ₖ F'ₖ N'ₖ l1ₖ l2ₖ; (try k_lt l1ₖ); (try k_lt2 l2ₖ); (try k_sweep); k_enter)
      | (refine wpAny_call ?_; k_enter)))
  trivial
example : True := by
  k_with "exec For" =>
    (guard_expr hB17 = hB17)
    (k_here; refine stop_here ?_)
  trivial
example : True := by
  k_with "exec For Name Call cons nil" =>
    (guard_expr hB17 = hB17)
    (k_here; refine stop_here ?_)
  trivial
example : True := by
  k_with "exec For Name Name cons nil" =>
    (guard_expr hB17 = hB17)
    (k_here; refine stop_here ?_)
  trivial
inductive DueJ (V : Int) (W du : Addr) (m : Str → Option Value) (qs : List (List (Str × Part))) (led : Led) (i : Nat) (m' : Str → Option Value) (led' : Led) : Prop
  | mk (ds : List Value) (dn : Nat) (rest' : Led) (c09 : led' = (du, lstO ds dn) :: rest') (c19 : ds.length = i) (c29 : (∀ p ∈ led, p ∈ rest')) (c39 : (∀ p ∈ rest', p.1 ≠ du)) (c49 : (∀ p ∈ rest', p ∈ led ∨ ∀ q ∈ led, @LT.lt Nat _ q.1 p.1)) (c59 : All2 (DueAt V W rest') ds (qs.take i)) (c69 : (∀ q ∈ qs.take i, hasDisc q = true ∨ inFew V q)) (c79 : m' "due" = some (.ref du)) (c89 : m' "is_late" = some (.bool (lateB (qs.take i)))) (c99 : (∀ y : Str, y ≠ "due" → y ≠ "is_late" → y ≠ "pairs" → m' y = m y))
theorem lateB_snoc {qs : List (List (Str × Part))} {i : Nat} {q : List (Str × Part)} (h : qs[i]? = some q) : lateB (qs.take (i + 1)) = (lateB (qs.take i) || (!hasDisc q && q.any fun x => x.2.isTup)) := by
  rw [take_snoc h]
  simp [lateB]
theorem segF {fa : Addr} {ql nm : Str} {pr : Arguments} {body : List Stmt} {sc : Scope} {dV kV doc pm cdv ct oc : Value} {an od : Option Addr} {osl : Array (Option Value)} (hb : (hd.heap_1_39 w.params).lookup 518 = some ⟨oc, od, .func (fnOf nm ql pr body sc dV kV doc pm an cdv ct), osl⟩)
    {g : Heap} {L : Addr} {m : Str → Option Value} {s : Shared} {Q : Flow → Shared → Prop} {E : Value → Shared → Prop}
    (K0 : Below callerA g [] g) (F : Fr g L s.heap m) (X : (hd.heap_1_39 w.params).In g) (T : Top p loose mean mg mb g) (l0 : @LT.lt Nat _ 515 L)
    {W du tl : Addr} {oV oW : Obj} {V : Int} {tV : Tok} {ts : List Value} {tn : Nat} {led : Led} {qs : List (List (Str × Part))} (hE : PassesOwn (model PR w) (callerA.deeper (envOfC ql sc L fa cdv)) (envOfC ql sc L fa cdv) E)
    (N : News g L s.heap ((du, lstO [] 0) :: led)) (hdu : ∀ q ∈ led, @LT.lt Nat _ q.1 du)
    (hVo : oV.data = .cell (some (.int V tV))) (hVl : (L + 3, oV) ∈ led) (hWo : oW.data = .cell (some (.ref W))) (hWl : (L + 1, oW) ∈ led) (htl : (tl, lstO ts tn) ∈ led) (hts : All2 (PairsAt W led) ts qs) (hql : qs.length ≤ 5) (hq2 : ∀ q ∈ qs, q.length ≤ 2)
    (hm1 : m "told" = some (.ref tl)) (hm2 : m "due" = some (.ref du)) (hm3 : m "is_late" = some (.bool false))
    (hQ : ∀ h' tk' m' dv lt led', Fr g L h' m' → m' "due" = some dv → m' "is_late" = some (.bool lt) → (∀ y : Str, y ≠ "due" → y ≠ "is_late" → y ≠ "pairs" → m' y = m y) → News g L h' led' → (∀ p ∈ led, p ∈ led') → (∀ p ∈ led', p ∈ led ∨ ∀ q ∈ led, @LT.lt Nat _ q.1 p.1) →
      ((dv = .none ∧ ∃ q ∈ qs, hasDisc q = false ∧ ¬ inFew V q) ∨ (lt = lateB qs ∧ (∀ q ∈ qs, hasDisc q = true ∨ inFew V q) ∧ ∃ dl ds dn, dv = .ref dl ∧ (dl, lstO ds dn) ∈ led' ∧ All2 (DueAt V W led') ds qs)) → Q .next { s with heap := h', toks := tk' }) : wpAny (model PR w) (callerA.deeper (envOfC ql sc L fa cdv)) (execs ((body.drop 16).take 1) (envOfC ql sc L fa cdv)) Q E s := by
 refine @dropI _ ?_ ?_
 ·
  have hb0 := hb
  have hb' := hb
  rw [show (hd.heap_1_39 w.params).lookup 518 = _ from by k_dflt k_is] at hb'
  injection hb' with hb'
  injection hb' with e1 e2 e3 e4
  injection e3 with e3
  injection e3 with f1 f2 f3 f4 f5 f6 f7 f8 f9 f10 f11 f12 f13 f14
  injection f4 with f4
  subst f4 f5 f2 f12 f13
  clear hb f1 f3 f6 f7 f8 f9 f10 f11 f14 e1 e2 e4
  (try simp only [List.drop, List.take])
  replace F := fr_chain hm1 F
  k_steps
  unfold Stopped
  k_dflt (refine' for_list ?oF ?oL ?ox ?op ?_ ?os ?oE; (case oF => k_asm); (case oL => exact rfl); (case ox => rfl); (case op => rfl); (case os => intro _; rfl); (case oE => exact hE))
  k_steps
  rw [chain_eq hm1] at F
  have htq := hts.length
  refine ⟨tl, ts, tn, m, _, DueJ V W du m qs led, rfl, rfl, F, N, ⟨[], 0, led, rfl, rfl, fun _ h => h, fun p hp => Nat.ne_of_lt (hdu p hp), fun _ h => .inl h, .nil, (fun q h => nomatch h), hm2, hm3, fun _ _ _ _ => rfl⟩, ?_, ?_, ?_⟩
  · intro i m' led' hR39
    refine sealG fun pS hS9 => ?_
    obtain ⟨ds, dn, rest', rfl, _, h1, _⟩ := hR39
    refine hS9 ?_
    clear hS9 pS
    exact List.mem_cons_of_mem _ (h1 _ htl)
  · intro i v m₁ led' I oI h8 tk8 hi hR99 hI8 F8 N8 off
    refine sealG fun pS hS9 => ?_
    obtain ⟨ds, dn, rest', rfl, hdl, j1, j2, j3, j4, j5, j6, j7, j8⟩ := hR99
    obtain ⟨ps, hqi, lx, n, vs, rfl, hlx, hps⟩ := hts.get hi
    refine hS9 ?_
    clear hS9 pS
    have hi5 : i < 5 := by have := (List.getElem?_eq_some_iff.mp hqi).1; omega
    have hduI : @LT.lt Nat _ du I := hI8 _ List.mem_cons_self
    have hmem : ∀ p, p ∈ led → p ∈ rest' := j1
    replace N8 : News g L h8 ((du, lstO ds dn) :: (I, oI) :: rest') := news_sub N8 fun p hp => by
      simp only [List.mem_cons] at hp ⊢
      rcases hp with h | h | h <;> simp only [h, true_or, or_true]
    refine' segFturn hb0 K0 F8 X T l0 ?tx ?tpx ?titer ?tbd ?tpos ?hbd (V := V) (ps := ps) (lt := lateB (qs.take i)) ?hb4 N8 ?hdu' (fun p hp => off p (List.mem_cons_of_mem _ hp)) hVo (j1 _ hVl) hWo (j1 _ hWl) (j1 _ hlx) (hps.imp fun _ _ h => h.mono j1) (hq2 _ (List.mem_of_getElem? hqi)) (by omega) (if_pos rfl) ((if_neg (by decide)).trans j6) ((if_neg (by decide)).trans j7) ?hC ?hBk
    case hbd => rfl
    case hb4 => rfl
    case hdu' =>
      intro p hp
      rcases List.mem_cons.mp hp with rfl | hp
      · exact Nat.ne_of_gt hduI
      · exact j2 p hp
    case hC =>
      intro f hf h' tk' m' dv dn' r2 F' e1 e2 e3 N' s1 s2 s3 hD hg
      have fin : ForEnd g L s I oI (DueJ V W du m qs led (i + 1)) { s with heap := h', toks := tk' } := by
        have up : ∀ p ∈ rest', p ∈ r2.filter fun p => !(p.1 == I) := fun p hp => mem_but.mpr ⟨s1 p (List.mem_cons_of_mem _ hp), off p (List.mem_cons_of_mem _ hp)⟩
        refine ⟨h', tk', m', (du, lstO (ds ++ [dv]) dn') :: r2.filter (fun p => !(p.1 == I)), rfl, F', news_sub N' fun p hp => ?_, fun p hp => ?_, ds ++ [dv], dn', _, rfl, by simp [hdl], fun p hp => up p (j1 p hp), fun p hp => s2 p (mem_but.mp hp).1, fun p hp => ?_, ?_, ?_, e1, ?_, ?_⟩
        · simp only [List.mem_cons] at hp ⊢
          rcases hp with h | h | h
          · exact .inr (by rw [h]; exact s1 _ List.mem_cons_self)
          · exact .inl h
          · exact .inr (mem_but.mp h).1
        · rcases List.mem_cons.mp hp with rfl | hp
          · exact Nat.ne_of_lt hduI
          · exact (mem_but.mp hp).2
        · obtain ⟨hp, hpI⟩ := mem_but.mp hp
          rcases s3 p hp with h | h
          · rcases List.mem_cons.mp h with rfl | h
            · exact absurd rfl hpI
            · exact j3 p h
          · exact .inr fun q hq => h q (.tail _ (.tail _ (j1 q hq)))
        · rw [take_snoc hqi]
          exact (j4.imp fun _ _ h => h.mono up).snoc hD
        · rw [take_snoc hqi]
          intro q hq
          rcases List.mem_append.mp hq with h | h
          · exact j5 q h
          · rw [List.mem_singleton.mp h]; exact hg
        · rw [e2, lateB_snoc hqi]
        · intro y h1 h2 h3
          rw [e3 y h1 h2, if_neg h3, j8 y h1 h2 h3]
      rcases hf with rfl | rfl <;> exact fin
    case hBk =>
      intro hd hbad h' tk' m' dv dn' r2 lt' F' e1 e2 e3 N' s1 s3
      (try dsimp only)
      refine wpAny_execs_nil ?_
      refine hQ h' tk' m' .none lt' r2 F' e1 e2 (fun y h1 h2 h3 => by rw [e3 y h1 h2, if_neg h3, j8 y h1 h2 h3]) (news_sub N' fun p hp => List.mem_cons_of_mem _ hp) (fun p hp => s1 p (List.mem_cons_of_mem _ (j1 p hp))) (fun p hp => ?_) (.inl ⟨rfl, ps, List.mem_of_getElem? hqi, hd, hbad⟩)
      rcases s3 p hp with h | h
      · rcases List.mem_cons.mp h with rfl | h
        · exact .inr fun q hq => hI8 q (List.mem_cons_of_mem _ hq)
        · exact j3 p h
      · exact .inr fun q hq => h q (.tail _ (.tail _ (j1 q hq)))
  · intro m₁ led' h8 tk8 hR49 F8 N8
    refine sealG fun pS hS9 => ?_
    obtain ⟨ds, dn, rest', e, hdl, j1, j2, j3, j4, j5, j6, j7, j8⟩ := hR49
    refine hS9 ?_
    clear hS9 pS
    subst e
    rw [htq, List.take_length] at j4 j5 j7
    (try dsimp only)
    refine wpAny_execs_nil ?_
    refine hQ h8 tk8 m₁ (.ref du) (lateB qs) _ F8 j6 j7 j8 N8 (fun p hp => List.mem_cons_of_mem _ (j1 p hp)) (fun p hp => ?_) (.inr ⟨rfl, j5, du, ds, dn, rfl, List.mem_cons_self, j4.imp fun _ _ h => h.mono fun p hp => List.mem_cons_of_mem _ hp⟩)
    rcases List.mem_cons.mp hp with rfl | hp
    · exact .inr hdu
    · exact j3 p hp
 · intro T x h; refine dropT ?zB ?zA; simpa only using (h : DropP ?zA x); assumption
end
section
example : True := by
  w_top off
  trivial
theorem sB18h.hB18h : True := trivial
open sB18h
variable {w : World} {p : Program} {loose : List Str} {mean : ExcName → Option Value} {mg mb : Str → Option Value}
example : True := by
  k_with "callWith ref" =>
    (guard_expr hB18h = hB18h)
    (k_here; k_dflt (first
      | refine' callWith_K (by first | ((k_asm); done) | fail "by") (by first | ((k_is); done) | fail "by") ?_; k_whole
      | refine' callWith_K0 (by first | ((k_in); done) | fail "by") (by first | ((k_is); done) | fail "by") ?_; k_whole))
  trivial
example : True := by
  k_with "call ref" =>
    (guard_expr hB18h = hB18h)
    (k_here; k_dflt (first
      | (refine' call_cls0 (by first | ((k_asm); done) | fail "by") (by first | ((k_asm); done) | fail "by") (by first | ((k_asm); done) | fail "by") (by first | ((k_is); done) | fail "by") (by first | ((k_is); done) | fail "by") ?_; k_whole; intro x'ₖ d'ₖ h'ₖ F'ₖ N'ₖ l1ₖ l2ₖ; (try k_lt l1ₖ); (try k_lt2 l2ₖ); (try k_sweep))
      | (refine' call_cls (by first | ((k_asm); done) | fail "by") (by first | ((k_asm); done) | fail "by") (by first | ((k_asm); done) | fail "by") (by first | ((k_is); done) | fail "by") (by first | ((k_is); done) | fail "by") (by first | ((k_is); done) | fail "by") ?_; k_whole; intro x'ₖ d'ₖ h'ₖ F'ₖ N'ₖ l1ₖ l2ₖ; (try k_lt l1ₖ); (try k_lt2 l2ₖ); (try k_sweep); k_enter)
      | (refine wpAny_call ?_; k_enter)))
  trivial
inductive ConRow (D : Led → Value → List (Str × Part) → Prop) (led : Led) (v : Value) (q : List (Str × Part)) : Prop
  | mk (a n nv Sx dSx es nS c nc t lx : _) (c09 : v = .ref a) (c19 : (a, tupO [nv, .ref Sx, .none] n) ∈ led) (c29 : Inst led Sx 222 dSx es nS) (c39 : getL "constraint" es = some (some (.ref c))) (c49 : (c, tupO [.str "discs" t, .ref lx] nc) ∈ led) (c59 : D led (.ref lx) q)
example : True := by
  k_with "subscriptTail" =>
    (guard_expr hB18h = hB18h)
    (k_here; (with_reducible show wpAny _ _ (subscriptTail _ _ (Value.ref _) (Value.int _ _)) _ _ _); k_dflt (first | (refine' sub_tup (by first | ((k_asm); done) | fail "by") (by first | ((k_mem); done) | fail "by") (by first | ((decide); done) | fail "by") (by first | ((decide); done) | fail "by") (by first | ((exact rfl); done) | fail "by") ?_) | (refine' kda_item (knd := PySem.intKind PR w) (k := 32) (by first | ((k_asm); done) | fail "by") (by first | ((k_mem); done) | fail "by") (by first | ((assumption); done) | fail "by") (intKind_is _ _ _ _) (by first | ((rfl); done) | fail "by") ?_)))
  trivial
example : True := by
  k_with "exec Assign cons ListComp" =>
    (guard_expr hB18h = hB18h)
    (k_here; refine stop_here ?_)
  trivial
theorem segGh {fa : Addr} {ql nm : Str} {pr : Arguments} {body : List Stmt} {sc : Scope} {dV kV doc pm cdv ct oc : Value} {an od : Option Addr} {osl : Array (Option Value)} (hb : (hd.heap_1_39 w.params).lookup 518 = some ⟨oc, od, .func (fnOf nm ql pr body sc dV kV doc pm an cdv ct), osl⟩)
    {g : Heap} {L : Addr} {m : Str → Option Value} {s : Shared} {Q : Flow → Shared → Prop} {E : Value → Shared → Prop}
    (K0 : Below callerA g [] g) (F : Fr g L s.heap m) (X : (hd.heap_1_39 w.params).In g) (T : Top p loose mean mg mb g) (l0 : @LT.lt Nat _ 515 L)
    (tb : List Stmt) (hs : List ExceptHandler) (pos : Pos) (hbd : (body.drop 17).take 1 = [.Try tb hs [] [] pos])
    {R dR K dK Fm dFm dTy x dx lc : Addr} {oTy : Obj} {esR esK esFm esx : List DictEntry} {nR nK nFm nx n : Nat} {vs : List Value} {led : Led} {qs : List (List (Str × Part))} {D : Led → Value → List (Str × Part) → Prop} (N : News g L s.heap led) (hR : Inst led R 159 dR esR nR) (hTA : getL "task" esR = some (some (.ref K)) ∧ Inst led K 501 dK esK nK ∧ getL "frame" esK = some (some (.ref Fm)) ∧ Inst led Fm 138 dFm esFm nFm ∧ getL "types" esFm = some (some (.ref dTy)))
    (hTy : oTy.IsDictOf (intKind PR w) [(32, .ref x)]) (hTl : (dTy, oTy) ∈ led) (hx : Inst led x 201 dx esx nx) (hlc : getL "components" esx = some (some (.ref lc))) (hll : (lc, lstO vs n) ∈ led) (hrs : All2 (ConRow D led) vs qs) (hqs : qs.length ≤ 100) (hm : m "run" = some (.ref R))
    (hQ : ∀ h' tk' D' xs n, Fr g L h' (fun y => if y = "heard" then some (.ref D') else m y) → News g L h' ((D', lstO xs n) :: led) → All2 (D led) xs qs → Q .next { s with heap := h', toks := tk' }) : wpAny (model PR w) (callerA.deeper (envOfC ql sc L fa cdv)) (execs ((tb.drop 1).take 1) (envOfC ql sc L fa cdv)) Q E s := by
 refine @dropI _ ?_ ?_
 ·
  have hb' := hb
  rw [show (hd.heap_1_39 w.params).lookup 518 = _ from by k_dflt k_is] at hb'
  injection hb' with hb'
  injection hb' with e1 e2 e3 e4
  injection e3 with e3
  injection e3 with f1 f2 f3 f4 f5 f6 f7 f8 f9 f10 f11 f12 f13 f14
  injection f4 with f4
  subst f4 f5 f2 f12 f13
  clear hb f1 f3 f6 f7 f8 f9 f10 f11 f14 e1 e2 e4
  (try simp only [List.drop, List.take])
  simp only [List.drop, List.take] at hbd
  injection hbd with hbd
  injection hbd with b1 b2 b3 b4 b5
  subst b1
  (try simp only [List.drop, List.take])
  replace F := fr_chain hm F
  refine sealG fun pS hS9 => ?_
  obtain ⟨r1, r2⟩ := hR
  obtain ⟨t1, ⟨t2, t3⟩, t4, ⟨t5, t6⟩, t7⟩ := hTA
  obtain ⟨x1, x2⟩ := hx
  refine hS9 ?_
  clear hS9 pS
  k_steps
  unfold Stopped
  (k_here; k_dflt (refine' comp_assign (cl := _) ?cF _ _ (fun _ _ _ => False) ?cL ?csw ?cclos ?ccell ?ckind ?cnm ?cy ?cp ?cB Passes.never ?_; (case cF => k_asm); (case cL => exact rfl); (case cclos => with_unfolding_all rfl); (case cB => (refine' binds_name ?bn1 ?bn2; (case bn1 => rfl); (case bn2 => rfl))); (case ckind => rfl); (case cnm => decide); (case ccell => decide); (case cy => rfl); (case cp => rfl); (case csw => kernel_rfl)))
  k_steps
  have hvl := hrs.length
  refine CompIn.intro (news := led) (fun i ys nw => nw = led ∧ ys.length = i ∧ All2 (D (led)) ys (qs.take i)) (by rfl) (by k_asm) (by k_asm) (.inl (by k_mem)) (by rw [sizeLine_eq]; omega) ⟨rfl, rfl, .nil⟩ (fun i ys _ h => Nat.le_of_eq h.2.1) (fun _ _ _ _ => trivial) ?_ ?_
  · intro g8 i v ys news' I8 oI C8 oC D8 m₂ h8 tk8 hi hR149 hsub hlt hC hB F8 N8 o8 d8
    obtain ⟨hJe, hJl, hJ⟩ := hR149
    subst hJe
    refine sealG fun pS hS9 => ?_
    obtain ⟨q, hqi, a, n9, nv, Sx, dSx, es, nS, c, nc, t, lx, rfl, r1, ⟨r2, r3⟩, r4, r5, r6⟩ := hrs.get hi
    refine hS9 ?_
    clear hS9 pS
    rw [List.forIn_nil]
    refine wpAny_pure ?_
    rw [if_pos rfl]
    k_steps
    any_goals exact (none : Option Value)
    (exact ⟨_, _, _, rfl, by k_asm, news_sub (by k_asm) (by intro p9 h9; first | k_mem | (simp only [List.mem_cons] at h9 ⊢; simp only [h9, or_true])), by assumption, fun _ h => h, fun _ h => .inl h, ⟨rfl, by rw [List.length_append, hJl]; rfl, by rw [take_snoc hqi]; exact hJ.snoc r6⟩⟩)
  · intro g8 D8 h8 tk8 ys news' N8 o8 hsub hlt hord hR119 h7 tk7 F9 N9
    obtain ⟨hJe, hJl, hJ⟩ := hR119
    subst hJe
    (try dsimp only)
    refine wpAny_execs_nil ?_
    rw [hvl, List.take_length] at hJ
    exact hQ _ _ D8 ys _ (by rw [← chain_eq hm]; exact F9) N9 hJ
 · intro T x h; refine dropT ?zB ?zA; simpa only using (h : DropP ?zA x); assumption
end
section
example : True := by
  w_top off
  trivial
theorem sB18c.hB18c : True := trivial
open sB18c
variable {w : World} {p : Program} {loose : List Str} {mean : ExcName → Option Value} {mg mb : Str → Option Value}
example : True := by
  k_with "callWith ref" =>
    (guard_expr hB18c = hB18c)
    (k_here; k_dflt (first
      | refine' callWith_K (by first | ((k_asm); done) | fail "by") (by first | ((k_is); done) | fail "by") ?_; k_whole
      | refine' callWith_K0 (by first | ((k_in); done) | fail "by") (by first | ((k_is); done) | fail "by") ?_; k_whole))
  trivial
example : True := by
  k_with "call ref" =>
    (guard_expr hB18c = hB18c)
    (k_here; k_dflt (first
    | ((with_reducible show wpAny _ _ (call (Value.ref 462) _) _ _ _); refine stop_here ?_)
      | (refine' call_cls0 (by first | ((k_asm); done) | fail "by") (by first | ((k_asm); done) | fail "by") (by first | ((k_asm); done) | fail "by") (by first | ((k_is); done) | fail "by") (by first | ((k_is); done) | fail "by") ?_; k_whole; intro x'ₖ d'ₖ h'ₖ F'ₖ N'ₖ l1ₖ l2ₖ; (try k_lt l1ₖ); (try k_lt2 l2ₖ); (try k_sweep))
      | (refine' call_cls (by first | ((k_asm); done) | fail "by") (by first | ((k_asm); done) | fail "by") (by first | ((k_asm); done) | fail "by") (by first | ((k_is); done) | fail "by") (by first | ((k_is); done) | fail "by") (by first | ((k_is); done) | fail "by") ?_; k_whole; intro x'ₖ d'ₖ h'ₖ F'ₖ N'ₖ l1ₖ l2ₖ; (try k_lt l1ₖ); (try k_lt2 l2ₖ); (try k_sweep); k_enter)
      | (refine wpAny_call ?_; k_enter)))
  trivial
theorem led_max : ∀ {l : Led}, l ≠ [] → ∃ p ∈ l, LeAll p.1 l
  | [], h => absurd rfl h
  | [p], _ => ⟨p, List.mem_cons_self, fun q hq => by rw [List.mem_singleton.mp hq]; exact Nat.le_refl _⟩
  | p :: q :: r, _ => by
    obtain ⟨x, hx, hm⟩ := led_max (l := q :: r) (by simp)
    by_cases h : @LE.le Nat _ p.1 x.1
    · exact ⟨x, List.mem_cons_of_mem _ hx, fun z hz => (List.mem_cons.mp hz).elim (fun e => by rw [e]; exact h) (hm z)⟩
    · exact ⟨p, List.mem_cons_self, fun z hz => (List.mem_cons.mp hz).elim (fun e => by rw [e]; exact Nat.le_refl _) fun hz => Nat.le_trans (hm z hz) (Nat.le_of_not_le h)⟩
theorem segGc {fa : Addr} {ql nm : Str} {pr : Arguments} {body : List Stmt} {sc : Scope} {dV kV doc pm cdv ct oc : Value} {an od : Option Addr} {osl : Array (Option Value)} (hb : (hd.heap_1_39 w.params).lookup 518 = some ⟨oc, od, .func (fnOf nm ql pr body sc dV kV doc pm an cdv ct), osl⟩)
    {g : Heap} {L : Addr} {m : Str → Option Value} {s : Shared} {Q : Flow → Shared → Prop} {E : Value → Shared → Prop}
    (K0 : Below callerA g [] g) (F : Fr g L s.heap m) (X : (hd.heap_1_39 w.params).In g) (T : Top p loose mean mg mb g) (l0 : @LT.lt Nat _ 515 L)
    (tb : List Stmt) (hs : List ExceptHandler) (pos : Pos) (hbd : (body.drop 17).take 1 = [.Try tb hs [] [] pos])
    {P : Par} (ok : P.Ok w p loose mean mg mb) {O : Out} (hO : O.Has w) {qs : List (List (Str × Part))} (hqs : qs.length ≤ 100) {K dK Fm dFm dTy : Addr} {esK esFm : List DictEntry} {nK nFm : Nat} {oTy : Obj} (hTy : oTy.IsDictOf (intKind PR w) []) {tn : Tok} (hnum : O.number = .int 32 tn)
    {bD bC : List Bool} {b : Bool} (hb2 : b = (bD ++ bC).any not) (hlen : O.esT.length ≤ 100) {rest : Led} (N : News g L s.heap ((dTy, oTy) :: (O.dT, dictOf O.esT O.nT) :: rest)) (hne1 : dTy ≠ O.dT) (hr : ∀ p ∈ rest, p.1 ≠ dTy ∧ p.1 ≠ O.dT)
    (hP : P.At rest) (hOA : (O.T, instObj 201 O.dT) ∈ rest ∧ (O.lx, lstO [] O.nx) ∈ rest ∧ (O.lD, lstO O.vD O.nD) ∈ rest ∧ (O.lC, lstO O.vC O.nC) ∈ rest ∧ (O.dop, O.oop) ∈ rest) (hTA : getL "task" P.esR = some (some (.ref K)) ∧ Inst rest K 501 dK esK nK ∧ getL "frame" esK = some (some (.ref Fm)) ∧ Inst rest Fm 138 dFm esFm nFm ∧ getL "types" esFm = some (some (.ref dTy)))
    (hD : All2 (RowIn (fewSpec P ok) rest) O.vD [()]) (hC : All2 (RowIn (compSpec P ok) rest) O.vC qs) (hWD : All2 (RowW (workSpec P ok) rest) O.vD bD) (hWC : All2 (RowW (workSpec P ok) rest) O.vC bC) (hvD : O.vD.length ≤ 100)
    (hm1 : m "run" = some (.ref P.R)) (hm2 : m "outer" = some (.ref O.T))
    (hQ : ∀ v tl o' h' tk', (∀ q ∈ qs, hasDisc q = true ∨ inFew P.V q) → Fr g L h' m → News g L h' (tl ++ (dTy, o') :: (O.dT, dictOf (late b O.esT) O.nT) :: rest) → o'.IsDictOf (intKind PR w) [(32, v)] →
      (b = false → v = .ref O.T) → (b = true → ∃ M dM esM nM lM nl ys, v = .ref M ∧ Inst tl M 201 dM esM nM ∧ getL "components" esM = some (some (.ref lM)) ∧ (lM, lstO ys nl) ∈ tl ∧ All2 (RowOut (compSpec P ok) ((dTy, oTy) :: (O.dT, dictOf O.esT O.nT) :: rest) tl) ys (O.vC.zip qs)) → Q .next { s with heap := h', toks := tk' })
    (hR : (∃ q ∈ qs, (compSpec P ok).Bad q) → RaiseK g [envOfC ql sc L fa cdv] g L m ((dTy, oTy) :: (O.dT, dictOf O.esT O.nT) :: rest) E s) : wpAny (model PR w) (callerA.deeper (envOfC ql sc L fa cdv)) (execs ((tb.drop 0).take 1) (envOfC ql sc L fa cdv)) Q E s := by
 refine @dropI _ ?_ ?_
 ·
  have hb' := hb
  rw [show (hd.heap_1_39 w.params).lookup 518 = _ from by k_dflt k_is] at hb'
  injection hb' with hb'
  injection hb' with e1 e2 e3 e4
  injection e3 with e3
  injection e3 with f1 f2 f3 f4 f5 f6 f7 f8 f9 f10 f11 f12 f13 f14
  injection f4 with f4
  subst f4 f5 f2 f12 f13
  clear hb f1 f3 f6 f7 f8 f9 f10 f11 f14 e1 e2 e4
  (try simp only [List.drop, List.take])
  simp only [List.drop, List.take] at hbd
  injection hbd with hbd
  injection hbd with b1 b2 b3 b4 b5
  subst b1
  (try simp only [List.drop, List.take])
  replace F := fr_chain hm2 F
  replace F := fr_chain (x := "run") (v := .ref P.R) ((if_neg (by decide)).trans hm1) F
  have em := (chain_eq (m := fun y => if y = ("outer" : Str) then some (.ref O.T) else m y) (x := "run") (v := .ref P.R) ((if_neg (by decide)).trans hm1)).trans (chain_eq hm2)
  have up : ∀ x ∈ rest, x ∈ (dTy, oTy) :: (O.dT, dictOf O.esT O.nT) :: rest := fun x hx => .tail _ (.tail _ hx)
  refine sealG fun pS hS9 => ?_
  obtain ⟨⟨b0, ob0⟩, hb0, hmax⟩ := led_max (l := (dTy, oTy) :: (O.dT, dictOf O.esT O.nT) :: rest) (by simp)
  obtain ⟨o1, o2, o3, o4, o5⟩ := hOA
  obtain ⟨t1, ⟨t2, t3⟩, t4, ⟨t5, t6⟩, t7⟩ := hTA
  obtain ⟨⟨⟨a1, a2⟩, a3, a4⟩, _⟩ := id hP
  refine hS9 ?_
  clear hS9 pS
  k_steps
  unfold Stopped
  refine' elab_type P ok O hO qs hqs K dK Fm dFm dTy esK esFm nK nFm oTy hTy tn hnum bD bC b hb2 hlen _ _ _ _ _ _ _ _ _ _ _ _ _ m _ ((dTy, oTy) :: (O.dT, dictOf (late b O.esT) O.nT) :: rest) (fun o => (dTy, o) :: (O.dT, dictOf (late b O.esT) O.nT) :: rest) b0 ob0 _ _ _ ?eB ?eF ?eX ?eN ?eT ?ek (hP.mono up) ⟨⟨up _ o1, .tail _ List.mem_cons_self⟩, up _ o2, up _ o3, up _ o4, up _ o5⟩ ⟨t1, ⟨up _ t2, up _ t3⟩, t4, ⟨up _ t5, up _ t6⟩, t7, List.mem_cons_self⟩ (hD.imp fun _ _ h => h.mono up) (hC.imp fun _ _ h => h.mono up) (hWD.imp fun _ _ h => h.mono up) (hWC.imp fun _ _ h => h.mono up) hvD (by rw [hC.length]; omega) hb0 hmax ?ene ?eU1 ?eU2 ?ed ?eu ?eret ?eraise
  case ene =>
    intro x hx
    simp only [List.mem_cons, List.not_mem_nil, or_false] at hx
    rcases hx with rfl | rfl | rfl | rfl | rfl | rfl | rfl | rfl
    · exact (hr _ a1).2
    · exact (hr _ a2).2
    · exact (hr _ t2).2
    · exact (hr _ t3).2
    · exact (hr _ t5).2
    · exact (hr _ t6).2
    · exact (hr _ o1).2
    · exact hne1
  case eB => k_asm
  case eF => rw [← em]; k_asm
  case eX => k_asm
  case eN => k_asm
  case eT => k_asm
  case ek => rfl
  case eU1 => exact .tail hne1 (.head fun p hp => (hr p hp).2)
  case eU2 =>
    refine .head ?_
    intro p hp
    rcases List.mem_cons.mp hp with rfl | hp
    · exact Ne.symm hne1
    · exact (hr p hp).1
  case ed => ktr_room
  case eu => ktr_units
  case eraise => exact hR
  case eret =>
    intro v tl o' h' tk' hgood F' N' l' hdict hbf hbt
    k_steps
    exact hQ v tl o' h' tk' hgood F' N' hdict hbf hbt
 · intro T x h; refine dropT ?zB ?zA; simpa only using (h : DropP ?zA x); assumption
end
section
example : True := by
  w_top off
  trivial
variable {w : World} {p : Program} {loose : List Str} {mean : ExcName → Option Value} {mg mb : Str → Option Value}
theorem getL_late {b : Bool} {es : List DictEntry} {x : Str} {v u : Value} (hl : getL "is_late" es = some (some u)) (h : getL x es = some (some v)) (hne : x ≠ "is_late") : getL x (late b es) = some (some v) := (getL_put_ne hne (any_of_getL hl)).trans h
theorem row_told {P : Par} (ok : P.Ok w p loose mean mg mb) {led l : Led} (hs : ∀ x ∈ led, x ∈ l) {v : Value} {q : List (Str × Part)} (h : RowIn (compSpec P ok) led v q) (hw : (hasDisc q || !(q.any fun x => x.2.isTup)) = true) : ConRow (DueAt P.V P.W) l v q := by
 refine @dropI _ ?_ ?_
 ·
  refine sealG fun pS hS9 => ?_
  obtain ⟨a, n, nv, sv, e, m1, _, Sx, dSx, cx, lx, esx, nx, ncx, nlx, txx, vs, rfl, ⟨⟨c1, c2⟩, _, c4, c5, c6, c7⟩, _⟩ := h
  refine hS9 ?_
  clear hS9 pS
  refine ⟨a, n, nv, Sx, dSx, esx, nx, cx, ncx, txx, lx, e, hs _ m1, ⟨hs _ c1, hs _ c2⟩, c4, hs _ c5, fun _ => ⟨lx, nlx, vs, rfl, hs _ c6, c7.imp fun _ _ z => z.mono hs⟩, fun hd => ⟨lx, nlx, vs, rfl, hs _ c6, ?_⟩⟩
  rw [hd] at hw
  refine nums_of (c7.imp fun _ _ z => z.mono hs) ?_
  simpa using hw
 · intro T x h; refine dropT ?zB ?zA; simpa only using (h : DropP ?zA x); assumption
theorem row_out {P : Par} (ok : P.Ok w p loose mean mg mb) {n0 n1 led l : Led} (hs : ∀ x ∈ led, x ∈ l) (h1 : ∀ x ∈ n1, x ∈ l) {v u : Value} {q : List (Str × Part)} (hu : RowIn (compSpec P ok) led u q) (hn : ∀ (c : Addr) (o o' : Obj), (c, o) ∈ n0 → (c, o') ∈ led → o = o') (h : RowOut (compSpec P ok) n0 n1 v (u, q)) : ConRow (DueAt P.V P.W) l v q := by
 refine @dropI _ ?_ ?_
 ·
  refine sealG fun pS hS9 => ?_
  obtain ⟨a, n, nv, sv, b, k, c, e, m1, hp, e2, m3⟩ := h
  refine hS9 ?_
  clear hS9 pS
  cases hd : hasDisc q with
  | true =>
    refine sealG fun pS hS9 => ?_
    obtain ⟨a', n', nv', sv', e', m1', _, Sx, dSx, cx, lx, esx, nx, ncx, nlx, txx, vs, rfl, ⟨⟨c1, c2⟩, _, c4, c5, c6, c7⟩, _⟩ := hu
    refine hS9 ?_
    clear hS9 pS
    dsimp only at e2
    rw [e2] at e'
    cases e'
    have e3 := hn _ _ _ m3 m1'
    obtain ⟨rfl, rfl⟩ : nv = nv' ∧ b = .ref Sx := by
      have := tup_inj (congrArg some e3)
      simpa using this
    obtain rfl := hp.1 hd
    exact ⟨a, n, nv, Sx, dSx, esx, nx, cx, ncx, txx, lx, e, h1 _ m1, ⟨hs _ c1, hs _ c2⟩, c4, hs _ c5, fun _ => ⟨lx, nlx, vs, rfl, hs _ c6, c7.imp fun _ _ z => z.mono hs⟩, fun h => (by rw [hd] at h; cases h)⟩
  | false =>
    refine sealG fun pS hS9 => ?_
    obtain ⟨⟨S, dS, es, nS, c2, nc, t, l2, nl, vs, rfl, ⟨i1, i2⟩, _, i4, i5, i6, i7⟩, _⟩ := hp.2 hd
    refine hS9 ?_
    clear hS9 pS
    exact ⟨a, n, nv, S, dS, es, nS, c2, nc, t, l2, e, h1 _ m1, ⟨h1 _ i1, h1 _ i2⟩, i4, h1 _ i5, fun h => (by rw [hd] at h; cases h), fun _ => ⟨l2, nl, vs, rfl, h1 _ i6, NumPairs.mono h1 i7⟩⟩
 · intro T x h; refine dropT ?zB ?zA; simpa only using (h : DropP ?zA x); assumption
theorem All2.of_get {α β : Type} {R : α → β → Prop} {l : List α} : ∀ {m : List β}, l.length = m.length → (∀ (i : Nat) (a : α) (b : β), l[i]? = some a → m[i]? = some b → R a b) → All2 R l m := by
 refine @dropI _ ?_ ?_
 ·
  induction l with
  | nil => intro m hl _; cases m with
    | nil => exact .nil
    | cons _ _ => exact nomatch hl
  | cons a l ih => intro m hl h; cases m with
    | nil => exact nomatch hl
    | cons b m => exact .cons (h 0 a b rfl rfl) (ih (Nat.succ.inj hl) fun i x y h1 h2 => h (i + 1) x y h1 h2)
 · intro T x h; refine dropT ?zB ?zA; simpa only using (h : DropP ?zA x); assumption
theorem segGb {fa : Addr} {ql nm : Str} {pr : Arguments} {body : List Stmt} {sc : Scope} {dV kV doc pm cdv ct oc : Value} {an od : Option Addr} {osl : Array (Option Value)} (hb : (hd.heap_1_39 w.params).lookup 518 = some ⟨oc, od, .func (fnOf nm ql pr body sc dV kV doc pm an cdv ct), osl⟩)
    {g : Heap} {L : Addr} {m : Str → Option Value} {s : Shared} {Q : Flow → Shared → Prop} {E : Value → Shared → Prop}
    (K0 : Below callerA g [] g) (F : Fr g L s.heap m) (X : (hd.heap_1_39 w.params).In g) (T : Top p loose mean mg mb g) (l0 : @LT.lt Nat _ 515 L)
    (tb : List Stmt) (hs : List ExceptHandler) (pos : Pos) (hbd : (body.drop 17).take 1 = [.Try tb hs [] [] pos]) (htb : tb.drop 2 = [])
    {P : Par} (ok : P.Ok w p loose mean mg mb) {O : Out} (hO : O.Has w) {qs : List (List (Str × Part))} (hqs : qs.length ≤ 100) {K dK Fm dFm dTy : Addr} {esK esFm : List DictEntry} {nK nFm : Nat} {oTy : Obj} (hTy : oTy.IsDictOf (intKind PR w) []) {tn : Tok} (hnum : O.number = .int 32 tn)
    {bD bC : List Bool} {b : Bool} (hb2 : b = (bD ++ bC).any not) (hlen : O.esT.length ≤ 100) {rest : Led} (N : News g L s.heap ((dTy, oTy) :: (O.dT, dictOf O.esT O.nT) :: rest)) (hne1 : dTy ≠ O.dT) (hr : ∀ p ∈ rest, p.1 ≠ dTy ∧ p.1 ≠ O.dT)
    (hP : P.At rest) (hOA : (O.T, instObj 201 O.dT) ∈ rest ∧ (O.lx, lstO [] O.nx) ∈ rest ∧ (O.lD, lstO O.vD O.nD) ∈ rest ∧ (O.lC, lstO O.vC O.nC) ∈ rest ∧ (O.dop, O.oop) ∈ rest) (hTA : getL "task" P.esR = some (some (.ref K)) ∧ Inst rest K 501 dK esK nK ∧ getL "frame" esK = some (some (.ref Fm)) ∧ Inst rest Fm 138 dFm esFm nFm ∧ getL "types" esFm = some (some (.ref dTy)))
    (hD : All2 (RowIn (fewSpec P ok) rest) O.vD [()]) (hC : All2 (RowIn (compSpec P ok) rest) O.vC qs) (hWD : All2 (RowW (workSpec P ok) rest) O.vD bD) (hWC : All2 (RowW (workSpec P ok) rest) O.vC bC) (hvD : O.vD.length ≤ 100) (hbC : bC = qs.map fun q => hasDisc q || !(q.any fun x => x.2.isTup))
    (hm1 : m "run" = some (.ref P.R)) (hm2 : m "outer" = some (.ref O.T))
    (hQ : ∀ h' tk' D xs n led', Fr g L h' (fun y => if y = "heard" then some (.ref D) else m y) → News g L h' led' → (∀ p ∈ rest, p ∈ led') → (D, lstO xs n) ∈ led' → (O.dT, dictOf (late b O.esT) O.nT) ∈ led' → (∀ q ∈ qs, hasDisc q = true ∨ inFew P.V q) → All2 (DueAt P.V P.W led') xs qs → Q .next { s with heap := h', toks := tk' })
    (hR : (∃ q ∈ qs, (compSpec P ok).Bad q) → RaiseK g [envOfC ql sc L fa cdv] g L m ((dTy, oTy) :: (O.dT, dictOf O.esT O.nT) :: rest) E s) :
    wpAny (model PR w) (callerA.deeper (envOfC ql sc L fa cdv)) (execs tb (envOfC ql sc L fa cdv)) Q E s := by
 refine @dropI _ ?_ ?_
 ·
  show wpAny _ _ (execs (tb.drop 0) _) _ _ _
  refine execs_at 0 1 ?_
  refine segGc hb K0 F X T l0 tb hs pos hbd ok hO hqs hTy hnum hb2 hlen N hne1 hr hP hOA hTA hD hC hWD hWC hvD hm1 hm2 (fun v tl o' h' tk' hgood F' N' hdict hbf hbt => ?_) hR
  (try dsimp only)
  refine execs_at 1 1 ?_
  have up : ∀ x ∈ rest, x ∈ tl ++ (dTy, o') :: (O.dT, dictOf (late b O.esT) O.nT) :: rest := fun x hx => List.mem_append_right _ (.tail _ (.tail _ hx))
  have gl := hO.f23
  have gC := hO.f14
  refine sealG fun pS hS9 => ?_
  obtain ⟨o1, o2, o3, o4, o5⟩ := hOA
  obtain ⟨t1, ⟨t2, t3⟩, t4, ⟨t5, t6⟩, t7⟩ := hTA
  obtain ⟨⟨⟨a1, a2⟩, a3, a4⟩, _⟩ := id hP
  refine hS9 ?_
  clear hS9 pS
  have hlq := hC.length
  have fin : ∀ (x dx lc : Addr) (esx : List DictEntry) (nx n : Nat) (vs : List Value), v = .ref x → Inst (tl ++ (dTy, o') :: (O.dT, dictOf (late b O.esT) O.nT) :: rest) x 201 dx esx nx → getL "components" esx = some (some (.ref lc)) → (lc, lstO vs n) ∈ tl ++ (dTy, o') :: (O.dT, dictOf (late b O.esT) O.nT) :: rest →
      All2 (ConRow (DueAt P.V P.W) (tl ++ (dTy, o') :: (O.dT, dictOf (late b O.esT) O.nT) :: rest)) vs qs → wpAny (model PR w) (callerA.deeper (envOfC ql sc L fa cdv)) (execs ((tb.drop (0 + 1)).take 1) (envOfC ql sc L fa cdv)) (fun f s' => match f with | .next => wpAny (model PR w) (callerA.deeper (envOfC ql sc L fa cdv)) (execs (tb.drop (0 + 1 + 1)) (envOfC ql sc L fa cdv)) Q E s' | f => Q f s') E { s with heap := h', toks := tk' } := by
    intro x dx lc esx nx n vs hv hx hc hl hrs
    subst hv
    refine segGh hb K0 F' X T l0 tb hs pos hbd N' ⟨up _ a1, up _ a2⟩ ⟨t1, ⟨up _ t2, up _ t3⟩, t4, ⟨up _ t5, up _ t6⟩, t7⟩ hdict (List.mem_append_right _ List.mem_cons_self) hx hc hl hrs hqs hm1 (fun h9 tk9 D xs n F9 N9 hx9 => ?_)
    (try dsimp only)
    rw [show tb.drop (0 + 1 + 1) = [] from htb]
    refine wpAny_execs_nil ?_
    exact hQ h9 tk9 D xs n _ F9 N9 (fun p hp => .tail _ (up p hp)) List.mem_cons_self (.tail _ (List.mem_append_right _ (.tail _ List.mem_cons_self))) hgood (hx9.imp fun _ _ h => h.mono fun p hp => .tail _ hp)
  cases hbb : b with
  | false =>
    obtain rfl := hbf hbb
    refine fin O.T O.dT O.lC _ O.nT O.nC O.vC rfl ⟨up _ o1, List.mem_append_right _ (.tail _ List.mem_cons_self)⟩ (getL_late gl gC (by decide)) (up _ o4) (All2.of_get hlq fun i a q h1 h2 => ?_)
    obtain ⟨q', hq', hri⟩ := hC.get h1
    rw [h2] at hq'
    cases hq'
    refine row_told ok up hri ?_
    rw [hb2, List.any_append, Bool.or_eq_false_iff] at hbb
    have hbb := List.any_eq_false.mp hbb.2
    have hz9 := hbb (hasDisc q || !(q.any fun x => x.2.isTup)) (by rw [hbC]; exact List.mem_map.mpr ⟨q, List.mem_of_getElem? h2, rfl⟩)
    cases hz : (hasDisc q || !(q.any fun x => x.2.isTup)) with
    | true => rfl
    | false => rw [hz] at hz9; exact absurd rfl hz9
  | true =>
    refine sealG fun pS hS9 => ?_
    obtain ⟨M, dM, esM, nM, lM, nl, ys, rfl, ⟨m1, m2⟩, m3, m4, m5⟩ := hbt hbb
    refine hS9 ?_
    clear hS9 pS
    have h5 := m5.length
    rw [List.length_zip] at h5
    refine fin M dM lM esM nM nl ys rfl ⟨List.mem_append_left _ m1, List.mem_append_left _ m2⟩ m3 (List.mem_append_left _ m4) (All2.of_get (by omega) fun i a q h1 h2 => ?_)
    refine sealG fun pS hS9 => ?_
    obtain ⟨⟨u, q'⟩, hz, hro⟩ := m5.get h1
    refine hS9 ?_
    clear hS9 pS
    have hlt := (List.getElem?_eq_some_iff.mp h2).1
    have hu : O.vC[i]? = some O.vC[i] := by simp
    have hz2 := zip_at hu h2
    rw [hz] at hz2
    cases hz2
    obtain ⟨q', hq', hri⟩ := hC.get hu
    rw [h2] at hq'
    cases hq'
    refine row_out ok up (fun x hx => List.mem_append_left _ hx) hri (fun c o o' h1 h2 => ?_) hro
    have e1 := (N _ h1).1
    have e2 := (N _ (.tail _ (.tail _ h2))).1
    rw [e1] at e2
    exact Option.some.inj e2
 · intro T x h; refine dropT ?zB ?zA; simpa only using (h : DropP ?zA x); assumption
end
section
example : True := by
  w_top off
  trivial
theorem sB18.hB18 : True := trivial
open sB18
variable {w : World} {p : Program} {loose : List Str} {mean : ExcName → Option Value} {mg mb : Str → Option Value}
example : True := by
  k_with "callWith ref" =>
    (guard_expr hB18 = hB18)
    (k_here; k_dflt (first
      | refine' callWith_K (by first | ((k_asm); done) | fail "by") (by first | ((k_is); done) | fail "by") ?_; k_whole
      | refine' callWith_K0 (by first | ((k_in); done) | fail "by") (by first | ((k_is); done) | fail "by") ?_; k_whole))
  trivial
example : True := by
  k_with "call ref" =>
    (guard_expr hB18 = hB18)
    (k_here; k_dflt (first
      | (refine' call_cls0 (by first | ((k_asm); done) | fail "by") (by first | ((k_asm); done) | fail "by") (by first | ((k_asm); done) | fail "by") (by first | ((k_is); done) | fail "by") (by first | ((k_is); done) | fail "by") ?_; k_whole; intro x'ₖ d'ₖ h'ₖ F'ₖ N'ₖ l1ₖ l2ₖ; (try k_lt l1ₖ); (try k_lt2 l2ₖ); (try k_sweep))
      | (refine' call_cls (by first | ((k_asm); done) | fail "by") (by first | ((k_asm); done) | fail "by") (by first | ((k_asm); done) | fail "by") (by first | ((k_is); done) | fail "by") (by first | ((k_is); done) | fail "by") (by first | ((k_is); done) | fail "by") ?_; k_whole; intro x'ₖ d'ₖ h'ₖ F'ₖ N'ₖ l1ₖ l2ₖ; (try k_lt l1ₖ); (try k_lt2 l2ₖ); (try k_sweep); k_enter)
      | (refine wpAny_call ?_; k_enter)))
  trivial
example : True := by
  k_with "exec Try" =>
    (guard_expr hB18 = hB18)
    (k_here; refine stop_here ?_)
  trivial
theorem segG {fa : Addr} {ql nm : Str} {pr : Arguments} {body : List Stmt} {sc : Scope} {dV kV doc pm cdv ct oc : Value} {an od : Option Addr} {osl : Array (Option Value)} (hb : (hd.heap_1_39 w.params).lookup 518 = some ⟨oc, od, .func (fnOf nm ql pr body sc dV kV doc pm an cdv ct), osl⟩)
    {g : Heap} {L : Addr} {m : Str → Option Value} {s : Shared} {Q : Flow → Shared → Prop} {E : Value → Shared → Prop}
    (K0 : Below callerA g [] g) (F : Fr g L s.heap m) (X : (hd.heap_1_39 w.params).In g) (T : Top p loose mean mg mb g) (l0 : @LT.lt Nat _ 515 L)
    {P : Par} (ok : P.Ok w p loose mean mg mb) {O : Out} (hO : O.Has w) {qs : List (List (Str × Part))} (hqs : qs.length ≤ 100) {K dK Fm dFm dTy : Addr} {esK esFm : List DictEntry} {nK nFm : Nat} {oTy : Obj} (hTy : oTy.IsDictOf (intKind PR w) []) {tn : Tok} (hnum : O.number = .int 32 tn)
    {bD bC : List Bool} {b : Bool} (hb2 : b = (bD ++ bC).any not) (hlen : O.esT.length ≤ 100) {rest : Led} (N : News g L s.heap ((dTy, oTy) :: (O.dT, dictOf O.esT O.nT) :: rest)) (hne1 : dTy ≠ O.dT) (hr : ∀ p ∈ rest, p.1 ≠ dTy ∧ p.1 ≠ O.dT)
    (hP : P.At rest) (hOA : (O.T, instObj 201 O.dT) ∈ rest ∧ (O.lx, lstO [] O.nx) ∈ rest ∧ (O.lD, lstO O.vD O.nD) ∈ rest ∧ (O.lC, lstO O.vC O.nC) ∈ rest ∧ (O.dop, O.oop) ∈ rest) (hTA : getL "task" P.esR = some (some (.ref K)) ∧ Inst rest K 501 dK esK nK ∧ getL "frame" esK = some (some (.ref Fm)) ∧ Inst rest Fm 138 dFm esFm nFm ∧ getL "types" esFm = some (some (.ref dTy)))
    (hD : All2 (RowIn (fewSpec P ok) rest) O.vD [()]) (hC : All2 (RowIn (compSpec P ok) rest) O.vC qs) (hWD : All2 (RowW (workSpec P ok) rest) O.vD bD) (hWC : All2 (RowW (workSpec P ok) rest) O.vC bC) (hvD : O.vD.length ≤ 100)
    (hbC : bC = qs.map fun q => hasDisc q || !(q.any fun x => x.2.isTup)) (hm1 : m "run" = some (.ref P.R)) (hm2 : m "outer" = some (.ref O.T)) (hla : g.objs.size ≤ L)
    (hQ : ∀ h' tk' m' hv led', Fr g L h' m' → m' "heard" = some hv → (∀ y : Str, y ≠ "heard" → y ≠ "raised" → m' y = m y) → News g L h' led' → (∀ p ∈ rest, p ∈ led') →
      ((hv = .none ∧ ∃ q ∈ qs, hasDisc q = false ∧ ¬ inFew P.V q) ∨ (∃ D xs n, hv = .ref D ∧ (D, lstO xs n) ∈ led' ∧ (O.dT, dictOf (late b O.esT) O.nT) ∈ led' ∧ (∀ q ∈ qs, hasDisc q = true ∨ inFew P.V q) ∧ All2 (DueAt P.V P.W led') xs qs)) → Q .next { s with heap := h', toks := tk' }) : wpAny (model PR w) (callerA.deeper (envOfC ql sc L fa cdv)) (execs ((body.drop 17).take 1) (envOfC ql sc L fa cdv)) Q E s := by
 refine @dropI _ ?_ ?_
 ·
  have hb9 := hb
  have hb' := hb
  rw [show (hd.heap_1_39 w.params).lookup 518 = _ from by k_dflt k_is] at hb'
  injection hb' with hb'
  injection hb' with e1 e2 e3 e4
  injection e3 with e3
  injection e3 with f1 f2 f3 f4 f5 f6 f7 f8 f9 f10 f11 f12 f13 f14
  injection f4 with f4
  subst f4 f5 f2 f12 f13
  clear hb f1 f3 f6 f7 f8 f9 f10 f11 f14 e1 e2 e4
  (try simp only [List.drop, List.take])
  k_steps
  unfold Stopped
  refine wpAny_Try_except ?_
  refine' segGb hb9 K0 F X T l0 ?tb ?ths ?tpos ?tbd ?tb2 ok hO hqs hTy hnum hb2 hlen N hne1 hr hP hOA hTA hD hC hWD hWC hvD hbC hm1 hm2 ?tQ ?tR
  case tbd => rfl
  case tb2 => rfl
  case tQ =>
    intro h' tk' D xs n led' F' N' s1 s2 s3 hgood hx
    (try dsimp only)
    refine wpAny_execs_nil ?_
    (try dsimp only)
    refine wpAny_execs_nil ?_
    exact hQ h' tk' _ _ led' F' (if_pos rfl) (fun y h1 _ => if_neg h1) N' s1 (.inr ⟨D, xs, n, rfl, s2, s3, hgood, hx⟩)
  case tR =>
    intro hbad e dx es n h' tk' hw hx R U hn
    refine caught_mine K0 X raise_makes rfl rfl (by rfl) (by rfl) hla R hn ?_ ?_
    · intro h8 Q8 E8 F8 hq8
      k_steps
      exact hq8
    · intro h8 vs8 sl8 tk8 F8 N8
      obtain ⟨tw, hw⟩ := hw
      k_steps
      k_dflt (refine' getE_own ?gF ?gX ?gN ?gx ?gd raise_makes ?gg ?gq ?gh ?ga ?gn ?gl ?gv ?_)
      case gF => k_asm
      case gX => k_asm
      case gN => k_asm
      case gx => exact List.Mem.head _
      case gd => k_mem
      case gl => k_get
      case gv => rfl
      case gg => k_is
      case gq => k_is
      case gh => k_is
      case ga => k_is
      case gn => k_is
      k_steps
      rename Fr g L _ (fun y => if y = "heard" then _ else _) => F9
      rename News g L _ (_ :: _) => N9
      refine wpAny_nameGoes_keeps (by rfl) F9.ns (by rfl) fun h9 v9 hn9 hs9 => ?_
      have F10 := F9.set hn9 hs9
      have N10 := N9.set hs9
      (try dsimp only)
      refine wpAny_execs_nil ?_
      refine sealG fun pS hS9 => ?_
      obtain ⟨q, hq, hq1, hq2⟩ := hbad
      refine hS9 ?_
      clear hS9 pS
      refine hQ _ _ _ .none _ F10 ((if_neg (by decide)).trans (if_pos rfl)) (fun y h1 h2 => ?_) N10 (fun p hp => .tail _ (.tail _ (.tail _ (.tail _ hp)))) (.inl ⟨rfl, q, hq, hq1, hq2⟩)
      rw [if_neg h2, if_neg h1, if_neg h2]
 · intro T x h; refine dropT ?zB ?zA; simpa only using (h : DropP ?zA x); assumption
end
section
example : True := by
  w_top off
  trivial
theorem sB19.hB19 : True := trivial
open sB19
variable {w : World} {p : Program} {loose : List Str} {mean : ExcName → Option Value} {mg mb : Str → Option Value}
example : True := by
  k_with "callWith ref" =>
    (guard_expr hB19 = hB19)
    (k_here; k_dflt (first
      | refine' callWith_K (by first | ((k_asm); done) | fail "by") (by first | ((k_is); done) | fail "by") ?_; k_whole
      | refine' callWith_K0 (by first | ((k_in); done) | fail "by") (by first | ((k_is); done) | fail "by") ?_; k_whole))
  trivial
example : True := by
  k_with "call ref" =>
    (guard_expr hB19 = hB19)
    (k_here; k_dflt (first
      | (refine' call_cls0 (by first | ((k_asm); done) | fail "by") (by first | ((k_asm); done) | fail "by") (by first | ((k_asm); done) | fail "by") (by first | ((k_is); done) | fail "by") (by first | ((k_is); done) | fail "by") ?_; k_whole; intro x'ₖ d'ₖ h'ₖ F'ₖ N'ₖ l1ₖ l2ₖ; (try k_lt l1ₖ); (try k_lt2 l2ₖ); (try k_sweep))
      | (refine' call_cls (by first | ((k_asm); done) | fail "by") (by first | ((k_asm); done) | fail "by") (by first | ((k_asm); done) | fail "by") (by first | ((k_is); done) | fail "by") (by first | ((k_is); done) | fail "by") (by first | ((k_is); done) | fail "by") ?_; k_whole; intro x'ₖ d'ₖ h'ₖ F'ₖ N'ₖ l1ₖ l2ₖ; (try k_lt l1ₖ); (try k_lt2 l2ₖ); (try k_sweep); k_enter)
      | (refine wpAny_call ?_; k_enter)))
  trivial
example : True := by
  k_with "eval ListComp" =>
    (guard_expr hB19 = hB19)
    (k_here; refine stop_here ?_)
  trivial
example : True := by
  k_with "compareOp NotEq ref ref" =>
    (guard_expr hB19 = hB19)
    (k_here; refine stop_here ?_)
  trivial
example : True := by
  k_with "subscriptTail" =>
    (guard_expr hB19 = hB19)
    (k_here; (with_reducible show wpAny _ _ (subscriptTail _ _ (Value.ref _) (Value.int _ _)) _ _ _); k_dflt (refine' sub_tup (by first | ((k_asm); done) | fail "by") (by first | ((k_mem); done) | fail "by") (by first | ((decide); done) | fail "by") (by first | ((decide); done) | fail "by") (by first | ((exact rfl); done) | fail "by") ?_))
  trivial
theorem segH1 {fa : Addr} {ql nm : Str} {pr : Arguments} {body : List Stmt} {sc : Scope} {dV kV doc pm cdv ct oc : Value} {an od : Option Addr} {osl : Array (Option Value)} (hb : (hd.heap_1_39 w.params).lookup 518 = some ⟨oc, od, .func (fnOf nm ql pr body sc dV kV doc pm an cdv ct), osl⟩)
    {g : Heap} {L : Addr} {m : Str → Option Value} {s : Shared} {Q : Flow → Shared → Prop} {E : Value → Shared → Prop}
    (K0 : Below callerA g [] g) (F : Fr g L s.heap m) (X : (hd.heap_1_39 w.params).In g) (T : Top p loose mean mg mb g) (l0 : @LT.lt Nat _ 515 L)
    {W rw tl : Addr} {rs ts : List Value} {rn tn : Nat} {led : Led} {qs : List (List (Str × Part))} (N : News g L s.heap led) (hrw : (rw, lstO rs rn) ∈ led) (hrs : All2 (ConRow (PairsAt W) led) rs qs) (htl : (tl, lstO ts tn) ∈ led) (hts : All2 (PairsAt W led) ts qs) (hqs : qs.length ≤ 100)
    (hm1 : m "heard" = some .none) (hm2 : m "due" = some .none) (hm3 : m "rows" = some (.ref rw)) (hm4 : m "told" = some (.ref tl))
    (hQ : ∀ h' tk' m' led', Fr g L h' m' → News g L h' led' → (∀ p ∈ led, p ∈ led') → Q (.ret (.bool true)) { s with heap := h', toks := tk' }) : wpAny (model PR w) (callerA.deeper (envOfC ql sc L fa cdv)) (execs ((body.drop 18).take 2) (envOfC ql sc L fa cdv)) Q E s := by
 refine @dropI _ ?_ ?_
 ·
  have hb' := hb
  rw [show (hd.heap_1_39 w.params).lookup 518 = _ from by k_dflt k_is] at hb'
  injection hb' with hb'
  injection hb' with e1 e2 e3 e4
  injection e3 with e3
  injection e3 with f1 f2 f3 f4 f5 f6 f7 f8 f9 f10 f11 f12 f13 f14
  injection f4 with f4
  subst f4 f5 f2 f12 f13
  clear hb f1 f3 f6 f7 f8 f9 f10 f11 f14 e1 e2 e4
  (try simp only [List.drop, List.take])
  replace F := fr_chain hm1 F
  replace F := fr_chain (x := "due") (v := .none) ((if_neg (by decide)).trans hm2) F
  replace F := fr_chain (x := "rows") (v := .ref rw) ((if_neg (by decide)).trans ((if_neg (by decide)).trans hm3)) F
  replace F := fr_chain (x := "told") (v := .ref tl) ((if_neg (by decide)).trans ((if_neg (by decide)).trans ((if_neg (by decide)).trans hm4))) F
  k_steps
  unfold Stopped
  (k_here; k_dflt (refine comp_eval (by k_asm) _ _ (fun _ _ _ => False) (by with_unfolding_all rfl) (by decide) (by rfl) (by decide) (binds_name (by rfl) (by rfl)) Passes.never ?_))
  k_steps
  have hvl := hrs.length
  refine CompIn.intro (news := led) (fun i ys nw => nw = led ∧ ys.length = i ∧ All2 ((PairsAt W) (led)) ys (qs.take i)) (by rfl) (by k_asm) (by k_asm) (.inl (by k_mem)) (by rw [sizeLine_eq]; omega) ⟨rfl, rfl, .nil⟩ (fun i ys _ h => Nat.le_of_eq h.2.1) (fun _ _ _ _ => trivial) ?_ ?_
  · intro g8 i v ys news' I8 oI C8 oC D8 m₂ h8 tk8 hi hR149 hsub hlt hC hB F8 N8 o8 d8
    obtain ⟨hJe, hJl, hJ⟩ := hR149
    subst hJe
    refine sealG fun pS hS9 => ?_
    obtain ⟨q, hqi, a, n9, nv, Sx, dSx, es, nS, c, nc, t, lx, rfl, r1, ⟨r2, r3⟩, r4, r5, r6⟩ := hrs.get hi
    refine hS9 ?_
    clear hS9 pS
    rw [List.forIn_nil]
    refine wpAny_pure ?_
    rw [if_pos rfl]
    k_steps
    any_goals exact (none : Option Value)
    (exact ⟨_, _, _, rfl, by k_asm, news_sub (by k_asm) (by intro p9 h9; first | k_mem | (simp only [List.mem_cons] at h9 ⊢; simp only [h9, or_true])), by assumption, fun _ h => h, fun _ h => .inl h, ⟨rfl, by rw [List.length_append, hJl]; rfl, by rw [take_snoc hqi]; exact hJ.snoc r6⟩⟩)
  · intro g8 D8 h8 tk8 ys news' N8 o8 hsub hlt hord hR119 h7 tk7 F9 N9
    obtain ⟨hJe, hJl, hJ⟩ := hR119
    subst hJe
    rw [hvl, List.take_length] at hJ
    k_steps
    unfold Stopped
    refine' ne_told (W := W) (led := (D8, PyProof.Rows.LCg.lst ys) :: news') ?hnN ?hu0 ?hu1 ?hu2 ?hu3 List.mem_cons_self (List.mem_cons_of_mem _ htl) (hJ.imp fun _ _ h => h.mono fun p hp => List.mem_cons_of_mem _ hp) (hts.imp fun _ _ h => h.mono fun p hp => List.mem_cons_of_mem _ hp) _ _ _ _ ?_
    case hnN => exact fun p hp => (N9 p hp).1
    case hu0 => ktr_units
    case hu1 => ktr_units
    case hu2 => ktr_units
    case hu3 => ktr_units
    k_steps
    exact hQ _ _ _ _ (by k_asm) (by k_asm) (by (intro p9 hp9; repeat' (first | exact hp9 | refine List.mem_cons_of_mem _ ?_ | refine List.mem_append_right _ ?_)))
 · intro T x h; refine dropT ?zB ?zA; simpa only using (h : DropP ?zA x); assumption
theorem segH2 {fa : Addr} {ql nm : Str} {pr : Arguments} {body : List Stmt} {sc : Scope} {dV kV doc pm cdv ct oc : Value} {an od : Option Addr} {osl : Array (Option Value)} (hb : (hd.heap_1_39 w.params).lookup 518 = some ⟨oc, od, .func (fnOf nm ql pr body sc dV kV doc pm an cdv ct), osl⟩)
    {g : Heap} {L : Addr} {m : Str → Option Value} {s : Shared} {Q : Flow → Shared → Prop} {E : Value → Shared → Prop}
    (K0 : Below callerA g [] g) (F : Fr g L s.heap m) (X : (hd.heap_1_39 w.params).In g) (T : Top p loose mean mg mb g) (l0 : @LT.lt Nat _ 515 L)
    {V : Int} {W rw tl D dl : Addr} {T0 dT : Addr} {esT : List DictEntry} {nT : Nat} {xs ds rs ts : List Value} {xn dn rn tn : Nat} {lt : Bool} {led : Led} {qs : List (List (Str × Part))} (N : News g L s.heap led) (hrw : (rw, lstO rs rn) ∈ led) (hrs : All2 (ConRow (PairsAt W) led) rs qs) (htl : (tl, lstO ts tn) ∈ led) (hts : All2 (PairsAt W led) ts qs) (hqs : qs.length ≤ 100)
    (hD : (D, lstO xs xn) ∈ led) (hx : All2 (DueAt V W led) xs qs) (hdl : (dl, lstO ds dn) ∈ led) (hdd : All2 (DueAt V W led) ds qs) (hT : Inst led T0 201 dT esT nT) (hgl : getL "is_late" esT = some (some (.bool lt)))
    (hm1 : m "heard" = some (.ref D)) (hm2 : m "due" = some (.ref dl)) (hm3 : m "rows" = some (.ref rw)) (hm4 : m "told" = some (.ref tl)) (hm5 : m "outer" = some (.ref T0)) (hm6 : m "is_late" = some (.bool lt))
    (hQ : ∀ h' tk' m' led', Fr g L h' m' → News g L h' led' → (∀ p ∈ led, p ∈ led') → Q (.ret (.bool true)) { s with heap := h', toks := tk' }) : wpAny (model PR w) (callerA.deeper (envOfC ql sc L fa cdv)) (execs ((body.drop 18).take 2) (envOfC ql sc L fa cdv)) Q E s := by
 refine @dropI _ ?_ ?_
 ·
  have hb' := hb
  rw [show (hd.heap_1_39 w.params).lookup 518 = _ from by k_dflt k_is] at hb'
  injection hb' with hb'
  injection hb' with e1 e2 e3 e4
  injection e3 with e3
  injection e3 with f1 f2 f3 f4 f5 f6 f7 f8 f9 f10 f11 f12 f13 f14
  injection f4 with f4
  subst f4 f5 f2 f12 f13
  clear hb f1 f3 f6 f7 f8 f9 f10 f11 f14 e1 e2 e4
  (try simp only [List.drop, List.take])
  replace F := fr_chain hm1 F
  replace F := fr_chain (x := "due") (v := .ref dl) ((if_neg (by decide)).trans hm2) F
  replace F := fr_chain (x := "rows") (v := .ref rw) ((if_neg (by decide)).trans ((if_neg (by decide)).trans hm3)) F
  replace F := fr_chain (x := "told") (v := .ref tl) ((if_neg (by decide)).trans ((if_neg (by decide)).trans ((if_neg (by decide)).trans hm4))) F
  replace F := fr_chain (x := "outer") (v := .ref T0) ((if_neg (by decide)).trans ((if_neg (by decide)).trans ((if_neg (by decide)).trans ((if_neg (by decide)).trans hm5)))) F
  replace F := fr_chain (x := "is_late") (v := .bool lt) ((if_neg (by decide)).trans ((if_neg (by decide)).trans ((if_neg (by decide)).trans ((if_neg (by decide)).trans ((if_neg (by decide)).trans hm6))))) F
  obtain ⟨x1, x2⟩ := hT
  k_steps
  unfold Stopped
  refine' ne_dues (V := V) (W := W) (led := led) ?gnN ?gu0 ?gu1 ?gu2 ?gu3 hD hdl hx hdd _ _ _ _ ?_
  case gnN => exact fun p hp => (N p hp).1
  case gu0 => ktr_units
  case gu1 => ktr_units
  case gu2 => ktr_units
  case gu3 => ktr_units
  k_steps
  unfold Stopped
  (k_here; k_dflt (refine comp_eval (by k_asm) _ _ (fun _ _ _ => False) (by with_unfolding_all rfl) (by decide) (by rfl) (by decide) (binds_name (by rfl) (by rfl)) Passes.never ?_))
  k_steps
  have hvl := hrs.length
  refine CompIn.intro (news := led) (fun i ys nw => nw = led ∧ ys.length = i ∧ All2 ((PairsAt W) (led)) ys (qs.take i)) (by rfl) (by k_asm) (by k_asm) (.inl (by k_mem)) (by rw [sizeLine_eq]; omega) ⟨rfl, rfl, .nil⟩ (fun i ys _ h => Nat.le_of_eq h.2.1) (fun _ _ _ _ => trivial) ?_ ?_
  · intro g8 i v ys news' I8 oI C8 oC D8 m₂ h8 tk8 hi hR149 hsub hlt hC hB F8 N8 o8 d8
    obtain ⟨hJe, hJl, hJ⟩ := hR149
    subst hJe
    refine sealG fun pS hS9 => ?_
    obtain ⟨q, hqi, a, n9, nv, Sx, dSx, es, nS, c, nc, t, lx, rfl, r1, ⟨r2, r3⟩, r4, r5, r6⟩ := hrs.get hi
    refine hS9 ?_
    clear hS9 pS
    rw [List.forIn_nil]
    refine wpAny_pure ?_
    rw [if_pos rfl]
    k_steps
    any_goals exact (none : Option Value)
    (exact ⟨_, _, _, rfl, by k_asm, news_sub (by k_asm) (by intro p9 h9; first | k_mem | (simp only [List.mem_cons] at h9 ⊢; simp only [h9, or_true])), by assumption, fun _ h => h, fun _ h => .inl h, ⟨rfl, by rw [List.length_append, hJl]; rfl, by rw [take_snoc hqi]; exact hJ.snoc r6⟩⟩)
  · intro g8 D8 h8 tk8 ys news' N8 o8 hsub hlt hord hR119 h7 tk7 F9 N9
    obtain ⟨hJe, hJl, hJ⟩ := hR119
    subst hJe
    rw [hvl, List.take_length] at hJ
    k_steps
    unfold Stopped
    refine' ne_told (W := W) (led := (D8, PyProof.Rows.LCg.lst ys) :: news') ?hnN ?hu0 ?hu1 ?hu2 ?hu3 List.mem_cons_self (List.mem_cons_of_mem _ htl) (hJ.imp fun _ _ h => h.mono fun p hp => List.mem_cons_of_mem _ hp) (hts.imp fun _ _ h => h.mono fun p hp => List.mem_cons_of_mem _ hp) _ _ _ _ ?_
    case hnN => exact fun p hp => (N9 p hp).1
    case hu0 => ktr_units
    case hu1 => ktr_units
    case hu2 => ktr_units
    case hu3 => ktr_units
    cases lt
    all_goals k_steps
    all_goals exact hQ _ _ _ _ (by k_asm) (by k_asm) (by (intro p9 hp9; repeat' (first | exact hp9 | refine List.mem_cons_of_mem _ ?_ | refine List.mem_append_right _ ?_)))
 · intro T x h; refine dropT ?zB ?zA; simpa only using (h : DropP ?zA x); assumption
end
section
example : True := by
  w_top off
  trivial
variable {w : World} {p : Program} {loose : List Str} {mean : ExcName → Option Value} {mg mb : Str → Option Value}
section
variable {W : Addr} {l l' : Led} (hs : ∀ (x : Addr) (o : Obj), (x, o) ∈ l → (∃ a n, o.data = .seq a n) → (x, o) ∈ l')
include hs
theorem PartAt.seq {v : Value} {x : Part} (h : PartAt W l v x) : PartAt W l' v x := by
 refine @dropI _ ?_ ?_
 ·
  cases x with
  | num _ => exact h
  | obj => obtain ⟨a, n, t, t', t2, e, h⟩ := h; exact ⟨a, n, t, t', t2, e, hs _ _ h ⟨_, _, rfl⟩⟩
  | disc => obtain ⟨a, n, t, t', e, h⟩ := h; exact ⟨a, n, t, t', e, hs _ _ h ⟨_, _, rfl⟩⟩
 · intro T x h; refine dropT ?zB ?zA; simpa only using (h : DropP ?zA x); assumption
theorem PairAt.seq {v : Value} {q : Str × Part} (h : PairAt W l v q) : PairAt W l' v q := by obtain ⟨a, n, t, pv, e, h1, h2⟩ := h; exact ⟨a, n, t, pv, e, hs _ _ h1 ⟨_, _, rfl⟩, PartAt.seq hs h2⟩
theorem PairsAt.seq {v : Value} {ps : List (Str × Part)} (h : PairsAt W l v ps) : PairsAt W l' v ps := by obtain ⟨a, n, vs, e, h1, h2⟩ := h; exact ⟨a, n, vs, e, hs _ _ h1 ⟨_, _, rfl⟩, h2.imp fun _ _ x => PairAt.seq hs x⟩
theorem NumPairs.seq {vs : List Value} {ps : List (Str × Int)} (h : NumPairs l vs ps) : NumPairs l' vs ps := h.imp fun _ _ h => h.imp fun _ h => h.imp fun _ h => h.imp fun _ h => h.imp fun _ h => h.imp id fun m => hs _ _ m ⟨_, _, rfl⟩
theorem DueAt.seq {V : Int} {v : Value} {q : List (Str × Part)} (h : DueAt V W l v q) : DueAt V W l' v q :=
  ⟨fun e => PairsAt.seq hs (h.1 e), fun e => by obtain ⟨a, n, vs, e1, m, hp⟩ := h.2 e; exact ⟨a, n, vs, e1, hs _ _ m ⟨_, _, rfl⟩, NumPairs.seq hs hp⟩⟩
end
theorem ConRow.mono {D : Led → Value → List (Str × Part) → Prop} (hD : ∀ {l l' : Led} {v : Value} {q : List (Str × Part)}, (∀ x ∈ l, x ∈ l') → D l v q → D l' v q) {l l' : Led} {v : Value} {q : List (Str × Part)} (hs : ∀ x ∈ l, x ∈ l') (h : ConRow D l v q) : ConRow D l' v q :=
  by obtain ⟨a, n, nv, Sx, dSx, es, nS, c, nc, t, lx, e, m1, ⟨m2, m3⟩, m4, m5, m6⟩ := h; exact ⟨a, n, nv, Sx, dSx, es, nS, c, nc, t, lx, e, hs _ m1, ⟨hs _ m2, hs _ m3⟩, m4, hs _ m5, hD hs m6⟩
theorem lateB_of (qs : List (List (Str × Part))) : ([true] ++ qs.map fun q => hasDisc q || !(q.any fun x => x.2.isTup)).any not = lateB qs := by
  rw [List.any_append, List.any_map]
  simp [lateB, Function.comp_def, Bool.not_or]
theorem law_tail {fa : Addr} {ql nm : Str} {pr : Arguments} {body : List Stmt} {sc : Scope} {dV kV doc pm cdv ct oc : Value} {an od : Option Addr} {osl : Array (Option Value)} (hb : (hd.heap_1_39 w.params).lookup 518 = some ⟨oc, od, .func (fnOf nm ql pr body sc dV kV doc pm an cdv ct), osl⟩)
    {g : Heap} {L : Addr} {m : Str → Option Value} {s : Shared} {Q : Flow → Shared → Prop} {E : Value → Shared → Prop}
    (K0 : Below callerA g [] g) (F : Fr g L s.heap m) (X : (hd.heap_1_39 w.params).In g) (T : Top p loose mean mg mb g) (l0 : @LT.lt Nat _ 515 L)
    (hE : PassesOwn (model PR w) (callerA.deeper (envOfC ql sc L fa cdv)) (envOfC ql sc L fa cdv) E) (hbl : body.drop 20 = [])
    {P : Par} (ok : P.Ok w p loose mean mg mb) {O : Out} (hO : O.Has w) {qs : List (List (Str × Part))} (hqs : qs.length ≤ 100) {K dK Fm dFm dTy : Addr} {esK esFm : List DictEntry} {nK nFm : Nat} {oTy : Obj} (hTy : oTy.IsDictOf (intKind PR w) []) {tn : Tok} (hnum : O.number = .int 32 tn)
    {bD bC : List Bool} {b : Bool} (hb2 : b = (bD ++ bC).any not) (hlen : O.esT.length ≤ 100) {rest : Led} (N : News g L s.heap ((dTy, oTy) :: (O.dT, dictOf O.esT O.nT) :: rest)) (hne1 : dTy ≠ O.dT) (hr : ∀ p ∈ rest, p.1 ≠ dTy ∧ p.1 ≠ O.dT)
    (hP : P.At rest) (hOA : (O.T, instObj 201 O.dT) ∈ rest ∧ (O.lx, lstO [] O.nx) ∈ rest ∧ (O.lD, lstO O.vD O.nD) ∈ rest ∧ (O.lC, lstO O.vC O.nC) ∈ rest ∧ (O.dop, O.oop) ∈ rest) (hTA : getL "task" P.esR = some (some (.ref K)) ∧ Inst rest K 501 dK esK nK ∧ getL "frame" esK = some (some (.ref Fm)) ∧ Inst rest Fm 138 dFm esFm nFm ∧ getL "types" esFm = some (some (.ref dTy)))
    (hD : All2 (RowIn (fewSpec P ok) rest) O.vD [()]) (hC : All2 (RowIn (compSpec P ok) rest) O.vC qs) (hWD : All2 (RowW (workSpec P ok) rest) O.vD bD) (hWC : All2 (RowW (workSpec P ok) rest) O.vC bC) (hvD : O.vD.length ≤ 100)
    (hbD : bD = [true]) (hbC : bC = qs.map fun q => hasDisc q || !(q.any fun x => x.2.isTup))
    {rw tl : Addr} {rs ts : List Value} {rn tn : Nat} {oV oW : Obj} {tV : Tok} (hVo : oV.data = .cell (some (.int P.V tV))) (hVl : (L + 3, oV) ∈ rest) (hWo : oW.data = .cell (some (.ref P.W))) (hWl : (L + 1, oW) ∈ rest) (hrw : (rw, lstO rs rn) ∈ rest) (hrs : All2 (ConRow (PairsAt P.W) rest) rs qs) (htl : (tl, lstO ts tn) ∈ rest) (hts : All2 (PairsAt P.W rest) ts qs) (hql : qs.length ≤ 5) (hq2 : ∀ q ∈ qs, q.length ≤ 2)
    (hm1 : m "run" = some (.ref P.R)) (hm2 : m "outer" = some (.ref O.T)) (hm3 : m "rows" = some (.ref rw)) (hm4 : m "told" = some (.ref tl))
    {pt : Array Value} (h5 : ((515 : Addr), tabObj pt) ∈ rest) (hQ : ∀ h' tk' m' led', Fr g L h' m' → News g L h' led' → (∃ pt, ((515 : Addr), tabObj pt) ∈ led') → Q (.ret (.bool true)) { s with heap := h', toks := tk' }) :
    wpAny (model PR w) (callerA.deeper (envOfC ql sc L fa cdv)) (execs (body.drop 15) (envOfC ql sc L fa cdv)) Q E s := by
 refine @dropI _ ?_ ?_
 ·
  refine execs_at 15 1 ?_
  refine segD0 hb K0 F X T l0 N (fun h1 tk1 du m1 F1 d1 d2 d3 N1 d4 => ?_)
  (try dsimp only)
  refine execs_at 16 1 ?_
  have up1 : ∀ p ∈ rest, p ∈ (dTy, oTy) :: (O.dT, dictOf O.esT O.nT) :: rest := fun p hp => .tail _ (.tail _ hp)
  refine segF hb K0 F1 X T l0 hE N1 d4 hVo (up1 _ hVl) hWo (up1 _ hWl) (up1 _ htl) (hts.imp fun _ _ h => h.mono up1) hql hq2 ((d3 _ (by decide) (by decide)).trans hm4) d1 d2 (fun h2 tk2 m2 dv lt led2 F2 f1 f2 f3 N2 f4 f5 hdue => ?_)
  (try dsimp only)
  refine execs_at 17 1 ?_
  have t1 : (dTy, oTy) ∈ led2 := f4 _ List.mem_cons_self
  have t2 : (O.dT, dictOf O.esT O.nT) ∈ led2 := f4 _ (.tail _ List.mem_cons_self)
  have hnm : ∀ p, p ∈ led2.filter (fun p => !(p.1 == dTy) && !(p.1 == O.dT)) ↔ p ∈ led2 ∧ p.1 ≠ dTy ∧ p.1 ≠ O.dT := fun p => by rw [List.mem_filter]; simp
  obtain ⟨rest2, hr2⟩ : ∃ r, r = led2.filter (fun p => !(p.1 == dTy) && !(p.1 == O.dT)) := ⟨_, rfl⟩
  rw [← hr2] at hnm
  have up2 : ∀ p ∈ rest, p ∈ rest2 := fun p hp => (hnm p).mpr ⟨f4 _ (up1 _ hp), hr p hp⟩
  have N3 : News g L h2 ((dTy, oTy) :: (O.dT, dictOf O.esT O.nT) :: rest2) := fun p hp => by
    rcases List.mem_cons.mp hp with rfl | hp
    · exact N2 _ t1
    · rcases List.mem_cons.mp hp with rfl | hp
      · exact N2 _ t2
      · exact N2 _ ((hnm p).mp hp).1
  have hmm : ∀ y : Str, y ≠ "due" → y ≠ "is_late" → y ≠ "pairs" → m2 y = m y := fun y h1 h2 h3 => (f3 y h1 h2 h3).trans (d3 y h1 h2)
  refine sealG fun pS hS9 => ?_
  obtain ⟨o1, o2, o3, o4, o5⟩ := hOA
  obtain ⟨a1, ⟨a2, a3⟩, a4, ⟨a5, a6⟩, a7⟩ := hTA
  refine hS9 ?_
  clear hS9 pS
  have hgl := hO.f23
  refine segG hb K0 F2 X T l0 ok hO hqs hTy hnum hb2 hlen N3 hne1 (fun p hp => ((hnm p).mp hp).2) (hP.mono up2) ⟨up2 _ o1, up2 _ o2, up2 _ o3, up2 _ o4, up2 _ o5⟩ ⟨a1, ⟨up2 _ a2, up2 _ a3⟩, a4, ⟨up2 _ a5, up2 _ a6⟩, a7⟩ (hD.imp fun _ _ h => h.mono up2) (hC.imp fun _ _ h => h.mono up2) (hWD.imp fun _ _ h => h.mono up2) (hWC.imp fun _ _ h => h.mono up2) hvD hbC ((hmm _ (by decide) (by decide) (by decide)).trans hm1) ((hmm _ (by decide) (by decide) (by decide)).trans hm2) F.above (fun h3 tk3 m3 hv led3 F3 g1 g2 N4 g3 hheard => ?_)
  (try dsimp only)
  refine execs_at 18 2 ?_
  have hmn : ∀ y : Str, y ≠ "due" → y ≠ "is_late" → y ≠ "pairs" → y ≠ "heard" → y ≠ "raised" → m3 y = m y := fun y h1 h2 h3 h4 h5 => (g2 y h4 h5).trans (hmm y h1 h2 h3)
  have up3 : ∀ p ∈ rest, p ∈ led3 := fun p hp => g3 _ (up2 _ hp)
  have hrs3 := hrs.imp fun _ _ h => ConRow.mono (D := PairsAt P.W) (fun hs h => PairsAt.mono hs h) up3 h
  have hts3 := hts.imp fun _ _ h => PairsAt.mono up3 h
  have hm3d : m3 "due" = some dv := (g2 _ (by decide) (by decide)).trans f1
  have hm3l : m3 "is_late" = some (.bool lt) := (g2 _ (by decide) (by decide)).trans f2
  have hm3r := (hmn "rows" (by decide) (by decide) (by decide) (by decide) (by decide)).trans hm3
  have hm3t := (hmn "told" (by decide) (by decide) (by decide) (by decide) (by decide)).trans hm4
  have hm3o := (hmn "outer" (by decide) (by decide) (by decide) (by decide) (by decide)).trans hm2
  rcases hdue with ⟨rfl, q, hq, hq1, hq2⟩ | ⟨hlt, hall, dl, ds, dn, rfl, x1, x2⟩
  · rcases hheard with ⟨rfl, -⟩ | ⟨D, xs, n, rfl, y1, y2, y3, y4⟩
    · exact segH1 hb K0 F3 X T l0 N4 (up3 _ hrw) hrs3 (up3 _ htl) hts3 hqs g1 hm3d hm3r hm3t (fun h' tk' m' led' F' N' s' => hQ h' tk' m' led' F' N' ⟨_, s' _ (up3 _ h5)⟩)
    · rcases y3 q hq with h | h
      · rw [hq1] at h; cases h
      · exact absurd h hq2
  · rcases hheard with ⟨rfl, q, hq, hq1, hq2⟩ | ⟨D, xs, n, rfl, y1, y2, y3, y4⟩
    · rcases hall q hq with h | h
      · rw [hq1] at h; cases h
      · exact absurd h hq2
    · have hsq : ∀ (x : Addr) (o : Obj), (x, o) ∈ led2 → (∃ a n, o.data = .seq a n) → (x, o) ∈ led3 := fun x o hx ⟨a, k, hd9⟩ => by
        refine g3 _ ((hnm _).mpr ⟨hx, fun e => ?_, fun e => ?_⟩)
        · dsimp only at e
          subst e
          have e1 := (N2 _ hx).1
          have e2 := (N2 _ t1).1
          rw [e1] at e2
          cases e2
          refine sealG fun pS hS9 => ?_
          obtain ⟨es, ep, -, hdd, -⟩ := hTy
          refine hS9 ?_
          clear hS9 pS
          rw [hd9] at hdd
          cases hdd
        · dsimp only at e
          subst e
          have e1 := (N2 _ hx).1
          have e2 := (N2 _ t2).1
          rw [e1] at e2
          cases e2
          cases hd9
      have hlb : lt = b := by rw [hlt, hb2, hbD, hbC, lateB_of]
      refine segH2 hb K0 F3 X T l0 (xs := xs) (ds := ds) (T0 := O.T) (dT := O.dT) (esT := late b O.esT) (nT := O.nT) (lt := lt) N4 (up3 _ hrw) hrs3 (up3 _ htl) hts3 hqs y1 y4 (hsq _ _ x1 ⟨_, _, rfl⟩) (x2.imp fun _ _ h => DueAt.seq hsq h) ⟨up3 _ o1, y2⟩ ?_ g1 hm3d hm3r hm3t hm3o hm3l (fun h' tk' m' led' F' N' s' => hQ h' tk' m' led' F' N' ⟨_, s' _ (up3 _ h5)⟩)
      rw [hlb]
      exact getL_put_self (any_of_getL hgl)
 · intro T x h; refine dropT ?zB ?zA; simpa only using (h : DropP ?zA x); assumption
end
section
example : True := by
  w_top off
  trivial
variable {w : World} {p : Program} {loose : List Str} {mean : ExcName → Option Value} {mg mb : Str → Option Value}
theorem getL_set {x y : Str} {v u z : Value} {es : List DictEntry} (hx : getL x es = some (some v)) (h : getL y es = some (some u)) (hne : y ≠ x) : getL y (setL x z es) = some (some u) := (getL_put_ne hne (any_of_getL hx)).trans h
theorem getL_self {x : Str} {v z : Value} {es : List DictEntry} (hx : getL x es = some (some v)) : getL x (setL x z es) = some (some z) := getL_put_self (any_of_getL hx)
theorem set_length {x : Str} {v z : Value} {es : List DictEntry} (hx : getL x es = some (some v)) : (setL x z es).length = es.length := put_length (any_of_getL hx)
theorem told_in {P : Par} (ok : P.Ok w p loose mean mg mb) {l led : Led} (hs : ∀ x ∈ l, x ∈ led) (hP : P.At led) {v : Value} {q : List (Str × Part)} (hn : q.map (·.1) = P.ns) (h : RowTold P.W P.I l v q) : RowIn (compSpec P ok) led v q := by
 refine @dropI _ ?_ ?_
 ·
  refine sealG fun pS hS9 => ?_
  obtain ⟨a, n, nm, t, Sx, dSx, cx, lx, esx, nx, ncx, nlx, txx, vs, e, m, ⟨⟨c1, c2⟩, c3, c4, c5, c6, c7⟩⟩ := h
  refine hS9 ?_
  clear hS9 pS
  exact ⟨a, n, _, _, e, hs _ m, hP, Sx, dSx, cx, lx, esx, nx, ncx, nlx, txx, vs, rfl, ⟨⟨hs _ c1, hs _ c2⟩, c3, c4, hs _ c5, hs _ c6, c7.imp fun _ _ z => z.mono hs⟩, hn⟩
 · intro T x h; refine dropT ?zB ?zA; simpa only using (h : DropP ?zA x); assumption
theorem told_w {P : Par} (ok : P.Ok w p loose mean mg mb) {l led : Led} (hs : ∀ x ∈ l, x ∈ led) (hP : P.At led) {v : Value} {q : List (Str × Part)} (hn : q.map (·.1) = P.ns) (h : RowTold P.W P.I l v q) : RowW (workSpec P ok) led v (hasDisc q || !(q.any fun x => x.2.isTup)) := by
 refine @dropI _ ?_ ?_
 ·
  refine sealG fun pS hS9 => ?_
  obtain ⟨a, n, nm, t, Sx, dSx, cx, lx, esx, nx, ncx, nlx, txx, vs, e, m, ⟨⟨c1, c2⟩, c3, c4, c5, c6, c7⟩⟩ := h
  refine hS9 ?_
  clear hS9 pS
  exact ⟨a, n, _, _, _, e, hs _ m, hP, .inr ⟨q, ⟨Sx, dSx, cx, lx, esx, nx, ncx, nlx, txx, vs, rfl, ⟨⟨hs _ c1, hs _ c2⟩, c3, c4, hs _ c5, hs _ c6, c7.imp fun _ _ z => z.mono hs⟩, hn⟩, rfl⟩⟩
 · intro T x h; refine dropT ?zB ?zA; simpa only using (h : DropP ?zA x); assumption
theorem told_con {W I : Addr} {l led : Led} (hs : ∀ x ∈ l, x ∈ led) {v : Value} {q : List (Str × Part)} (h : RowTold W I l v q) : ConRow (PairsAt W) led v q := by
 refine @dropI _ ?_ ?_
 ·
  refine sealG fun pS hS9 => ?_
  obtain ⟨a, n, nm, t, Sx, dSx, cx, lx, esx, nx, ncx, nlx, txx, vs, e, m, ⟨⟨c1, c2⟩, c3, c4, c5, c6, c7⟩⟩ := h
  refine hS9 ?_
  clear hS9 pS
  exact ⟨a, n, _, Sx, dSx, esx, nx, cx, ncx, txx, lx, e, hs _ m, ⟨hs _ c1, hs _ c2⟩, c4, hs _ c5, lx, nlx, vs, rfl, hs _ c6, c7.imp fun _ _ z => z.mono hs⟩
 · intro T x h; refine dropT ?zB ?zA; simpa only using (h : DropP ?zA x); assumption
theorem All2.with {α β : Type} {R : α → β → Prop} {S : β → Prop} {l : List α} {m : List β} (t : All2 R l m) (h : ∀ b ∈ m, S b) : All2 (fun a b => R a b ∧ S b) l m := by
  induction t with
  | nil => exact .nil
  | cons x _ ih => exact .cons ⟨x, h _ List.mem_cons_self⟩ (ih fun b hb => h b (List.mem_cons_of_mem _ hb))
theorem All2.map_right {α β γ : Type} {R : α → γ → Prop} {f : β → γ} {l : List α} {m : List β} (t : All2 (fun a b => R a (f b)) l m) : All2 R l (m.map f) := by
  induction t with
  | nil => exact .nil
  | cons x _ ih => exact .cons x ih
theorem RecAt.mono {l l' : Led} (hs : ∀ x ∈ l, x ∈ l') {I dI lD S : Addr} {esI : List DictEntry} {nI nD : Nat} {tk : Tok} {vd : List Value} {ns : List Str} (h : RecAt l I dI lD S esI nI nD tk vd ns) : RecAt l' I dI lD S esI nI nD tk vd ns :=
  by obtain ⟨⟨d1, d2⟩, d3, d4, d5, d6, d7⟩ := h; exact ⟨⟨hs _ d1, hs _ d2⟩, d3, d4, d5, hs _ d6, d7.mono hs⟩
theorem FewAt.mono {l l' : Led} (hs : ∀ x ∈ l, x ∈ l') {S dS W dW c : Addr} {esS esW : List DictEntry} {nS nW nc : Nat} {t1 t2 t3 t4 t5 t6 : Tok} {lo hi : Int} (h : FewAt l S dS W dW c esS esW nS nW nc t1 t2 t3 t4 t5 t6 lo hi) : FewAt l' S dS W dW c esS esW nS nW nc t1 t2 t3 t4 t5 t6 lo hi :=
  by obtain ⟨⟨e1, e2⟩, e3, e4, e5, ⟨e6, e7⟩, e8, e9, e10, e11⟩ := h; exact ⟨⟨hs _ e1, hs _ e2⟩, e3, e4, hs _ e5, ⟨hs _ e6, hs _ e7⟩, e8, e9, e10, e11⟩
theorem law_run {fa : Addr} {ql nm : Str} {pr : Arguments} {body : List Stmt} {sc : Scope} {dV kV doc pm cdv ct oc : Value} {an od : Option Addr} {osl : Array (Option Value)} (hb : (hd.heap_1_39 w.params).lookup 518 = some ⟨oc, od, .func (fnOf nm ql pr body sc dV kV doc pm an cdv ct), osl⟩)
    {g : Heap} {L : Addr} {m : Str → Option Value} {s : Shared} {Q : Flow → Shared → Prop} {E : Value → Shared → Prop}
    (K0 : Below callerA g [] g) (F : Fr g L s.heap m) (X : (hd.heap_1_39 w.params).In g) (T : Top p loose mean mg mb g) (l0 : @LT.lt Nat _ 515 L)
    (hE : PassesOwn (model PR w) (callerA.deeper (envOfC ql sc L fa cdv)) (envOfC ql sc L fa cdv) E) (hbl : body.drop 20 = []) (hC : CodeHd g 517 515)
    {S W I dI lD dS dW c kg rw tl : Addr} {esI esS esW : List DictEntry} {nI nD nS nW nc rn tn : Nat} {tk t1 t2 t3 t4 t5 t6 : Tok} {lo hi V : Int} {tV : Tok} {vd rs ts : List Value} {ns : List Str} {oV oF oW ok : Obj} {news : Led} {O : Out} {qs : List (List (Str × Part))}
    (N : News g L s.heap ((O.dT, dictOf O.esT O.nT) :: RowLed L oV oF oW kg ok rw tl rs ts rn tn news)) (hOA : OuterAt w S rs O news) (hne : ∀ p ∈ news, p.1 ∉ [kg, rw, tl, O.dT] ∧ @LT.lt Nat _ (L + 3) p.1) (htd : @LT.lt Nat _ tl O.dT) (hkr : @LT.lt Nat _ kg rw) (hrt : @LT.lt Nat _ rw tl) (hkg : @LT.lt Nat _ (L + 3) kg)
    (hRec : RecAt news I dI lD S esI nI nD tk vd ns) (hFew : FewAt news S dS W dW c esS esW nS nW nc t1 t2 t3 t4 t5 t6 lo hi) (hlo : lo ≤ 1) (hhi : 5 ≤ hi) (hnn : ns.Nodup) (hn2 : ns.length ≤ 2)
    (hVo : oV.data = .cell (some (.int V tV))) (hWo : oW.data = .cell (some (.ref W))) (hrs : All2 (RowTold W I news) rs qs) (hts : All2 (PairsAt W news) ts qs) (hqn : ∀ q ∈ qs, q.map (·.1) = ns) (hql : qs.length ≤ 5)
    (hm2 : m "outer" = some (.ref O.T)) (hm3 : m "rows" = some (.ref rw)) (hm4 : m "told" = some (.ref tl))
    (hQ : ∀ h' tk' m' led', Fr g L h' m' → News g L h' led' → (∃ pt, ((515 : Addr), tabObj pt) ∈ led') → Q (.ret (.bool true)) { s with heap := h', toks := tk' }) :
    wpAny (model PR w) (callerA.deeper (envOfC ql sc L fa cdv)) (execs (body.drop 10) (envOfC ql sc L fa cdv)) Q E s := by
 refine @dropI _ ?_ ?_
 ·
  refine execs_at 10 1 ?_
  refine segR1 hb K0 F X T l0 N (fun h1 tk1 R dR esR nR m1 led1 F1 r1 r2 N1 r3 r4 r5 r6 r7 ⟨vt, r8⟩ ⟨vn, r9⟩ r10 => ?_)
  (try dsimp only)
  refine execs_at 11 1 ?_
  refine segR2 hb K0 F1 X T l0 N1 r4 r5 r7 ⟨vt, r8⟩ r1 (fun h2 tk2 K dK esK nK led2 F2 N2 k1 k2 k3 k4 k5 k6 ⟨vf, k7⟩ k8 => ?_)
  (try dsimp only)
  refine execs_at 12 1 ?_
  refine segR3 hb K0 F2 X T l0 N2 (fun p hp => ?_) (R := R) (dR := dR) (K := K) (List.mem_cons_of_mem _ (k1 _ r5)) List.mem_cons_self (getL_self r8) (List.mem_cons_of_mem _ k3) k6 ⟨vf, k7⟩ r1 (fun h3 tk3 Fm dFm dTy oTy esFm nFm led3 F3 hTy N3 f1 f2 f3 f4 f5 f6 f7 => ?_)
  · rcases List.mem_cons.mp hp with rfl | hp
    · exact k4
    · exact (k2 p hp).2
  (try dsimp only)
  refine execs_at 13 2 ?_
  have hmD : (dR, dictOf (setL "task" (.ref K) esR) nR) ∈ led3 := f1 _ List.mem_cons_self
  have hb0 : ∀ p ∈ (O.dT, dictOf O.esT O.nT) :: RowLed L oV oF oW kg ok rw tl rs ts rn tn news, p ∈ led2 := fun p hp => k1 _ (r3 _ hp)
  have hb3 : ∀ p ∈ led2, p ∈ led3 := fun p hp => f1 _ (List.mem_cons_of_mem _ hp)
  have h515 : ((515 : Addr), tabObj #[]) ∈ led3 := hb3 _ (hb0 _ (by simp only [RowLed, LawLed, List.mem_cons, true_or, or_true]))
  have h5R : @LT.lt Nat _ 515 dR := (r6 (515, tabObj #[]) (by simp only [RowLed, LawLed, List.mem_cons, true_or, or_true])).2
  have hnm : ∀ p, p ∈ ((dTy, oTy) :: (dK, dictOf (setL "frame" (.ref Fm) esK) nK) :: led3).filter (fun p => !(p.1 == 515) && !(p.1 == dR)) ↔ p ∈ (dTy, oTy) :: (dK, dictOf (setL "frame" (.ref Fm) esK) nK) :: led3 ∧ p.1 ≠ 515 ∧ p.1 ≠ dR := fun p => by rw [List.mem_filter]; simp
  obtain ⟨led4, hl4⟩ : ∃ r, r = ((dTy, oTy) :: (dK, dictOf (setL "frame" (.ref Fm) esK) nK) :: led3).filter (fun p => !(p.1 == 515) && !(p.1 == dR)) := ⟨_, rfl⟩
  rw [← hl4] at hnm
  have N4 : News g L h3 ((515, tabObj #[]) :: (dR, dictOf (setL "task" (.ref K) esR) nR) :: led4) := fun p hp => by
    rcases List.mem_cons.mp hp with rfl | hp
    · exact N3 _ (.tail _ (.tail _ h515))
    · rcases List.mem_cons.mp hp with rfl | hp
      · exact N3 _ (.tail _ (.tail _ hmD))
      · exact N3 _ ((hnm p).mp hp).1
  have in4 : ∀ p, p ∈ (dTy, oTy) :: (dK, dictOf (setL "frame" (.ref Fm) esK) nK) :: led3 → p.1 ≠ 515 → p.1 ≠ dR → p ∈ led4 := fun p h1 h2 h3 => (hnm p).mpr ⟨h1, h2, h3⟩
  have hL3 : (L + 3, oV) ∈ (O.dT, dictOf O.esT O.nT) :: RowLed L oV oF oW kg ok rw tl rs ts rn tn news := by simp only [RowLed, LawLed, List.mem_cons, true_or, or_true]
  have hL1 : (L + 1, oW) ∈ (O.dT, dictOf O.esT O.nT) :: RowLed L oV oF oW kg ok rw tl rs ts rn tn news := by simp only [RowLed, LawLed, List.mem_cons, true_or, or_true]
  have hRw : (rw, lstO rs rn) ∈ (O.dT, dictOf O.esT O.nT) :: RowLed L oV oF oW kg ok rw tl rs ts rn tn news := by simp only [RowLed, LawLed, List.mem_cons, true_or, or_true]
  have hTl : (tl, lstO ts tn) ∈ (O.dT, dictOf O.esT O.nT) :: RowLed L oV oF oW kg ok rw tl rs ts rn tn news := by simp only [RowLed, LawLed, List.mem_cons, true_or, or_true]
  have h5m : ((515 : Addr), tabObj #[]) ∈ (O.dT, dictOf O.esT O.nT) :: RowLed L oV oF oW kg ok rw tl rs ts rn tn news := by simp only [RowLed, LawLed, List.mem_cons, true_or, or_true]
  have hON : (O.dT, dictOf O.esT O.nT) ∈ (O.dT, dictOf O.esT O.nT) :: RowLed L oV oF oW kg ok rw tl rs ts rn tn news := List.mem_cons_self
  have hsub : ∀ p ∈ news, p ∈ (O.dT, dictOf O.esT O.nT) :: RowLed L oV oF oW kg ok rw tl rs ts rn tn news := fun p hp => by simp only [RowLed, LawLed, List.mem_cons, hp, or_true]
  have toR : ∀ p ∈ (O.dT, dictOf O.esT O.nT) :: RowLed L oV oF oW kg ok rw tl rs ts rn tn news, p.1 ≠ 515 → p ∈ led4 := fun p hp h5 => in4 p (.tail _ (.tail _ (hb3 _ (hb0 _ hp)))) h5 (Nat.ne_of_lt (r6 p hp).2)
  have ltT : ∀ p ∈ led2, @LT.lt Nat _ p.1 dTy := fun p hp => f5 p (.tail _ (.tail _ hp))
  have hdRT : @LT.lt Nat _ dR dTy := f5 _ (.tail _ List.mem_cons_self)
  have hdKT : @LT.lt Nat _ dK dTy := f5 _ List.mem_cons_self
  have hR5 := (r6 _ h5m).1
  have hRO := (r6 _ hON).1
  have hdRO := (r6 _ hON).2
  have hKO := (k5 _ (r3 _ hON)).1
  have hdKO := (k5 _ (r3 _ hON)).2
  have hK5 := (k5 _ (r3 _ h5m)).1
  have hdK5 := (k5 _ (r3 _ h5m)).2
  have hFO := f6 _ (List.mem_cons_of_mem _ (hb0 _ hON))
  have hF5 := f6 _ (List.mem_cons_of_mem _ (hb0 _ h5m))
  have hFR := f6 _ List.mem_cons_self
  dsimp only at hR5 hRO hdRO hKO hdKO hK5 hdK5 hFO hF5 hFR
  have hO5 : @Ne Nat O.dT 515 := by omega
  refine segR4 hb K0 F3 X T l0 (W := W) (R := R) hC N4 (fun p hp => ((hnm p).mp hp).2.2) (fun p hp => ((hnm p).mp hp).2.1) h5R (in4 _ (.tail _ (.tail _ (hb3 _ (k1 _ r5)))) (Nat.ne_of_gt hR5) (r4 _ r5)) (by rw [set_length r8]; exact r7) ⟨vn, getL_set r8 r9 (by decide)⟩ hVo (toR _ hL3 (by show @Ne Nat _ _; omega)) r1 (fun h4 tk4 nd o' fh ofn c' oc' kv m4 led5 F4 e1 e2 e3 N5 e4 e5 e6 e7 e8 ⟨pt, e12⟩ ⟨oc1, od1, fd1, osl1, e9⟩ e10 e11 => ?_)
  subst e9
  (try dsimp only)
  have hTy4 : (dTy, oTy) ∈ led4 := in4 _ List.mem_cons_self (Nat.ne_of_gt (ltT _ (hb0 _ h5m))) (Nat.ne_of_gt hdRT)
  have hO4 : (O.dT, dictOf O.esT O.nT) ∈ led4 := toR _ hON hO5
  have hno : ∀ p, p ∈ ((dR, dictOf (setL "nodes" (.ref nd) (setL "task" (.ref K) esR)) nR) :: led5).filter (fun p => !(p.1 == dTy) && !(p.1 == O.dT)) ↔ p ∈ (dR, dictOf (setL "nodes" (.ref nd) (setL "task" (.ref K) esR)) nR) :: led5 ∧ p.1 ≠ dTy ∧ p.1 ≠ O.dT := fun p => by rw [List.mem_filter]; simp
  obtain ⟨rest, hl5⟩ : ∃ r, r = ((dR, dictOf (setL "nodes" (.ref nd) (setL "task" (.ref K) esR)) nR) :: led5).filter (fun p => !(p.1 == dTy) && !(p.1 == O.dT)) := ⟨_, rfl⟩
  rw [← hl5] at hno
  have N6 : News g L h4 ((dTy, oTy) :: (O.dT, dictOf O.esT O.nT) :: rest) := fun p hp => by
    rcases List.mem_cons.mp hp with rfl | hp
    · exact N5 _ (.tail _ (e4 _ hTy4))
    · rcases List.mem_cons.mp hp with rfl | hp
      · exact N5 _ (.tail _ (e4 _ hO4))
      · exact N5 _ ((hno p).mp hp).1
  have in6 : ∀ p ∈ led4, p.1 ≠ dTy → p.1 ≠ O.dT → p ∈ rest := fun p h1 h2 h3 => (hno p).mpr ⟨.tail _ (e4 _ h1), h2, h3⟩
  have toS : ∀ p ∈ (O.dT, dictOf O.esT O.nT) :: RowLed L oV oF oW kg ok rw tl rs ts rn tn news, p.1 ≠ 515 → p.1 ≠ O.dT → p ∈ rest := fun p hp h5 hO => in6 p (toR p hp h5) (Nat.ne_of_lt (ltT _ (hb0 _ hp))) hO
  have up : ∀ p ∈ news, p ∈ rest := fun p hp => toS p (hsub p hp) (by have h9 := (hne p hp).2; show @Ne Nat _ _; omega) (fun q => (hne p hp).1 (by rw [q]; simp))
  have hnew := e11 _ hTy4
  have hnewO := e11 _ hO4
  dsimp only at hnew hnewO
  have sR : (R, instObj 159 dR) ∈ rest := in6 _ (in4 _ (.tail _ (.tail _ (hb3 _ (k1 _ r5)))) (Nat.ne_of_gt hR5) (r4 _ r5)) (Nat.ne_of_lt (ltT _ (k1 _ r5))) (Nat.ne_of_gt hRO)
  have sdR : (dR, dictOf (setL "nodes" (.ref nd) (setL "task" (.ref K) esR)) nR) ∈ rest := (hno _).mpr ⟨List.mem_cons_self, Nat.ne_of_lt hdRT, Nat.ne_of_gt hdRO⟩
  have snd : (nd, o') ∈ rest := (hno _).mpr ⟨.tail _ e6, Nat.ne_of_gt hnew.1, Nat.ne_of_gt hnewO.1⟩
  have sfh : (fh, (⟨oc1, od1, .func fd1, osl1⟩ : Obj)) ∈ rest := (hno _).mpr ⟨.tail _ e7, Nat.ne_of_gt hnew.2.1, Nat.ne_of_gt hnewO.2.1⟩
  have sc : (c', oc') ∈ rest := (hno _).mpr ⟨.tail _ e8, Nat.ne_of_gt hnew.2.2, Nat.ne_of_gt hnewO.2.2⟩
  have sV : (L + 3, oV) ∈ rest := toS _ hL3 (by show @Ne Nat _ _; omega) (by show @Ne Nat _ _; omega)
  have sW : (L + 1, oW) ∈ rest := toS _ hL1 (by show @Ne Nat _ _; omega) (by show @Ne Nat _ _; omega)
  have srw : (rw, lstO rs rn) ∈ rest := toS _ hRw (by show @Ne Nat _ _; omega) (by show @Ne Nat _ _; omega)
  have stl : (tl, lstO ts tn) ∈ rest := toS _ hTl (by show @Ne Nat _ _; omega) (by show @Ne Nat _ _; omega)
  have sK : (K, instObj 501 dK) ∈ rest := in6 _ (in4 _ (.tail _ (.tail _ (hb3 _ k3))) (Nat.ne_of_gt hK5) (k2 _ k3).1) (Nat.ne_of_lt (ltT _ k3)) (Nat.ne_of_gt hKO)
  have sdK : (dK, dictOf (setL "frame" (.ref Fm) esK) nK) ∈ rest := in6 _ (in4 _ (.tail _ List.mem_cons_self) (Nat.ne_of_gt hdK5) (Ne.symm k4)) (Nat.ne_of_lt hdKT) (Nat.ne_of_gt hdKO)
  have sFm : (Fm, instObj 138 dFm) ∈ rest := in6 _ (in4 _ (.tail _ (.tail _ f3.1)) (Nat.ne_of_gt hF5.1) (Nat.ne_of_gt hFR.1)) (f2 _ f3.1).2 (Nat.ne_of_gt hFO.1)
  have sdFm : (dFm, dictOf esFm nFm) ∈ rest := in6 _ (in4 _ (.tail _ (.tail _ f3.2)) (Nat.ne_of_gt hF5.2) (Nat.ne_of_gt hFR.2)) (f2 _ f3.2).2 (Nat.ne_of_gt hFO.2)
  have h5T := ltT _ (hb0 _ h5m)
  dsimp only at h5T
  have s5 : ((515 : Addr), tabObj pt) ∈ rest := (hno _).mpr ⟨.tail _ e12, Nat.ne_of_lt h5T, Ne.symm hO5⟩
  refine sealG fun pS hS9 => ?_
  obtain ⟨hOh, ⟨o1, o2, o3, o4, o5⟩, hvC, ⟨a, na, nv, hvD, hma⟩, hlen, tn9, hnum⟩ := hOA
  refine hS9 ?_
  clear hS9 pS
  let P : Par := ⟨R, W, I, S, dR, nd, fh, c', L + 3, dI, lD, dS, dW, c, setL "nodes" (.ref nd) (setL "task" (.ref K) esR), esI, esS, esW, nR, nI, nD, nS, nW, nc, o', oc', oV, oc1, od1, fd1, osl1, kv, V, lo, hi, tV, tk, t1, t2, t3, t4, t5, t6, vd, ns⟩
  have okP : P.Ok w p loose mean mg mb := ⟨e10, e2, e3, hlo, hhi, hnn, hn2⟩
  have hPA : P.At rest := ⟨⟨⟨sR, sdR⟩, getL_self (getL_set r8 r9 (by decide)), snd⟩, ⟨sfh, sc, sV⟩, RecAt.mono up hRec, FewAt.mono up hFew⟩
  have hrq := All2.with hrs hqn
  refine law_tail hb K0 F4 X T l0 hE hbl (P := P) okP (O := O) hOh (qs := qs) (by omega) (K := K) (dK := dK) (Fm := Fm) (dFm := dFm) (dTy := dTy) hTy hnum (bD := [true]) (bC := qs.map fun q => hasDisc q || !(q.any fun x => x.2.isTup)) rfl hlen N6 ?_ (fun p hp => ((hno p).mp hp).2) hPA ⟨up _ o1, up _ o2, up _ o3, up _ o4, up _ o5⟩ ⟨?_, ⟨sK, sdK⟩, getL_self k7, ⟨sFm, sdFm⟩, f4⟩ ?_ ?_ ?_ ?_ ?_ rfl rfl hVo sV hWo sW srw (hrs.imp fun _ _ h => told_con up h) stl (hts.imp fun _ _ h => PairsAt.mono up h) hql (fun q hq => ?_) ((e1 _ (by decide)).trans r1) ((e1 _ (by decide)).trans ((r2 _ (by decide)).trans hm2)) ((e1 _ (by decide)).trans ((r2 _ (by decide)).trans hm3)) ((e1 _ (by decide)).trans ((r2 _ (by decide)).trans hm4)) s5 (fun h' tk' m' led' F' N' x => hQ h' tk' m' led' F' N' x)
  · exact Nat.ne_of_gt (ltT _ (hb0 _ hON))
  · exact getL_set (getL_set r8 r9 (by decide)) (getL_self r8) (by decide)
  · rw [hvD]
    exact .cons ⟨a, na, nv, _, rfl, up _ hma, hPA, rfl⟩ .nil
  · rw [hvC]
    exact hrq.imp fun _ _ h => told_in okP up hPA h.2 h.1
  · rw [hvD]
    exact .cons ⟨a, na, nv, _, _, rfl, up _ hma, hPA, .inl ⟨rfl, rfl⟩⟩ .nil
  · rw [hvC]
    exact All2.map_right (hrq.imp fun _ _ h => told_w okP up hPA h.2 h.1)
  · rw [hvD]; simp
  · rw [← List.length_map (f := (·.1)), hqn q hq]; exact hn2
 · intro T x h; refine dropT ?zB ?zA; simpa only using (h : DropP ?zA x); assumption
end
section
example : True := by
  w_top off
  trivial
variable {w : World} {p : Program} {loose : List Str} {mean : ExcName → Option Value} {mg mb : Str → Option Value}
theorem law_body {fa : Addr} {ql nm : Str} {pr : Arguments} {body : List Stmt} {sc : Scope} {dV kV doc pm cdv ct oc : Value} {an od : Option Addr} {osl : Array (Option Value)} (hb : (hd.heap_1_39 w.params).lookup 518 = some ⟨oc, od, .func (fnOf nm ql pr body sc dV kV doc pm an cdv ct), osl⟩)
    {g : Heap} {L : Addr} {m : Str → Option Value} {s : Shared} {Q : Flow → Shared → Prop} {E : Value → Shared → Prop}
    (K0 : Below callerA g [] g) (F : Fr g L s.heap m) (X : (hd.heap_1_39 w.params).In g) (T : Top p loose mean mg mb g) (l0 : @LT.lt Nat _ 515 L)
    (hE : PassesOwn (model PR w) (callerA.deeper (envOfC ql sc L fa cdv)) (envOfC ql sc L fa cdv) E) (hbl : body.drop 20 = []) (hC : CodeHd g 517 515)
    {sa : Addr} {vs0 : List Value} {zs : List Int} {oV oF oW : Obj} (hsl : g.IsList sa vs0.toArray) (hIn : IntsAre vs0 zs) (hz : ¬ (63 : Int) < zs.length) (hcV : oV.data = .cell none) (hcF : oF.data = .cell none) (hcW : oW.data = .cell none) (N : News g L s.heap [(L + 3, oV), (L + 2, oF), (L + 1, oW), (515, tabObj #[])]) (hm : m "script" = some (.ref sa))
    (hQ : ∀ h' tk' m' led', Fr g L h' m' → News g L h' led' → (∃ pt, ((515 : Addr), tabObj pt) ∈ led') → Q (.ret (.bool true)) { s with heap := h', toks := tk' }) :
    wpAny (model PR w) (callerA.deeper (envOfC ql sc L fa cdv)) (execs body (envOfC ql sc L fa cdv)) Q E s := by
 refine @dropI _ ?_ ?_
 ·
  show wpAny _ _ (execs (body.drop 0) _) _ _ _
  refine execs_at 0 1 ?_
  refine segA0 hb K0 F X T l0 hsl hIn hz N hm (fun h1 tk1 kg cl ok1 tz1 vs n cs m1 news1 F1 a1 a2 a3 a4 a5 a6 a7 N1 a8 a9 => ?_)
  (try dsimp only)
  refine execs_at 1 1 ?_
  refine segA1 hb K0 F1 X T l0 hcW a8 a9 N1 (fun h2 tk2 W dW esW nW t4 t5 t6 lo hi oW2 news2 F2 b1 N2 b2 b3 b4 b5 b6 b7 b8 b9 b10 => ?_)
  (try dsimp only)
  refine execs_at 2 1 ?_
  refine segA2 hb K0 F2 X T l0 hcF b1 b3 a9 N2 (fun h3 tk3 S dS c esS nS nc t1 t2 t3 oF3 news3 F3 c1 N3 c2 c3 c4 c5 c6 c7 => ?_)
  (try dsimp only)
  refine execs_at 3 2 ?_
  refine segB hb K0 F3 X T l0 a9 (fun p hp => (c3 p hp).1) N3 a2 (Int.le_refl 0) (by decide) (c2 _ (b2 _ a3)) a4 a5 a6 a7 a1 (fun h4 tk4 ok4 tz4 t vn nn ns m4 d1 d2 d3 d4 d5 F4 d6 d7 N4 d8 d9 => ?_)
  (try dsimp only)
  refine execs_at 5 1 ?_
  have e0 : ∀ p ∈ (t, tupO vn nn) :: news3, p.1 ≠ kg ∧ @LT.lt Nat _ (L + 3) p.1 := fun p hp => by
    rcases List.mem_cons.mp hp with rfl | hp
    · exact ⟨Nat.ne_of_gt d9, Nat.lt_trans a9 d9⟩
    · exact c3 p hp
  refine segC hb K0 F4 X T l0 a9 e0 N4 c1 List.mem_cons_self d2 d5 d6 (fun h5 tk5 I dI lD esI nI nD tk vd m5 news5 hRec F5 e1 e2 N5 e3 e4 => ?_)
  (try dsimp only)
  refine execs_at 6 2 ?_
  have hFew : FewAt news5 S dS W dW c esS esW nS nW nc t1 t2 t3 t4 t5 t6 lo hi := FewAt.mono (fun x hx => e3 _ (.tail _ hx)) ⟨c4, c5, c6, c7, ⟨c2 _ b4.1, c2 _ b4.2⟩, b5, b6, b7, b8⟩
  refine segD hb K0 F5 X T l0 hE a9 (fun p hp => ⟨(e4 p hp).1, (e4 p hp).2⟩) N5 d1 (by omega) (by omega) (e3 _ (.tail _ (c2 _ (b2 _ a3)))) a4 a5 a6 a7 b1 (e3 _ List.mem_cons_self) d2 d5 ((e2 _ (by decide)).trans ((d7 _ (by decide) (by decide)).trans a1)) ((e2 _ (by decide)).trans d6) e1 (fun m6 led6 h6 tk6 rw tl nr f1 f2 f3 hJ F6 N6 => ?_)
  (try dsimp only)
  refine execs_at 8 2 ?_
  refine sealG fun pS hS9 => ?_
  obtain ⟨ok6, tz6, k6, rs, ts, rn, tn, qs, news6, rfl, g1, g2, g3, g4, g5, g6, g7, g8, g9, g10, g11, g12, g13, g14⟩ := hJ
  refine hS9 ?_
  clear hS9 pS
  refine segE hb K0 F6 X T l0 a9 f2 f3 g9 N6 g1 g2 (by omega) (g8 _ (e3 _ (.tail _ (c2 _ (b2 _ a3))))) a4 a5 a6 a7 hcV c1 (by rw [g5.length]; omega) g10 g13 g14 (fun h7 tk7 O V tV oV7 ok7 m7 news7 i1 i2 i3 F7 i4 i5 i6 hOA N7 i7 i8 i9 => ?_)
  (try dsimp only)
  have up : ∀ p ∈ news5, p ∈ news7 := fun p hp => i7 p (g8 p hp)
  exact law_run hb K0 F7 X T l0 hE hbl hC N7 hOA i8 i9 f2 f3 a9 (RecAt.mono up hRec) (FewAt.mono up hFew) b9 b10 d3 d5 i3 b1 (g5.imp fun _ _ h => h.mono i7) (g6.imp fun _ _ h => PairsAt.mono i7 h) g7 (by omega) i4 i5 i6 (fun h' tk' m' led' F' N' x => hQ h' tk' m' led' F' N' x)
 · intro T x h; refine dropT ?zB ?zA; simpa only using (h : DropP ?zA x); assumption
end
end Mine
set_option Elab.async true
theorem Mine.tst.tw2169792871197554288 : True := trivial
theorem Mine.tst.tw17563169692716023404 : True := trivial
theorem Mine.tst.tw6868389802908039976 : True := trivial
theorem Mine.tst.tw17910754151709320429 : True := trivial
theorem Mine.tst.tw7895440957140861945 : True := trivial
theorem Mine.tst.tw15691025728854562220 : True := trivial
theorem Mine.tst.tw10367983003099128355 : True := trivial
theorem Mine.tst.tw14196515718957429185 : True := trivial
theorem Mine.tst.tw15953729001406087795 : True := trivial
theorem Mine.tst.tw18423034656770222954 : True := trivial
theorem Mine.tst.tw14567797115526551521 : True := trivial
theorem Mine.tst.tw3061610539151091010 : True := trivial
theorem Mine.tst.tw17554927301841541177 : True := trivial
theorem Mine.tst.tw5902796566761548338 : True := trivial
theorem Mine.tst.tw2822412824286478159 : True := trivial
theorem Mine.tst.tw9174473892742092761 : True := trivial
theorem Mine.tst.tw17138968693990829969 : True := trivial
theorem Mine.tst.tw14228243871305576531 : True := trivial
theorem Mine.tst.tw7126981428591994365 : True := trivial
theorem Mine.tst.tw467695613001973789 : True := trivial
theorem Mine.tst.tw16394982000457706575 : True := trivial
theorem Mine.tst.tw11648346242076625163 : True := trivial
theorem Mine.tst.tw5792746575773994148 : True := trivial
theorem Mine.tst.tw9795887928284397602 : True := trivial
theorem Mine.tst.tw7893384012250506402 : True := trivial
theorem Mine.tst.tw2416189202232560680 : True := trivial
theorem Mine.tst.tw15632136839183142646 : True := trivial
theorem Mine.tst.tw6365676774494926233 : True := trivial
theorem Mine.tst.tw14373327335473515202 : True := trivial
theorem Mine.tst.tw8007469061213548164 : True := trivial
theorem Mine.tst.tw17538067768599812706 : True := trivial
theorem Mine.tst.tw15937734947338465428 : True := trivial
theorem Mine.tst.tw7427902907402087286 : True := trivial
theorem Mine.tst.tw18356430970817552187 : True := trivial
theorem Mine.tst.tw2993709768893182837 : True := trivial
theorem Mine.tst.tw5088223118975126972 : True := trivial
theorem Mine.tst.tw15859418240223001682 : True := trivial
theorem Mine.tst.tw5052923149102668084 : True := trivial
theorem Mine.tst.tw11049379513847045731 : True := trivial
theorem Mine.tst.tw3973219185488399859 : True := trivial
theorem Mine.tst.tw6306849837624473997 : True := trivial
theorem Mine.tst.tw2718815225060643546 : True := trivial
theorem Mine.tst.tw13627802704161287176 : True := trivial
theorem Mine.tst.tw3426785509213696287 : True := trivial
theorem Mine.tst.tw5383244849006679421 : True := trivial
theorem Mine.tst.tw5065626458602328956 : True := trivial
theorem Mine.tst.tw12455255506054272763 : True := trivial
theorem Mine.tst.tw3702567056992672565 : True := trivial
theorem Mine.tst.tw5756968910267532013 : True := trivial
theorem Mine.tst.tw12356289505208206437 : True := trivial
theorem Mine.tst.tw17702915789518511908 : True := trivial
theorem Mine.tst.tw18092511583373235557 : True := trivial
theorem Mine.tst.tw3975179448983626082 : True := trivial
theorem Mine.tst.tw8735361196558248385 : True := trivial
theorem Mine.tst.tw11808551258829678053 : True := trivial
theorem Mine.tst.tw16797286247808264335 : True := trivial
theorem Mine.tst.tw13378155194675512602 : True := trivial
theorem Mine.tst.tw7978455908064854373 : True := trivial
theorem Mine.tst.tw4052658349010911706 : True := trivial
theorem Mine.tst.tw9048172985009007096 : True := trivial
theorem Mine.tst.tw15814948332298756296 : True := trivial
theorem Mine.tst.tw7100695403900287898 : True := trivial
theorem Mine.tst.tw4636650117267863677 : True := trivial
theorem Mine.tst.tw11755678223359084284 : True := trivial
theorem Mine.tst.tw2675164986385107582 : True := trivial
theorem Mine.tst.tw13381666310534434701 : True := trivial
theorem Mine.tst.tw10358397369913635272 : True := trivial
theorem Mine.tst.tw9672743455145602899 : True := trivial
theorem Mine.tst.tw6625670372091312421 : True := trivial
theorem Mine.tst.tw10100438798801159498 : True := trivial
theorem Mine.tst.tw18351740862142695957 : True := trivial
theorem Mine.tst.tw16098766215824810615 : True := trivial
theorem Mine.tst.tw1295698114595041042 : True := trivial
theorem Mine.tst.tw11805690770714759797 : True := trivial
theorem Mine.tst.tw7596747376809335252 : True := trivial
theorem Mine.tst.tw6080951901918072981 : True := trivial
theorem Mine.tst.tw11891986930668115795 : True := trivial
theorem Mine.tst.tw8004306159832808429 : True := trivial
theorem Mine.tst.tw3572527265893539689 : True := trivial
theorem Mine.tst.tw3527424334175840029 : True := trivial
theorem Mine.tst.tw1064982340457557168 : True := trivial
theorem Mine.tst.tw2929970021391370671 : True := trivial
theorem Mine.tst.tw8901486720515171603 : True := trivial
theorem Mine.tst.tw16020173090750184040 : True := trivial
theorem Mine.tst.tw13381700045657883758 : True := trivial
theorem Mine.tst.tw12022915445495964399 : True := trivial
theorem Mine.tst.tw7476362897079886808 : True := trivial
theorem Mine.tst.tw7644839469551082388 : True := trivial
theorem Mine.tst.tw8296127595978255039 : True := trivial
theorem Mine.tst.tw16921891151626967885 : True := trivial
theorem Mine.tst.tw2250207011766510254 : True := trivial
theorem Mine.tst.tw9479356519540227766 : True := trivial
theorem Mine.tst.tw5846987866644314044 : True := trivial
theorem Mine.tst.tw12907834933357133413 : True := trivial
theorem Mine.tst.tw10365066466739485827 : True := trivial
theorem Mine.tst.tw15222778808742303948 : True := trivial
theorem Mine.tst.tw12484055123518243562 : True := trivial
theorem Mine.tst.tw13817140405518100064 : True := trivial
theorem Mine.tst.tw751714913457198182 : True := trivial
theorem Mine.tst.tw16047877216317121270 : True := trivial
theorem Mine.tst.tw8070925886503269158 : True := trivial
theorem Mine.tst.tw7014496210106196192 : True := trivial
theorem Mine.tst.tw250188152043092804 : True := trivial
theorem Mine.tst.tw3273402034486012005 : True := trivial
theorem Mine.tst.tw5070939976279508780 : True := trivial
theorem Mine.tst.tw4475671502369229120 : True := trivial
theorem Mine.tst.tw16852273045191414607 : True := trivial
theorem Mine.tst.tw11782263392567336655 : True := trivial
theorem Mine.tst.tw13897027419380361479 : True := trivial
theorem Mine.tst.tw3370996075955941847 : True := trivial
theorem Mine.tst.tw5253980221923251742 : True := trivial
theorem Mine.tst.tw13901908977519941359 : True := trivial
theorem Mine.tst.tw13485495772568040805 : True := trivial
theorem Mine.tst.tw11345347896153440846 : True := trivial
theorem Mine.tst.tw4235444386483363168 : True := trivial
theorem Mine.tst.tw1360247071867482590 : True := trivial
theorem Mine.tst.tw8877398720926607132 : True := trivial
theorem Mine.tst.tw6513130865555821862 : True := trivial
theorem Mine.tst.tw15218164281370153946 : True := trivial
theorem Mine.tst.tw5773037727671130517 : True := trivial
theorem Mine.tst.tw2120640905730658527 : True := trivial
theorem Mine.tst.tw7605485529601377441 : True := trivial
theorem Mine.tst.tw9368576737478570888 : True := trivial
theorem Mine.tst.tw7972768160541562852 : True := trivial
theorem Mine.tst.tw2119409901562062135 : True := trivial
theorem Mine.tst.tw15799109749675766846 : True := trivial
theorem Mine.tst.tw12868579351372207036 : True := trivial
theorem Mine.tst.tw12665170227980598699 : True := trivial
theorem Mine.tst.tw10065415341844484496 : True := trivial
theorem Mine.tst.tw2513156845971983769 : True := trivial
theorem Mine.tst.tw10751777669691070240 : True := trivial
theorem Mine.tst.tw4675517519037842365 : True := trivial
theorem Mine.tst.tw7731418467878327137 : True := trivial
theorem Mine.tst.tw9638972682295791069 : True := trivial
theorem Mine.tst.tw4001636570353794937 : True := trivial
theorem Mine.tst.tw3706653612299637761 : True := trivial
theorem Mine.tst.tw16961984057340193091 : True := trivial
theorem Mine.tst.tw10437238159953527767 : True := trivial
theorem Mine.tst.tw9271328337136565190 : True := trivial
theorem Mine.tst.tw9012421237956471986 : True := trivial
theorem Mine.tst.tw2023286454866991302 : True := trivial
theorem Mine.tst.tw17561141854393628068 : True := trivial
theorem Mine.tst.tw6553268301844770981 : True := trivial
theorem Mine.tst.tw4197452989786206977 : True := trivial
theorem Mine.tst.tw1508627454378833786 : True := trivial
theorem Mine.tst.tw11678368937868881519 : True := trivial
theorem Mine.tst.tw1757938201048317723 : True := trivial
theorem Mine.tst.tw4656536901670328520 : True := trivial
theorem Mine.tst.tw3221182078062441088 : True := trivial
theorem Mine.tst.tw5369861517027067393 : True := trivial
theorem Mine.tst.tw13564490080198672307 : True := trivial
theorem Mine.tst.tw12844796098921725073 : True := trivial
theorem Mine.tst.tw11006586867338099744 : True := trivial
theorem Mine.tst.tw3373191222160097313 : True := trivial
theorem Mine.tst.tw16419797953981446153 : True := trivial
theorem Mine.tst.tw15117685889355502223 : True := trivial
theorem Mine.tst.tw14025238531545261312 : True := trivial
theorem Mine.tst.tw7603467642089945431 : True := trivial
theorem Mine.tst.tw3429420262143298840 : True := trivial
theorem Mine.tst.tw14306541380368957516 : True := trivial
theorem Mine.tst.tw11905007324187275457 : True := trivial
theorem Mine.tst.tw6655898149506392609 : True := trivial
theorem Mine.tst.tw14095927352520728494 : True := trivial
theorem Mine.tst.tw17651674643424488279 : True := trivial
theorem Mine.tst.tw173364029868548367 : True := trivial
theorem Mine.tst.tw17132125974137121795 : True := trivial
theorem Mine.tst.tw11048770583290783747 : True := trivial
theorem Mine.tst.tw10432652963041280053 : True := trivial
theorem Mine.tst.tw101442201513813877 : True := trivial
theorem Mine.tst.tw7095598922641730268 : True := trivial
theorem Mine.tst.tw6610859775525610673 : True := trivial
theorem Mine.tst.tw14419310160178957501 : True := trivial
theorem Mine.tst.tw10669012213073816696 : True := trivial
theorem Mine.tst.tw8825508837443485495 : True := trivial
theorem Mine.tst.tw17491598144851708065 : True := trivial
theorem Mine.tst.tw16766473069141150046 : True := trivial
theorem Mine.tst.tw13416872624086602238 : True := trivial
theorem Mine.tst.tw1306966700395166649 : True := trivial
theorem Mine.tst.tw5626033313196430191 : True := trivial
theorem Mine.tst.tw346243319190124483 : True := trivial
theorem Mine.tst.tw17078068704612723490 : True := trivial
theorem Mine.tst.tw15582364646822052660 : True := trivial
theorem Mine.tst.tw12634488115979273458 : True := trivial
theorem Mine.tst.tw10342910066522914069 : True := trivial
theorem Mine.tst.tw10423772705907257459 : True := trivial
theorem Mine.tst.tw6459765595814723014 : True := trivial
theorem Mine.tst.tw3412674031764010212 : True := trivial
theorem Mine.tst.tw9606020059117553901 : True := trivial
theorem Mine.tst.tw3108834643889166892 : True := trivial
theorem Mine.tst.tw17469743012977406671 : True := trivial
theorem Mine.tst.tw5744993580946751403 : True := trivial
theorem Mine.tst.tw4038875724513562464 : True := trivial
theorem Mine.tst.tw13226095079508466223 : True := trivial
theorem Mine.tst.tw2423713463277550035 : True := trivial
theorem Mine.tst.tw10071336635879787572 : True := trivial
theorem Mine.tst.tw8592793284760635103 : True := trivial
theorem Mine.tst.tw4027036558820916716 : True := trivial
theorem Mine.tst.tw10246241396213292071 : True := trivial
theorem Mine.tst.tw15894661366308706991 : True := trivial
theorem Mine.tst.tw8151056976618879251 : True := trivial
theorem Mine.tst.tw18136720885827962502 : True := trivial
theorem Mine.tst.tw321134781134271142 : True := trivial
theorem Mine.tst.tw14414454399227380474 : True := trivial
theorem Mine.tst.tw15903563036791690282 : True := trivial
theorem Mine.tst.tw5772770445517264737 : True := trivial
theorem Mine.tst.tw9021513064461851508 : True := trivial
theorem Mine.tst.tw3774938635584398523 : True := trivial
theorem Mine.tst.tw2492526930177011097 : True := trivial
theorem Mine.tst.tw9566753760112213153 : True := trivial
theorem Mine.tst.tw12579284189167425424 : True := trivial
theorem Mine.tst.tw714093411507833348 : True := trivial
theorem Mine.tst.tw16588597128597468330 : True := trivial
theorem Mine.tst.tw8844560698207933410 : True := trivial
theorem Mine.tst.tw4928597201986471242 : True := trivial
theorem Mine.tst.tw17752592421042665492 : True := trivial
theorem Mine.tst.tw4746945312224661801 : True := trivial
theorem Mine.tst.tw2291488741103254326 : True := trivial
theorem Mine.tst.tw1423430544500534783 : True := trivial
theorem Mine.tst.tw8531580371673050450 : True := trivial
theorem Mine.tst.tw4930413809212559879 : True := trivial
theorem Mine.tst.tw16031958567616784342 : True := trivial
theorem Mine.tst.tw17232803817100553617 : True := trivial
theorem Mine.tst.tw1893473201930040 : True := trivial
theorem Mine.tst.tw15612288213756286628 : True := trivial
theorem Mine.tst.tw7204755845333320659 : True := trivial
theorem Mine.tst.tw2524427153958793694 : True := trivial
theorem Mine.tst.tw7851214082503705581 : True := trivial
theorem Mine.tst.tw15127736687197010148 : True := trivial
theorem Mine.tst.tw18129809369333171230 : True := trivial
theorem Mine.tst.tw13597451649735900419 : True := trivial
theorem Mine.tst.tw15069807395184153187 : True := trivial
theorem Mine.tst.tw2909185592735097759 : True := trivial
theorem Mine.tst.tw3518399246283810699 : True := trivial
theorem Mine.tst.tw10696037161157524672 : True := trivial
theorem Mine.tst.tw8135706930632382221 : True := trivial
theorem Mine.tst.tw7360221402165725763 : True := trivial
theorem Mine.tst.tw16664463648415096088 : True := trivial
theorem Mine.tst.tw7182809644427484114 : True := trivial
theorem Mine.tst.tw10416193643299254018 : True := trivial
theorem Mine.tst.tw3627350462894876179 : True := trivial
theorem Mine.tst.tw6045929962274593236 : True := trivial
theorem Mine.tst.tw6546349612513183354 : True := trivial
theorem Mine.tst.tw7075059786180167420 : True := trivial
theorem Mine.tst.tw9580484979325540049 : True := trivial
theorem Mine.tst.tw10190439267230079321 : True := trivial
theorem Mine.tst.tw2099786503378449925 : True := trivial
theorem Mine.tst.tw16434013509345289218 : True := trivial
theorem Mine.tst.tw8205920989920196497 : True := trivial
theorem Mine.tst.tw4785574539565360807 : True := trivial
theorem Mine.tst.tw2144646406615582551 : True := trivial
theorem Mine.tst.tw2887948285929380548 : True := trivial
theorem Mine.tst.tw13241179117464410174 : True := trivial
theorem Mine.tst.tw12379495475633454567 : True := trivial
theorem Mine.tst.tw8023555137839647201 : True := trivial
theorem Mine.tst.tw15860149778093832692 : True := trivial
theorem Mine.tst.tw4762565613170009778 : True := trivial
theorem Mine.tst.tw12512721570441728606 : True := trivial
theorem Mine.tst.tw7139363330734081401 : True := trivial
theorem Mine.tst.tw15496067530452315416 : True := trivial
theorem Mine.tst.tw13887641960356349312 : True := trivial
theorem Mine.tst.tw5862723095523702307 : True := trivial
theorem Mine.tst.tw4074901176695293106 : True := trivial
theorem Mine.tst.tw9886779702285340437 : True := trivial
theorem Mine.tst.tw13029568074126322238 : True := trivial
theorem Mine.tst.tw9395915043194209823 : True := trivial
theorem Mine.tst.tw10285258322862156494 : True := trivial
theorem Mine.tst.tw4664077335982739178 : True := trivial
theorem Mine.tst.tw15899835586049878423 : True := trivial
theorem Mine.tst.tw10437218760885390764 : True := trivial
theorem Mine.tst.tw8371671923278125088 : True := trivial
theorem Mine.tst.tw3398142682976917934 : True := trivial
theorem Mine.tst.tw3463451804696135937 : True := trivial
theorem Mine.tst.tw4297610562328670374 : True := trivial
theorem Mine.tst.tw235490751608732313 : True := trivial
theorem Mine.tst.tw8960504879730915146 : True := trivial
theorem Mine.tst.tw7595679863678046376 : True := trivial
theorem Mine.tst.tw2570467822951076780 : True := trivial
theorem Mine.tst.tw2099486825449581010 : True := trivial
theorem Mine.tst.tw13555154383680995558 : True := trivial
theorem Mine.tst.tw8953933777551466896 : True := trivial
theorem Mine.tst.tw13384570342285205654 : True := trivial
theorem Mine.tst.tw7002063411398196330 : True := trivial
theorem Mine.tst.tw17945241047928192201 : True := trivial
theorem Mine.tst.tw15369056050916963759 : True := trivial
theorem Mine.tst.tw17623758892769816026 : True := trivial
theorem Mine.tst.tw16853017135409768993 : True := trivial
theorem Mine.tst.tw15151003313695874015 : True := trivial
theorem Mine.tst.tw7193374540756677897 : True := trivial
theorem Mine.tst.tw274535213436566913 : True := trivial
theorem Mine.tst.tw17965795323189861727 : True := trivial
theorem Mine.tst.tw5583254310695856735 : True := trivial
theorem Mine.tst.tw16357963599704913304 : True := trivial
theorem Mine.tst.tw8402756630123920069 : True := trivial
theorem Mine.tst.tw1082628136773302304 : True := trivial
theorem Mine.tst.tw8056697516258567208 : True := trivial
theorem Mine.tst.tw4842571122807329155 : True := trivial
theorem Mine.tst.tw1036465413173828283 : True := trivial
theorem Mine.tst.tw8970826739936448471 : True := trivial
theorem Mine.tst.tw12543053173179287685 : True := trivial
theorem Mine.tst.tw9216706986811214905 : True := trivial
theorem Mine.tst.tw11054047641963989779 : True := trivial
theorem Mine.tst.tw9395024593681753214 : True := trivial
theorem Mine.tst.tw8582757519889189070 : True := trivial
theorem Mine.tst.tw9455401568326782241 : True := trivial
theorem Mine.tst.tw15204357938482763544 : True := trivial
theorem Mine.tst.tw5873742937066267425 : True := trivial
theorem Mine.tst.tw11829256289793459340 : True := trivial
theorem Mine.tst.tw4776006605770723056 : True := trivial
theorem Mine.tst.tw10307974027065848422 : True := trivial
theorem Mine.tst.tw14659410597656937491 : True := trivial
theorem Mine.tst.tw18284681816677908876 : True := trivial
theorem Mine.tst.tw8311513093753952863 : True := trivial
theorem Mine.tst.tw11832554189115836069 : True := trivial
theorem Mine.tst.tw17459497650508827947 : True := trivial
namespace Mine
example : (fun (_ : OpenLaw) (_ : Params → Frag) => True) PySem.Challenge.rw_rg0028_01 Mine.hd.heap_1_39 := by
  k_fill
  trivial
set_option maxRecDepth 100000 in
set_option maxHeartbeats 8000000 in
theorem tst : PySem.Challenge.rw_rg0028_01.Holds := by
  w_on; o_law; k_head; (case hw => w_witness2)
  k_go0
  all_goals try k_fold
  rename Fr (ghostOf _ _) _ _ _ => F9
  rename Below callerA _ [] _ => K9
  rename News (ghostOf _ _) _ _ _ => N9
  rename Frag.In _ (ghostOf _ _) => X9
  rename Top _ _ _ _ _ _ => T9
  rename IntsAre _ _ => I9
  rename ¬ ((63 : Nat) : Int) < _ => c9
  refine' law_body ?hb ?hK ?hF ?hX ?hT ?l0 ?hE ?hbl ?hC ?hsl ?hI ?hz ?hcV ?hcF ?hcW ?hN ?hm ?hQ
  case hF => exact F9
  case hK => exact K9
  case hX => exact X9
  case hT => exact T9
  case hN => exact N9
  case hC => exact codeHd
  case hsl => exact lifted
  case hI => exact I9
  case hb => k_dflt k_is
  case l0 => assumption
  case hE => passes_own
  case hbl => rfl
  case hz => exact c9
  case hcV => assumption
  case hcF => assumption
  case hcW => assumption
  case hm => rfl
  case hQ =>
    intro h' tk' m' led' F' N' hR69
    obtain ⟨pt, h5⟩ := hR69
    k_steps
end Mine
theorem PySem.Challenge.cw_rg0028_01_holds : PySem.Challenge.rw_rg0028_01.Holds := by
  exact Mine.tst
